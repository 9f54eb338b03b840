import PyProof.Rows.All
import Wide.All
import OpenK.AllK
import Wide.FinOn
import HandS.ForMost
import HandS.Defaults
import HandS.IsInst
import HandS.Deep
import HandS.StrMore
import HandS.Wide
import HandS.Ends
import PyProof.ReprRoads
import HandS.ExcInit
import HandS.ExcField
import HandS.ExcOwn
import HandS.WordsExc
import HandS.TryOnly
import KE.IntTextLaws
import HandS.RaiseMore
import HandS.Style
import HandS.TupAny
import HandS.Rev
import HandS.Zip
import HandS.Small
import HandS.Flt
import HandS.MakeKw
import HandS.FStr
import KE.KCallOwn
import PyProof.InstNe
import PyProof.NeKinds
import PyProof.SeqInW
import HandS.OwnEq
import HandS.More
import HandS.TupLe
import KE.GoesMore
import HandS.TupMul
import HandS.Conv
import HandS.Iter
import HandS.SortRule
import HandS.SortInts
import KE.DataMinMax
import KE.SortData
import HandS.Strs
import KE.GoesZip
import HandS.SetFor
import HandS.TupSets
import HandS.SetKeys
import HandS.Flow
import PyProof.DictMoreH
import KE.KSortTupG
import HandS.DictTup
import HandS.ExcIs
import KE.KExcIs
import HandS.NoneIn
import PySem.Challenge.RW_pinnedcards_k05_cards_read
set_option Elab.async false
set_option linter.all false
set_option maxRecDepth 100000
set_option maxHeartbeats 4000000
namespace L2.Pc
open PySem PySem.Spec PyProof.Rows
/-! ### defs whose frame no builtin repr surrounds: the promise -/
structure FnG (P : Program) (w : World) (K : PySem.W.Frag) (mg : Str → Option Value) (base : Heap)
    (CX : CXT) (k : Nat) (f : Addr) (fd : FuncData) (ps : List Str) (sp : Sp) : Prop where
  len : ∀ vs H Q E, sp vs H Q E → vs.length = ps.length
  go : ∀ (A : Around) (outer : List Env) (s : Shared) (H : Hp) (args : Args) (us : List Value)
    (vs : List V) (Q : VK) (E : XK), A.guards = some [] → Room k A → Env0 P w K mg base A outer s H →
    BindsTo s fd args (ps.zip us) → Vals vs us → sp vs H Q E →
    codeAny (model P w) A (.call (.ref f) args) (CR CX outer P w H s Q E) s
section
variable {P : Program} {w : World} {K : PySem.W.Frag} {mg : Str → Option Value} {base : Heap}
  {CX : CXT} {f : Addr} {fd : FuncData} {N ps : List Str} {sp sp' : Sp} {k j : Nat}
theorem FnG.mono (F : FnG P w K mg base CX j f fd ps sp) (h : j ≤ k) : FnG P w K mg base CX k f fd ps sp :=
  ⟨F.len, fun A o s H a us vs Q E g r => F.go A o s H a us vs Q E g (r.mono h)⟩
theorem FnG.imp (F : FnG P w K mg base CX k f fd ps sp) (h : ∀ vs H Q E, sp' vs H Q E → sp vs H Q E) :
    FnG P w K mg base CX k f fd ps sp' :=
  ⟨fun vs H Q E q => F.len vs H Q E (h _ _ _ _ q),
   fun A o s H a us vs Q E g r e b v q => F.go A o s H a us vs Q E g r e b v (h _ _ _ _ q)⟩
/-- a def as it stands behind the top, its defaults of any form -/
structure Df (K : PySem.W.Frag) (x qual : Str) (st : Stmt) (f : Addr) (fd : FuncData) : Prop where
  ex : ∃ (oc : Value) (od : Option Addr) (dV kV doc pm : Value) (an : Option Addr) (cdv ct : Value)
      (osl : Array (Option Value)),
    fd = PySem.W.fnOf x qual (defArgs st) (defBody st) (defScope st) dV kV doc pm an cdv ct ∧
    K.lookup f = some ⟨oc, od, .func fd, osl⟩ ∧ PySem.W.codeIn K cdv qual = true
theorem guards_deep {A : Around} {env : Env} (h : A.guards = some []) : (A.deeper env).guards = some [] := h
/-- the def's body, as a term of rules, and its reading -/
theorem Df.ok {x qual : Str} {st : Stmt} (F : Df K x qual st f fd) (S : FnScope N ps (defScope st))
    (len : ∀ vs H Q E, sp vs H Q E → vs.length = ps.length)
    (hb : ∀ (cdv : Value) (A : Around) (outer : List Env) (s : Shared) (H : Hp) (vs : List V) (Q : VK) (E : XK),
      (A.deeper (envOfC qual (defScope st) s.heap.objs.size f cdv)).guards = some [] →
      Room k (A.deeper (envOfC qual (defScope st) s.heap.objs.size f cdv)) → sp vs H Q E →
      ∃ t, PSs (cxOf CX P w K mg base N qual (defScope st) f cdv A outer s H E) (defBody st) t ∧
        t { nx := fun _ H' => Q .non H', rt := Q } (start N vs) H) :
    FnG P w K mg base CX (k + 1) f fd ps sp := by
  obtain ⟨oc, od, dV, kV, doc, pm, an, cdv, ct, osl, rfl, lk, hc⟩ := F.ex
  refine ⟨len, fun A outer s H args us vs Q E hga hr e0 hbi r hsp => ?_⟩
  have hlen := len _ _ _ _ hsp
  have kin : K.In s.heap := e0.mod.kin.keeps (fun b o e => (e0.bs b o e).1)
  have hlm : s.heap.NoLimit := e0.mod.nolimit.keeps (fun b o e => (e0.bs b o e).1)
  have kinds : ∀ y ∈ ps.zip us, (defScope st).names.lookup y.1 = some .local ∨
      ((defScope st).names.lookup y.1 = some .cell ∧
        ((cellsFrom (s.heap.objs.size + 1) (defScope st).names []).lookup y.1).isSome = true) := by
    rintro ⟨n, v⟩ hy
    rcases S.par n (List.of_mem_zip hy).1 with h1 | h1
    · left; exact h1
    · right; exact ⟨h1, PySem.W.cellsFrom_some _ _ _ (Or.inl h1)⟩
  apply codeAny_call_function hr.depth (kin _ _ lk) rfl S.co S.gen rfl (PySem.W.codeRec_of kin hc) (hbi _ _ _ _ ?_)
  apply wpAny_newFunctionEnv_cells S.kind kinds
  intro env he s1 hx
  subst he
  refine ⟨hlm.keeps hx.toInCall.keep, codeAny_func ?_⟩
  obtain ⟨t, ht, hq⟩ := hb cdv A outer s H vs Q E (guards_deep hga) (hr.deeper _) hsp
  have I0 : Inv (cxOf CX P w K mg base N qual (defScope st) f cdv A outer s H E) [] (start N vs) H s1 :=
    inv_start S hr.hd e0 hlen r hx
  refine wpAny_mono (ht.run [] s1 (start N vs) H _ I0 hq) ?_ (fun e s' hs => hs)
  intro fl s' hs
  cases fl with
  | ret u =>
    obtain ⟨v, σ', H', J, rv, q⟩ := hs
    exact ⟨v, H', J.os, J.bare, J.base, J.hok, rv, q⟩
  | next =>
    obtain ⟨σ', H', J, q⟩ := hs
    exact ⟨V.non, H', J.os, J.bare, J.base, J.hok, rfl, q⟩
  | brk => obtain ⟨_, _, _, q⟩ := hs; exact q.elim
  | cont => obtain ⟨_, _, _, q⟩ := hs; exact q.elim
end
section
variable {X : Cx} {CX : CXT} {k n : Nat} {ks : List Str} {gV : List V → List V → List V} {sp : Sp} {E : XK} {x : Str}
  {p pos : Pos} {e : Expr} {es : List Expr} {kws : List Keyword} {t tk : TA}
def tKn (n m : Nat) (gV : List V → List V → List V) (sp : Sp) (E : XK) (t tk : TA) : TE := fun σ H Q =>
  t σ H fun vs H1 => tk σ H1 fun zs H2 => vs.length = n ∧ zs.length = m ∧ sp (gV vs zs) H2 Q E
end
theorem kb_pos {K : PySem.W.Frag} {fd : FuncData} {ps : List Str} {n : Nat}
    (h : ∀ us : List Value, us.length = n → bindArgs fd ⟨us, []⟩ = pure (ps.zip us)) :
    KBn K fd ps n [] (fun us _ => us) (fun vs _ => vs) :=
  ⟨fun s us ws _ hu _ => by
    have e : ([] : List Str).zip ws = [] := rfl
    rw [e]; exact .of_eq (h us hu), fun r _ => r⟩
end L2.Pc
namespace L2.Pc
open PySem PySem.Spec PyProof.Rows
/-- the modules' dict is the head's, untracked -/
structure Sm (base : Heap) : Prop where
  ns : ∃ m, base.Ns sysModules m
/-! ### the law's call, from such a promise -/
section
variable {P : Program} {w : World} {K : PySem.W.Frag} {mg mb : Str → Option Value} {CX : CXT} {k : Nat}
  {fa a : Addr} {fd : FuncData} {x : Str} {sp : Sp} {s1 : Shared} {vs : List Value} {ns : List Int}
def LawEnd (s1 : Shared) (r : Result) (s' : Shared) : Prop :=
  r = .ok (.ret (.bool true)) ∧ OldK s1.heap s'.heap ∧ s'.os = s1.os ∧ AllBare s'.gens
theorem law_core {H : Hp} (KX : K.In s1.heap) (hns : s1.heap.Ns mainGlobals mg) (hb : s1.heap.Ns builtinsNs mb)
    (hbb : ∀ y : Str, y ≠ "__name__" → mb y = bootBuiltins y) (hlim : s1.heap.NoLimit) (hge : s1.gens = #[])
    (ha : s1.heap.get? a = some { cls := .type "list", data := .seq vs.toArray }) (hr : Room k callerA)
    (hsm : ∃ m, s1.heap.Ns sysModules m) (F : ∀ base : Heap, K.In base → base.Ns mainGlobals mg → Sm base → FnG P w K mg base CX k fa fd [x] sp)
    (hbind : ∀ (s : Shared) (u : Value), BindsTo s fd ⟨[u], []⟩ [(x, u)])
    (hsp : sp [.ref a] H (fun v _ => v = .bl true) fun _ _ _ => False)
    (hCX : ∀ e s', CX [] H s1 (fun _ _ _ => False) e s' → False)
    (hO : Only H) (hok : HOk P w H s1.heap) (hA : ∀ b, H b ≠ none → b = a) (hK : H a ≠ none → K.lookup a = none) :
    codeAny (model P w) callerA (.call (.ref fa) ⟨[.ref a], []⟩) (LawEnd s1) s1 := by
  have keep1 : ∀ {b : Addr} {o : Obj}, s1.heap.get? b = some o → H b = none → (hidT s1.heap H).get? b = some o :=
    fun e n => hidT_get e n
  have isA : ∀ {b : Addr} {u : HO}, H b = some u → b = a := fun {b u} q => hA b (by rw [q]; exact Option.some_ne_none _)
  have nodict : ∀ {b : Addr} {o : Obj} {es : Array DictEntry} {ep : Nat},
      s1.heap.get? b = some o → o.data = .dict es ep → H b = none := by
    intro b o es ep e d
    cases q : H b with
    | none => rfl
    | some u =>
      have e2 := isA q
      subst e2
      rw [ha] at e
      cases e
      cases (show Data.seq vs.toArray _ = Data.dict es ep from d)
  have ns1 : ∀ {b : Addr} {m : Str → Option Value}, s1.heap.Ns b m → (hidT s1.heap H).Ns b m := by
    rintro b m ⟨o, es, ep, e, d, r⟩
    exact ⟨o, es, ep, keep1 e (nodict e d), d, r⟩
  have kin : K.In (hidT s1.heap H) := by
    intro b o e
    refine keep1 (KX b o e) ?_
    cases q : H b with
    | none => rfl
    | some u =>
      have e2 := isA q
      subst e2
      rw [hK (by rw [q]; exact Option.some_ne_none _)] at e
      cases e
  have md : Mod K mg (hidT s1.heap H) :=
    ⟨kin, ns1 hns, ⟨mb, ns1 hb, hbb⟩, by obtain ⟨mc, h1, h2⟩ := hlim; exact ⟨mc, ns1 h1, h2⟩⟩
  have en : Env0 P w K mg (hidT s1.heap H) callerA [] s1 H :=
    ⟨rfl, md, fun b o e => of_hidT e, Nat.le_of_eq (hidT_size _ _), trivial, fun b hb => (nomatch hb), hok, .of_eq hge⟩
  have run := (F _ kin (ns1 hns) (let ⟨m, hm⟩ := hsm; ⟨m, ns1 hm⟩)).go callerA [] s1 H ⟨[.ref a], []⟩ [.ref a] [.ref a] _ _ rfl hr en
    (hbind s1 (.ref a)) (.cons rfl .nil) hsp
  refine codeAny_mono run ?_
  intro r s' h
  cases r with
  | error e => exact (hCX e s' h).elim
  | ok fl =>
    cases fl with
    | next => exact h.elim
    | brk => exact h.elim
    | cont => exact h.elim
    | ret u =>
      obtain ⟨v, H', os, bare, un, hok2, r2, q⟩ := h
      have qv : v = .bl true := q
      subst qv
      have hu : u = Value.bool true := r2
      subst hu
      refine ⟨rfl, OldK.of_keep ?_, os, bare⟩
      intro b o e
      cases q : H b with
      | none => exact un.keep b o e q (fun z => nomatch z) (fun z => nomatch z)
      | some u =>
        rcases hO b with z | ⟨ob, xs, z⟩
        · rw [q] at z
          cases z
        · obtain ⟨e1, _⟩ := hok b _ z
          obtain ⟨e2, _⟩ := hok2 b _ (un.frzs b ob _ z)
          rw [e] at e1
          cases e1
          exact e2
theorem law_callG (KX : K.In s1.heap) (hns : s1.heap.Ns mainGlobals mg) (hb : s1.heap.Ns builtinsNs mb)
    (hbb : ∀ y : Str, y ≠ "__name__" → mb y = bootBuiltins y) (hlim : s1.heap.NoLimit) (hge : s1.gens = #[])
    (ha : s1.heap.get? a = some { cls := .type "list", data := .seq vs.toArray }) (hi : IntsAre vs ns)
    (hl : ns.length ≤ sizeLine) (hr : Room k callerA)
    (hsm : ∃ m, s1.heap.Ns sysModules m) (F : ∀ base : Heap, K.In base → base.Ns mainGlobals mg → Sm base → FnG P w K mg base CX k fa fd [x] sp)
    (hbind : ∀ (s : Shared) (u : Value), BindsTo s fd ⟨[u], []⟩ [(x, u)])
    (hsp : ∀ H : Hp, Only H → SqL K H a (ns.map V.int) → sp [.ref a] H (fun v _ => v = .bl true) fun _ _ _ => False)
    (hCX : ∀ H e s', CX [] H s1 (fun _ _ _ => False) e s' → False) :
    codeAny (model P w) callerA (.call (.ref fa) ⟨[.ref a], []⟩) (LawEnd s1) s1 := by
  have rv := vals_ints hi
  cases hk : K.lookup a with
  | some o =>
    have e := KX a o hk
    rw [ha] at e
    cases e
    have hsz : vs.toArray.size ≤ sizeLine := by rw [List.size_toArray, hi.length]; exact hl
    refine law_core (H := fun _ => none) KX hns hb hbb hlim hge ha hr hsm F hbind ?_ (fun e s' => hCX _ e s')
      (fun _ => Or.inl rfl) (fun b u z => by cases z) (fun b z => absurd rfl z) (fun z => absurd rfl z)
    exact hsp _ (fun _ => Or.inl rfl) (Or.inr ⟨_, vs.toArray, _, hk, rfl, rfl, rfl, hsz, by simpa using rv⟩)
  | none =>
    have hin : (if a = a then some (HO.frz { cls := .type "list", data := .seq vs.toArray } (.lst (ns.map V.int))) else none)
      = some (HO.frz { cls := .type "list", data := .seq vs.toArray } (.lst (ns.map V.int))) := if_pos rfl
    have only : Only (fun b => if b = a then some (.frz { cls := .type "list", data := .seq vs.toArray } (.lst (ns.map V.int))) else none) := by
      intro b
      by_cases hb : b = a
      · right; exact ⟨_, _, if_pos hb⟩
      · left; exact if_neg hb
    refine law_core KX hns hb hbb hlim hge ha hr hsm F hbind (hsp _ only (Or.inl (Or.inr ⟨_, hin⟩))) (fun e s' => hCX _ e s') only ?_ ?_ (fun _ => hk)
    · intro b u z
      by_cases hb : b = a
      · have z2 := (if_pos hb).symm.trans z
        cases z2
        subst hb
        exact ⟨ha, by rw [List.length_map]; exact hl, vs, _, rv, ha⟩
      · have z2 := (if_neg hb).symm.trans z
        cases z2
    · intro b z
      by_cases hb : b = a
      · exact hb
      · exact absurd (if_neg hb) z
end
end L2.Pc
namespace L2.Pc
open PySem PySem.Spec PyProof.Rows
/-! ### what stays: every tracked object but those that are known by a property alone -/
def isX : HO → Bool
  | .ext _ => true
  | _ => false
def Mx (H H' : Hp) : Prop := ∀ a o, H a = some o → isX o = false → H' a = some o
theorem Mx.refl (H : Hp) : Mx H H := fun _ _ h _ => h
theorem Mx.trans {H H1 H2 : Hp} (a : Mx H H1) (b : Mx H1 H2) : Mx H H2 := fun x o h n => b x o (a x o h n) n
theorem _root_.L2.Same.mx {H H' : Hp} (a : Same H H') : Mx H H' := fun x o h _ => a x o h
theorem Mx.at {H H' : Hp} {a : Addr} {o : HO} (e : Mx H H') (h : H a = some o) (n : isX o = false := by rfl) : H' a = some o := e a o h n
theorem _root_.L2.Same.at {H H' : Hp} {a : Addr} {o : HO} (e : Same H H') (h : H a = some o) : H' a = some o := e a o h
theorem _root_.L2.Same.new {H : Hp} {p : Addr} {o : HO} (h : H p = none) : Same H (upd H p o) := fun b x e => by
  rw [upd_ne (ne_of_none e h)]; exact e
theorem Mx.new {H : Hp} {p : Addr} {o : HO} (h : H p = none) : Mx H (upd H p o) := Same.mx (Same.new h)
theorem Mx.free {H H' : Hp} {p : Addr} (e : Same H H') (h : H' p = none) : H p = none := e.free h
theorem _root_.L2.Rd.mx {H H' : Hp} {a : Addr} {u : HO} (e : Mx H H') (n : isX u = false) (h : Rd H a u) : Rd H' a u := by
  rcases h with h | ⟨o, h⟩
  · exact .inl (e a _ h n)
  · exact .inr ⟨o, e a _ h rfl⟩
theorem _root_.L2.SqL.mx {K : PySem.W.Frag} {H H' : Hp} {a : Addr} {xs : List V} (e : Mx H H') (h : SqL K H a xs) : SqL K H' a xs := by
  rcases h with h | h
  · exact .inl (Rd.mx e rfl h)
  · exact .inr h
theorem _root_.L2.SqT.mx {K : PySem.W.Frag} {H H' : Hp} {a : Addr} {xs : List V} (e : Mx H H') (h : SqT K H a xs) : SqT K H' a xs := by
  rcases h with h | h
  · exact .inl (Rd.mx e rfl h)
  · exact .inr h
/-! ### data: None, truths, ints, texts, lists, tuples, dicts of these -/
def keyD : Key → PyData
  | .inl i => .int i
  | .inr x => .str x
mutual
inductive Da (K : PySem.W.Frag) (H : Hp) : V → PyData → Prop
  | non : Da K H .non .none
  | bl (b : Bool) : Da K H (.bl b) (.bool b)
  | int (i : Int) : Da K H (.int i) (.int i)
  | str (x : Str) : Da K H (.str x) (.str x)
  | lst {a : Addr} {xs : List V} {ds : List PyData} : SqL K H a xs → DaAll K H xs ds → Da K H (.ref a) (.list ds)
  | tup {a : Addr} {xs : List V} {ds : List PyData} : SqT K H a xs → DaAll K H xs ds → Da K H (.ref a) (.tuple ds)
  | dct {a : Addr} {kvs : List (Key × V)} {ds : List PyData} : Rd H a (.dK kvs) → DaAll K H (kvs.map (·.2)) ds →
      Da K H (.ref a) (.dict ((kvs.map fun p => keyD p.1).zip ds))
inductive DaAll (K : PySem.W.Frag) (H : Hp) : List V → List PyData → Prop
  | nil : DaAll K H [] []
  | cons {v : V} {vs : List V} {d : PyData} {ds : List PyData} : Da K H v d → DaAll K H vs ds → DaAll K H (v :: vs) (d :: ds)
end
mutual
theorem Da.mx {K : PySem.W.Frag} {H H' : Hp} (e : Mx H H') : ∀ {v : V} {d : PyData}, Da K H v d → Da K H' v d
  | _, _, .non => .non
  | _, _, .bl b => .bl b
  | _, _, .int i => .int i
  | _, _, .str x => .str x
  | _, _, .lst h hs => .lst (SqL.mx e h) (DaAll.mx e hs)
  | _, _, .tup h hs => .tup (SqT.mx e h) (DaAll.mx e hs)
  | _, _, .dct h hs => .dct (Rd.mx e rfl h) (DaAll.mx e hs)
theorem DaAll.mx {K : PySem.W.Frag} {H H' : Hp} (e : Mx H H') : ∀ {vs : List V} {ds : List PyData}, DaAll K H vs ds → DaAll K H' vs ds
  | _, _, .nil => .nil
  | _, _, .cons h hs => .cons (Da.mx e h) (DaAll.mx e hs)
end
theorem DaAll.len {K : PySem.W.Frag} {H : Hp} : ∀ {vs : List V} {ds : List PyData}, DaAll K H vs ds → vs.length = ds.length
  | _, _, .nil => rfl
  | _, _, .cons _ hs => congrArg (· + 1) (DaAll.len hs)
section
variable {X : Cx} {pins : List (Addr × Obj)} {σ : L2.St} {H : Hp} {s : Shared}
theorem Sm.free (M : Sm X.base) (I : Inv X pins σ H s) : H sysModules = none := by
  obtain ⟨m, o, es, ep, h, _⟩ := M.ns
  exact (I.bs _ _ h).2
theorem Sm.noList (M : Sm X.base) (I : Inv X pins σ H s) {a : Addr} {xs : List V} (h : SqL X.K H a xs) : a ≠ sysModules := by
  rintro rfl
  rcases h with (h | ⟨o, h⟩) | ⟨o, its, n, h, _, _, hd, _⟩
  · rw [M.free I] at h; cases h
  · rw [M.free I] at h; cases h
  · obtain ⟨m, o2, es, ep, h2, hd2, _⟩ := M.ns
    have e := I.mod.kin _ _ h
    rw [h2] at e
    cases e
    rw [hd2] at hd
    cases hd
theorem pairs_reads {h : Heap} {P : Program} {w : World} : ∀ {l : List DictEntry} {vs : List (Key × Value)}, Pairs (mixKind P w) l vs →
    ReadsAll h (l.map (·.key)) (vs.map fun p => keyD p.1) []
  | _, _, .nil => .nil
  | e :: l, (k, v) :: vs, .cons h1 h2 h3 => by
    have r := pairs_reads (h := h) h3
    have hk : Reads h e.key (keyD k) [] := by
      rcases keyIs_shape (show keyIs k e.key = true from h1) with ⟨i, t, rfl, e2⟩ | ⟨x, t, rfl, e2⟩
      · rw [e2]; exact .int i t
      · rw [e2]; exact .str x t
    exact ReadsAll.cons hk r
theorem pairs_vals {P : Program} {w : World} : ∀ {l : List DictEntry} {vs : List (Key × Value)}, Pairs (mixKind P w) l vs → l.map (·.val) = vs.map (·.2)
  | _, _, .nil => rfl
  | e :: l, (k, v) :: vs, .cons h1 h2 h3 => by
    rw [List.map_cons, List.map_cons, pairs_vals h3, h2]
theorem kv_vals : ∀ {kvs : List (Key × V)} {vs : List (Key × Value)}, KV kvs vs → Vals (kvs.map (·.2)) (vs.map (·.2)) ∧ kvs.map (fun p => keyD p.1) = vs.map (fun p => keyD p.1)
  | _, _, .nil => ⟨.nil, rfl⟩
  | (k, v) :: kvs, (k2, v2) :: vs, .cons ⟨h1, h2⟩ h3 => by
    obtain ⟨r, e⟩ := kv_vals h3
    refine ⟨.cons h2 r, ?_⟩
    have h1 : k = k2 := h1
    rw [List.map_cons, List.map_cons, e, h1]
mutual
theorem Da.reads (M : Sm X.base) (I : Inv X pins σ H s) : ∀ {v : V} {d : PyData} {u : Value}, Da X.K H v d → RelV v u → ∃ as, Reads s.heap u d as ∧ sysModules ∉ as
  | _, _, _, .non, r => by cases r; exact ⟨_, .none, fun h => nomatch h⟩
  | _, _, _, .bl b, r => by cases r; exact ⟨_, .bool b, fun h => nomatch h⟩
  | _, _, _, .int i, r => by obtain ⟨t, rfl⟩ := r; exact ⟨_, .int i t, fun h => nomatch h⟩
  | _, _, _, .str x, r => by obtain ⟨t, rfl⟩ := r; exact ⟨_, .str x t, fun h => nomatch h⟩
  | _, _, _, .lst h hs, r => by
    cases r
    obtain ⟨its, rv, ⟨o, n, ho, hc, _, hd⟩, _⟩ := I.list h
    obtain ⟨as, hr, hn⟩ := DaAll.reads M I hs rv
    refine ⟨_, .list ho hc hd hr, fun z => ?_⟩
    rcases List.mem_cons.mp z with z | z
    · exact M.noList I h z.symm
    · exact hn z
  | _, _, _, .tup h hs, r => by
    cases r
    obtain ⟨its, rv, ⟨o, ho, hc, n, hd⟩, _⟩ := I.tuple h
    obtain ⟨as, hr, hn⟩ := DaAll.reads M I hs rv
    exact ⟨_, .tuple ho hc hd hr, hn⟩
  | _, _, _, @Da.dct _ _ a kvs ds h hs, r => by
    cases r
    obtain ⟨_, hsm, vs, kv, o, es, ep, ho, hx, hd, _, pr, _⟩ := h.ok I.hok
    obtain ⟨rv, ek⟩ := kv_vals kv
    obtain ⟨as, hr, hn⟩ := DaAll.reads M I hs rv
    have l1 := hs.len
    rw [List.length_map] at l1
    have e1 : ((kvs.map fun p => keyD p.1).zip ds).map (·.1) = kvs.map fun p => keyD p.1 := List.map_fst_zip (by rw [List.length_map]; omega)
    have e2 : ((kvs.map fun p => keyD p.1).zip ds).map (·.2) = ds := List.map_snd_zip (by rw [List.length_map]; omega)
    refine ⟨_, .dict (as := []) (bs := as) ho hx.1 hd ?_ ?_, fun z => ?_⟩
    · rw [e1, ek]; exact pairs_reads pr
    · rw [e2, pairs_vals pr]; exact hr
    · rcases List.mem_cons.mp (show sysModules ∈ a :: ([] ++ as) from z) with z | z
      · rw [← z] at hsm; exact absurd hsm (by decide)
      · exact hn (by simpa using z)
theorem DaAll.reads (M : Sm X.base) (I : Inv X pins σ H s) : ∀ {vs : List V} {ds : List PyData} {us : List Value}, DaAll X.K H vs ds → Vals vs us → ∃ as, ReadsAll s.heap us ds as ∧ sysModules ∉ as
  | _, _, _, .nil, .nil => ⟨_, .nil, fun h => nomatch h⟩
  | _, _, _, .cons h hs, .cons r rs => by
    obtain ⟨as, q1, n1⟩ := Da.reads M I h r
    obtain ⟨bs, q2, n2⟩ := DaAll.reads M I hs rs
    refine ⟨_, .cons q1 q2, fun z => ?_⟩
    rcases List.mem_append.mp z with z | z
    · exact n1 z
    · exact n2 z
end
end
/-- repr of data -/
def rRepr (K : PySem.W.Frag) : List V → Hp → VK → Prop := fun xs H Q => ∃ (x : V) (d : PyData), xs = [x] ∧ Da K H x d ∧
  d.showable = true ∧ d.depth ≤ 60 ∧ d.shown.length ≤ sizeLine ∧ Q (.str d.shown) H
theorem call_reprD {X : Cx} (hga : X.A.guards = some []) (hu : X.A.units + 64 < cLine) (M : Sm X.base) : CallR X (.builtin "repr") (rRepr X.K) := by
  intro pins s σ H xs us Q I r h
  obtain ⟨x, d, rfl, hd, hs, hdp, hz, q⟩ := h
  obtain ⟨u, rfl, ru⟩ : ∃ u, us = [u] ∧ RelV x u := by
    cases r with
    | cons p q => cases q; exact ⟨_, rfl, p⟩
  cases hd with
  | non => cases ru; exact PySem.P.repr_of_none ⟨.str _, H, I.tok _, ⟨_, rfl⟩, q⟩
  | bl b => cases ru; exact PySem.P.repr_of_bool ⟨.str _, H, I.tok _, ⟨_, rfl⟩, q⟩
  | int i =>
    obtain ⟨t, rfl⟩ := ru
    exact PySem.P.repr_of_int (by simpa [PyData.showable] using hs) ⟨.str _, H, I.tok _, ⟨_, rfl⟩, q⟩
  | str y =>
    obtain ⟨t, rfl⟩ := ru
    exact PySem.P.repr_of_str ⟨.str _, H, I.tok _, ⟨_, rfl⟩, q⟩ hz
  | lst h1 h2 =>
    cases ru
    obtain ⟨as, rd, hn⟩ := Da.reads M I (.lst h1 h2) rfl
    exact PySem.repr_of_reads' rd hs (fun _ => hn) hga (by omega) (fun _ _ e => e) (fun h' u tk hk => ⟨.str _, H, I.kept hk, ⟨_, rfl⟩, q⟩) hz
  | tup h1 h2 =>
    cases ru
    obtain ⟨as, rd, hn⟩ := Da.reads M I (.tup h1 h2) rfl
    exact PySem.repr_of_reads' rd hs (fun _ => hn) hga (by omega) (fun _ _ e => e) (fun h' u tk hk => ⟨.str _, H, I.kept hk, ⟨_, rfl⟩, q⟩) hz
  | dct h1 h2 =>
    cases ru
    obtain ⟨as, rd, hn⟩ := Da.reads M I (.dct h1 h2) rfl
    exact PySem.repr_of_reads' rd hs (fun _ => hn) hga (by omega) (fun _ _ e => e) (fun h' u tk hk => ⟨.str _, H, I.kept hk, ⟨_, rfl⟩, q⟩) hz
end L2.Pc
namespace L2.Pc
open PySem PySem.Spec PyProof.Rows
/-! ### a list or dict known by a property of what it holds -/
def flatO : HO → Prop
  | .lst _ => True
  | .dK _ => True
  | _ => False
def AbsO (P : Program) (w : World) (R : HO → Prop) (z : Addr) : HO :=
  .ext fun h => ∃ u, flatO u ∧ R u ∧ ObjOk P w (fun _ => none) h z u
end L2.Pc
namespace L2.Pc
open PySem PySem.Spec PyProof.Rows
/-! ### rules that take values of several kinds -/
structure Gm (mg : Str → Option Value) (x : Str) (v : V) : Prop where
  ex : ∃ u, mg x = some u ∧ RelV v u
section
variable {X : Cx} {x : Str} {v : V} {pos : Pos}
theorem pe_gm (h : Gm X.mg x v) (hg : Gl X x) (hd : (x == ("__debug__" : Str)) = false := by decide) : PE X (.Name x pos) (tC v) := by
  obtain ⟨u, h1, h2⟩ := h.ex
  exact pe_glob hg h1 h2 hd
def rAddM (K : PySem.W.Frag) : R2 := fun a b H Q =>
  rI0 (fun i j => .int (i + j)) a b H Q ∨ (∃ i j, a = .str i ∧ b = .str j ∧ i.length + j.length ≤ sizeLine ∧ Q (.str (i ++ j)) H) ∨
  rCat a b H Q ∨ rCatT K a b H Q
def rMulS : R2 := fun a b H Q => ∃ i n, a = .str i ∧ b = .int n ∧ MulOk i n ∧ Q (.str (Txt.mul i n)) H
theorem op_mulS : OpR X (binaryOp .Mult) rMulS := by
  intro pins s σ H a b v u Q I ra rb h
  obtain ⟨i, n, rfl, rfl, hok, q⟩ := h
  obtain ⟨t, rfl⟩ := ra
  obtain ⟨t2, rfl⟩ := rb
  exact PySem.SB.mul hok fun t' k => ⟨.str _, H, I.tok _, ⟨_, rfl⟩, q⟩
def CMa (i j : Int) : Prop := CMul i j ∨ CMulW i j
theorem op_mulI : OpR X (binaryOp .Mult) (rI CMa fun i j => .int (i * j)) := by
  intro pins s σ H a b v u Q I ra rb h
  obtain ⟨i, j, e1, e2, hc | hc, q⟩ := h
  · exact op_mul pins s σ H a b v u Q I ra rb ⟨i, j, e1, e2, hc, q⟩
  · exact op_mulW pins s σ H a b v u Q I ra rb ⟨i, j, e1, e2, hc, q⟩
def rMulM : R2 := fun a b H Q => rI CMa (fun i j => .int (i * j)) a b H Q ∨ rMulS a b H Q ∨ rRep a b H Q
theorem op_mulM : OpR X (binaryOp .Mult) rMulM := by
  intro pins s σ H a b v u Q I ra rb h
  rcases h with h | h | h
  · exact op_mulI pins s σ H a b v u Q I ra rb h
  · exact op_mulS pins s σ H a b v u Q I ra rb h
  · exact op_rep pins s σ H a b v u Q I ra rb h
def rEqM (K : PySem.W.Frag) : R2 := fun a b H Q => rEq a b H Q ∨ rEqD K a b H Q
theorem op_eqM (hu : X.A.units + 64 < cLine) : OpR X (compareOp .Eq) (rEqM X.K) := by
  intro pins s σ H a b v u Q I ra rb h
  rcases h with h | h
  · exact op_eq pins s σ H a b v u Q I ra rb h
  · exact op_eqD hu pins s σ H a b v u Q I ra rb h
def rNeM (K : PySem.W.Frag) : R2 := fun a b H Q => rNe a b H Q ∨ rNeD K a b H Q
theorem op_neM (hu : X.A.units + 64 < cLine) : OpR X (compareOp .NotEq) (rNeM X.K) := by
  intro pins s σ H a b v u Q I ra rb h
  rcases h with h | h
  · exact op_ne pins s σ H a b v u Q I ra rb h
  · exact op_neD hu pins s σ H a b v u Q I ra rb h
def rInM (K : PySem.W.Frag) (neg : Bool) : R2 := fun a b H Q =>
  (∃ (c : Nat) (z : Str), a = .str ⟨#[c]⟩ ∧ b = .str z ∧ Q (.bl (if neg then !decide (c ∈ z.cps.toList) else decide (c ∈ z.cps.toList))) H) ∨ rIn K neg a b H Q
theorem op_inM : OpR X (compareOp .In) (rInM X.K false) := by
  intro pins s σ H a b v u Q I ra rb h
  rcases h with ⟨c, z, e1, e2, q⟩ | h
  · exact op_in_sign pins s σ H a b v u Q I ra rb ⟨c, z, e1, e2, q⟩
  · exact op_in_seq pins s σ H a b v u Q I ra rb h
theorem op_notInM : OpR X (compareOp .NotIn) (rInM X.K true) := by
  intro pins s σ H a b v u Q I ra rb h
  rcases h with ⟨c, z, e1, e2, q⟩ | h
  · exact op_notIn_sign pins s σ H a b v u Q I ra rb ⟨c, z, e1, e2, q⟩
  · exact op_notIn_seq pins s σ H a b v u Q I ra rb h
def rIxM (K : PySem.W.Frag) : R2 := fun a b H Q => rIxL K a b H Q ∨ rIxT K a b H Q ∨ rIxS a b H Q
theorem ixM : IxR X (rIxM X.K) := IxR.or ix_list (IxR.or ix_tup ix_str)
def rSlM (K : PySem.W.Frag) : V → Option Int → Option Int → Hp → VK → Prop := fun a lo hi H Q => rSlL K a lo hi H Q ∨ rSlS a lo hi H Q
def rIntM : List V → Hp → VK → Prop := fun xs H Q => (∃ i, xs = [.int i] ∧ Q (.int i) H) ∨ (∃ k, xs = [.bl k] ∧ Q (.int (if k then 1 else 0)) H) ∨
  ∃ a n, xs = [.str a] ∧ PySem.intText? a = some n ∧ a.length ≤ 640 ∧ Q (.int n) H
theorem call_intM : CallR X (.type "int") rIntM := by
  intro pins s σ H xs us Q I r h
  rcases h with h | h | h
  · exact call_int1 pins s σ H xs us Q I r (.inl h)
  · exact call_int1 pins s σ H xs us Q I r (.inr h)
  · exact call_int_str pins s σ H xs us Q I r h
end
section
variable {X : Cx} {o e : Expr} {to te : TE} {apos pos : Pos}
def rLen (K : PySem.W.Frag) : List V → Hp → VK → Prop := fun xs H Q => ∃ x n, xs = [x] ∧ LenV K x H n ∧ Q (.int (n : Nat)) H
theorem call_lenM : CallR X (.builtin "len") (rLen X.K) := call_len
def rAbs : List V → Hp → VK → Prop := fun xs H Q => ∃ i, xs = [.int i] ∧ Q (.int (if i < 0 then -i else i)) H
theorem call_absM : CallR X (.builtin "abs") rAbs := call_abs
def rStrip : V → List V → Hp → VK → Prop := fun x xs H Q => ∃ a b, x = .str a ∧ xs = [.str b] ∧ a.length ≤ sizeLine ∧ Q (.str (Txt.stripChars a b)) H
theorem mt_stripM : MtR X "str.strip" rStrip := mt_stripChars
def rUpper : V → List V → Hp → VK → Prop := fun x xs H Q => ∃ a, x = .str a ∧ xs = [] ∧ a.length ≤ 5592405 ∧ Q (.str (Txt.upper a)) H
theorem mt_upperM : MtR X "str.upper" rUpper := mt_upper
def rJoin (K : PySem.W.Frag) : V → List V → Hp → VK → Prop := fun x xs H Q => ∃ a p, ∃ ys : List Str, x = .str a ∧ xs = [.ref p] ∧
  (SqL K H p (ys.map V.str) ∨ SqT K H p (ys.map V.str)) ∧ (ys.map (·.length)).sum + ys.length * a.length ≤ 16777216 ∧ Q (.str (Txt.join a ys)) H
theorem mt_joinM : MtR X "str.join" (rJoin X.K) := mt_join
end
/-! ### a word between an expression and what follows -/
/-! ### a new object -/
def NewO (H : Hp) (o : HO) (Q : VK) : Prop := ∀ p, H p = none → Q (.ref p) (upd H p o)
theorem g_new {H : Hp} {o : HO} {Q : VK} (k : ∀ p H', H p = none → Same H H' → H' p = some o → Q (.ref p) H') : NewO H o Q :=
  fun p hp => k p _ hp (Same.new hp) upd_same
/-! ### a datum's class -/
def tyName : PyData → String
  | .none => "NoneType"
  | .bool _ => "bool"
  | .int _ => "int"
  | .str _ => "str"
  | .list _ => "list"
  | .tuple _ => "tuple"
  | .dict _ => "dict"
theorem Da.ty {K : PySem.W.Frag} {H : Hp} {v : V} {d : PyData} (h : Da K H v d) : TyX K H v (.type (tyName d)) := by
  cases h with
  | non => exact .base .non
  | bl b => exact .base (.bl b)
  | int i => exact .base (.int i)
  | str x => exact .base (.str x)
  | lst h _ =>
    rcases h with (h | ⟨o, h⟩) | ⟨o, its, n, h, hc, _⟩
    · exact .base (.lst h)
    · exact .base (.frz h)
    · exact .kList h hc
  | tup h _ =>
    rcases h with (h | ⟨o, h⟩) | ⟨o, its, n, h, hc, _⟩
    · exact .base (.tup h)
    · exact .fTuple h
    · exact .kTuple h hc
  | dct h _ =>
    rcases h with h | ⟨o, h⟩
    · exact .base (.dK h)
    · exact .fDict h
@[reducible] def isStr : PyData → Bool
  | .str _ => true
  | _ => false
@[reducible] def isInt : PyData → Bool
  | .int _ => true
  | .bool _ => true
  | _ => false
@[reducible] def isBool : PyData → Bool
  | .bool _ => true
  | _ => false
@[reducible] def isTup : PyData → Bool
  | .tuple _ => true
  | _ => false
theorem kit_isStr : ∀ d : PyData, kitB (tyName d) "str" = some (isStr d)
  | .none => (show kitB "NoneType" "str" = some false by decide +kernel)
  | .bool _ => (show kitB "bool" "str" = some false by decide +kernel)
  | .int _ => (show kitB "int" "str" = some false by decide +kernel)
  | .str _ => (show kitB "str" "str" = some true by decide +kernel)
  | .list _ => (show kitB "list" "str" = some false by decide +kernel)
  | .tuple _ => (show kitB "tuple" "str" = some false by decide +kernel)
  | .dict _ => (show kitB "dict" "str" = some false by decide +kernel)
theorem kit_isInt : ∀ d : PyData, kitB (tyName d) "int" = some (isInt d)
  | .none => (show kitB "NoneType" "int" = some false by decide +kernel)
  | .bool _ => (show kitB "bool" "int" = some true by decide +kernel)
  | .int _ => (show kitB "int" "int" = some true by decide +kernel)
  | .str _ => (show kitB "str" "int" = some false by decide +kernel)
  | .list _ => (show kitB "list" "int" = some false by decide +kernel)
  | .tuple _ => (show kitB "tuple" "int" = some false by decide +kernel)
  | .dict _ => (show kitB "dict" "int" = some false by decide +kernel)
theorem kit_isBool : ∀ d : PyData, kitB (tyName d) "bool" = some (isBool d)
  | .none => (show kitB "NoneType" "bool" = some false by decide +kernel)
  | .bool _ => (show kitB "bool" "bool" = some true by decide +kernel)
  | .int _ => (show kitB "int" "bool" = some false by decide +kernel)
  | .str _ => (show kitB "str" "bool" = some false by decide +kernel)
  | .list _ => (show kitB "list" "bool" = some false by decide +kernel)
  | .tuple _ => (show kitB "tuple" "bool" = some false by decide +kernel)
  | .dict _ => (show kitB "dict" "bool" = some false by decide +kernel)
theorem kit_isTup : ∀ d : PyData, kitB (tyName d) "tuple" = some (isTup d)
  | .none => (show kitB "NoneType" "tuple" = some false by decide +kernel)
  | .bool _ => (show kitB "bool" "tuple" = some false by decide +kernel)
  | .int _ => (show kitB "int" "tuple" = some false by decide +kernel)
  | .str _ => (show kitB "str" "tuple" = some false by decide +kernel)
  | .list _ => (show kitB "list" "tuple" = some false by decide +kernel)
  | .tuple _ => (show kitB "tuple" "tuple" = some true by decide +kernel)
  | .dict _ => (show kitB "dict" "tuple" = some false by decide +kernel)
/-! ### readings, step by step -/
section
variable {σ : L2.St} {H : Hp} {Q : VK} {v x y : V} {ta tb tc te : TE} {t u c : TT} {K : PySem.W.Frag} {D : Ends} {t1 t2 : TS}
  {r r' : R2} {i j : Int} {b : Bool} {g : TG} {a q : Str}
theorem g_c (k : Q v H) : tC v σ H Q := k
theorem g_op (k : ta σ H fun x H1 => tb σ H1 fun y H2 => r x y H2 Q) : tOp r ta tb σ H Q := k
theorem g_un {r : V → Hp → VK → Prop} (k : ta σ H fun x H1 => r x H1 Q) : tUn r ta σ H Q := k
theorem g_test {R : Bool → Hp → Prop} (k : te σ H fun x H' => ∃ k, x = .bl k ∧ R k H') : tTest te σ H R := k
theorem g_tB {R : Bool → Hp → Prop} (k : te σ H fun x H' => ∃ k, x = .bl k ∧ R k H') : tB te σ H R := k
theorem g_bl {R : Bool → Prop} (k : R b) : ∃ k, V.bl b = .bl k ∧ R k := ⟨b, rfl, k⟩
theorem g_and {R : Bool → Hp → Prop} (k : t σ H fun c H1 => if c = true then u σ H1 R else R false H1) : tAnd t u σ H R := k
theorem g_or {R : Bool → Hp → Prop} (k : t σ H fun c H1 => if c = true then R true H1 else u σ H1 R) : tOr t u σ H R := k
theorem g_not {R : Bool → Hp → Prop} (k : t σ H fun c H1 => R (!c) H1) : tNot t σ H R := k
theorem g_andV (k : ta σ H fun x H1 => ∃ c, x = .bl c ∧ if c = true then tb σ H1 Q else Q (.bl false) H1) : tAndV ta tb σ H Q := k
theorem g_orV (k : ta σ H fun x H1 => ∃ c, x = .bl c ∧ if c = true then Q (.bl true) H1 else tb σ H1 Q) : tOrV ta tb σ H Q := k
theorem g_notV (k : ta σ H fun x H1 => ∃ c, x = .bl c ∧ Q (.bl (!c)) H1) : tNotV ta σ H Q := k
theorem g_if (k : t σ H fun c H1 => if c = true then ta σ H1 Q else tb σ H1 Q) : tIf t ta tb σ H Q := k
theorem g_chain (k : ta σ H fun x H1 => tb σ H1 fun y H2 => r x y H2 fun z H3 => ∃ k, z = .bl k ∧
  (if k = true then tc σ H3 fun w' H4 => r' y w' H4 Q else Q (.bl false) H3)) : tChain r r' ta tb tc σ H Q := k
theorem g_nil {R : List V → Hp → Prop} (k : R [] H) : tNil σ H R := k
theorem g_cons {tr : TA} {R : List V → Hp → Prop} (k : ta σ H fun x H1 => tr σ H1 fun xs H2 => R (x :: xs) H2) : tCons ta tr σ H R := k
theorem g_cb {f : List V → Hp → VK → Prop} {tr : TA} (k : tr σ H fun vs H1 => f vs H1 Q) : tCB f tr σ H Q := k
theorem g_kn {n m : Nat} {gV : List V → List V → List V} {sp : Sp} {E : XK} {ts tk : TA}
  (k : ts σ H fun vs H1 => tk σ H1 fun zs H2 => vs.length = n ∧ zs.length = m ∧ sp (gV vs zs) H2 Q E) : tKn n m gV sp E ts tk σ H Q := k
theorem g_tup {tr : TA} (k : tr σ H fun xs H1 => xs.length ≤ sizeLine ∧ NewO H1 (.tup xs) Q) : tTup tr σ H Q := k
theorem g_lst {tr : TA} (k : tr σ H fun xs H1 => xs.length ≤ sizeLine ∧ NewO H1 (.lst xs) Q) : tLst tr σ H Q := k
theorem g_dnew (k : NewO H (.dK []) Q) : tDNewK σ H Q := k
theorem g_sl {f : V → Option Int → Option Int → Hp → VK → Prop} {tl th : TO} (k : te σ H fun x H1 => tl σ H1 fun l H2 => th σ H2 fun u H3 => f x l u H3 Q) : tSl f te tl th σ H Q := k
theorem g_nopart {R : Option Int → Hp → Prop} (k : R none H) : tNoPart σ H R := k
theorem g_part {R : Option Int → Hp → Prop} (k : te σ H fun x H1 => ∃ i, x = .int i ∧ R (some i) H1) : tPart te σ H R := k
theorem g_int {R : Int → Prop} (k : R i) : ∃ j, V.int i = .int j ∧ R j := ⟨i, rfl, k⟩
theorem g_m1 {f : V → List V → Hp → VK → Prop} (k : ta σ H fun x H1 => (∃ a, x = .str a) ∧ te σ H1 fun y H2 => f x [y] H2 Q) : tM1 f ta te σ H Q := k
theorem g_m0 {f : V → List V → Hp → VK → Prop} (k : ta σ H fun x H1 => (∃ a, x = .str a) ∧ f x [] H1 Q) : tM0 f ta σ H Q := k
theorem g_isS {R : Prop} (k : R) : (∃ b, V.str a = .str b) ∧ R := ⟨⟨a, rfl⟩, k⟩
-- statements
theorem g_seq (k : t1 { D with nx := t2 D } σ H) : tSeq t1 t2 D σ H := k
theorem g_next (k : D.nx σ H) : tNext D σ H := k
theorem g_ifS (k : c σ H fun b H1 => if b = true then t1 D σ H1 else t2 D σ H1) : tIfS c t1 t2 D σ H := k
theorem g_ret (k : te σ H D.rt) : tRet te D σ H := k
theorem g_asg (k : te σ H fun x H1 => g x σ H1 D.nx) : tAsg te g D σ H := k
theorem g_drop (k : te σ H fun _ H1 => D.nx σ H1) : tDrop te D σ H := k
theorem g_two {R : V → V → Prop} (k : R x y) : ∃ v w, [x, y] = [v, w] ∧ R v w := ⟨x, y, rfl, k⟩
theorem g_ifT {A B : Prop} {i : Decidable (true = true)} (k : A) : @ite Prop (true = true) i A B := by rw [if_pos rfl]; exact k
theorem g_ifF {A B : Prop} {i : Decidable (false = true)} (k : B) : @ite Prop (false = true) i A B := by rw [if_neg (by simp)]; exact k
theorem g_ifnT {A B : Prop} {i : Decidable ((!true) = true)} (k : B) : @ite Prop ((!true) = true) i A B := by rw [if_neg (by simp)]; exact k
theorem g_ifnF {A B : Prop} {i : Decidable ((!false) = true)} (k : A) : @ite Prop ((!false) = true) i A B := by rw [if_pos (by simp)]; exact k
theorem g_kT {A B : Prop} {i : Decidable (b = true)} (h : b = true) (k : A) : @ite Prop (b = true) i A B := by rw [if_pos h]; exact k
theorem g_kF {A B : Prop} {i : Decidable (b = true)} (h : b = false) (k : B) : @ite Prop (b = true) i A B := by rw [if_neg (by rw [h]; simp)]; exact k
theorem g_knT {A B : Prop} {i : Decidable ((!b) = true)} (h : b = true) (k : B) : @ite Prop ((!b) = true) i A B := by rw [if_neg (by rw [h]; simp)]; exact k
theorem g_knF {A B : Prop} {i : Decidable ((!b) = true)} (h : b = false) (k : A) : @ite Prop ((!b) = true) i A B := by rw [if_pos (by rw [h]; simp)]; exact k
theorem g_brk (k : D.bk σ H) : tBreak D σ H := k
theorem g_cont (k : D.ct σ H) : tCont D σ H := k
-- operators by values
theorem g_addI (k : Q (.int (i + j)) H) : rAddM K (.int i) (.int j) H Q := .inl ⟨i, j, rfl, rfl, k⟩
theorem g_addS (hz : a.length + q.length ≤ sizeLine) (k : Q (.str (a ++ q)) H) : rAddM K (.str a) (.str q) H Q := .inr (.inl ⟨a, q, rfl, rfl, hz, k⟩)
theorem g_addL {l m : Addr} {xs ys : List V} (h1 : H l = some (.lst xs)) (h2 : H m = some (.lst ys)) (hz : xs.length + ys.length ≤ sizeLine)
    (k : NewO H (.lst (xs ++ ys)) Q) : rAddM K (.ref l) (.ref m) H Q := .inr (.inr (.inl ⟨l, m, xs, ys, rfl, rfl, h1, h2, hz, k⟩))
theorem g_mulI (hc : CMa i j) (k : Q (.int (i * j)) H) : rMulM (.int i) (.int j) H Q := .inl ⟨i, j, rfl, rfl, hc, k⟩
theorem g_mulS (hc : MulOk a j) (k : Q (.str (Txt.mul a j)) H) : rMulM (.str a) (.int j) H Q := .inr (.inl ⟨a, j, rfl, rfl, hc, k⟩)
theorem g_i0 {f : Int → Int → V} (k : Q (f i j) H) : rI0 f (.int i) (.int j) H Q := ⟨i, j, rfl, rfl, k⟩
theorem g_i {C : Int → Int → Prop} {f : Int → Int → V} (hc : C i j) (k : Q (f i j) H) : rI C f (.int i) (.int j) H Q := ⟨i, j, rfl, rfl, hc, k⟩
theorem g_u {f : Int → V} (k : Q (f i) H) : rU f (.int i) H Q := ⟨i, rfl, k⟩
theorem g_eq (h : scal x y = true) (k : Q (.bl (decide (x = y))) H) : rEqM K x y H Q := .inl ⟨h, k⟩
theorem g_ne (h : scal x y = true) (k : Q (.bl (!decide (x = y))) H) : rNeM K x y H Q := .inl ⟨h, k⟩
theorem g_inS {n : Nat} {neg : Bool} (k : Q (.bl (if neg then !decide (n ∈ a.cps.toList) else decide (n ∈ a.cps.toList))) H) : rInM K neg (.str ⟨#[n]⟩) (.str a) H Q := .inl ⟨n, a, rfl, rfl, k⟩
theorem g_inQ {p : Addr} {xs : List V} {neg : Bool} (h : SqL K H p xs ∨ SqT K H p xs) (f1 : flatV x = true) (f2 : xs.all flatV = true)
    (k : Q (.bl (if neg then !inV x xs else inV x xs)) H) : rInM K neg x (.ref p) H Q := .inr ⟨p, xs, rfl, h, f1, f2, k⟩
theorem g_ixL {p : Addr} {xs : List V} (h : SqL K H p xs) (ha : atI xs i = some v) (k : Q v H) : rIxM K (.ref p) (.int i) H Q := .inl ⟨p, xs, i, v, rfl, rfl, h, ha, k⟩
theorem g_ixT {p : Addr} {xs : List V} (h : SqT K H p xs) (ha : atI xs i = some v) (k : Q v H) : rIxM K (.ref p) (.int i) H Q := .inr (.inl ⟨p, xs, i, v, rfl, rfl, h, ha, k⟩)
theorem g_ixS {n : Nat} (hz : a.length ≤ sizeLine) (ha : atI a.cps.toList i = some n) (k : Q (.str ⟨#[n]⟩) H) : rIxM K (.str a) (.int i) H Q := .inr (.inr ⟨a, i, n, rfl, rfl, hz, ha, k⟩)
theorem g_slL {p : Addr} {xs : List V} {lo hi : Option Int} (h : SqL K H p xs) (k : NewO H (.lst (cutV xs lo hi)) Q) : rSlM K (.ref p) lo hi H Q := .inl ⟨p, xs, rfl, h, k⟩
theorem g_slS {lo hi : Option Int} (hz : a.length ≤ sizeLine) (k : Q (.str (cutS a lo hi)) H) : rSlM K (.str a) lo hi H Q := .inr ⟨a, rfl, hz, k⟩
-- calls of built-ins by values
theorem g_lenS (hz : a.length ≤ sizeLine) (k : Q (.int a.length) H) : rLen K [.str a] H Q := ⟨_, _, rfl, ⟨hz, rfl⟩, k⟩
theorem g_lenL {p : Addr} {xs : List V} (h : SqL K H p xs) (k : Q (.int xs.length) H) : rLen K [.ref p] H Q := ⟨_, _, rfl, .inl ⟨xs, h, rfl⟩, k⟩
theorem g_lenT {p : Addr} {xs : List V} (h : SqT K H p xs) (k : Q (.int xs.length) H) : rLen K [.ref p] H Q := ⟨_, _, rfl, .inr ⟨xs, h, rfl⟩, k⟩
theorem g_abs (k : Q (.int (if i < 0 then -i else i)) H) : rAbs [.int i] H Q := ⟨i, rfl, k⟩
theorem g_intI (k : Q (.int i) H) : rIntM [.int i] H Q := .inl ⟨i, rfl, k⟩
theorem g_intB (k : Q (.int (if b then 1 else 0)) H) : rIntM [.bl b] H Q := .inr (.inl ⟨b, rfl, k⟩)
theorem g_intS {n : Int} (h : PySem.intText? a = some n) (hz : a.length ≤ 640) (k : Q (.int n) H) : rIntM [.str a] H Q := .inr (.inr ⟨a, n, rfl, h, hz, k⟩)
theorem g_isiStr {d : PyData} (h : Da K H x d) (k : Q (.bl (isStr d)) H) : rIsi K [x, .ty "str"] H Q :=
  ⟨x, .ty "str", _, _, isStr d, rfl, .ty _, h.ty, kit_ty (kit_isStr d), k⟩
theorem g_isiInt {d : PyData} (h : Da K H x d) (k : Q (.bl (isInt d)) H) : rIsi K [x, .ty "int"] H Q :=
  ⟨x, .ty "int", _, _, isInt d, rfl, .ty _, h.ty, kit_ty (kit_isInt d), k⟩
theorem g_isiBool {d : PyData} (h : Da K H x d) (k : Q (.bl (isBool d)) H) : rIsi K [x, .ty "bool"] H Q :=
  ⟨x, .ty "bool", _, _, isBool d, rfl, .ty _, h.ty, kit_ty (kit_isBool d), k⟩
theorem g_isiTup {d : PyData} (h : Da K H x d) (k : Q (.bl (isTup d)) H) : rIsi K [x, .ty "tuple"] H Q :=
  ⟨x, .ty "tuple", _, _, isTup d, rfl, .ty _, h.ty, kit_ty (kit_isTup d), k⟩
theorem g_repr {d : PyData} (h : Da K H x d) (h1 : d.showable = true) (h2 : d.depth ≤ 60) (h3 : d.shown.length ≤ sizeLine) (k : Q (.str d.shown) H) : rRepr K [x] H Q :=
  ⟨x, d, rfl, h, h1, h2, h3, k⟩
theorem g_strip (hz : a.length ≤ sizeLine) (k : Q (.str (Txt.stripChars a q)) H) : rStrip (.str a) [.str q] H Q := ⟨a, q, rfl, rfl, hz, k⟩
theorem g_upper (hz : a.length ≤ 5592405) (k : Q (.str (Txt.upper a)) H) : rUpper (.str a) [] H Q := ⟨a, rfl, rfl, hz, k⟩
end
/-! ### steps found by their form -/
class Step (G : Prop) (N : outParam Prop) : Prop where
  imp : N → G
class GetSlot (σ : L2.St) (n : Nat) (v : outParam V) : Prop where
  get : σ[n]? = some (some v)
instance i_get0 {σ : L2.St} {v : V} : GetSlot (some v :: σ) 0 v := ⟨rfl⟩
instance i_getS {σ : L2.St} {n : Nat} {v : V} {x : Option V} [h : GetSlot σ n v] : GetSlot (x :: σ) (n + 1) v := ⟨by rw [List.getElem?_cons_succ]; exact h.get⟩
class SetSlot (σ : L2.St) (n : Nat) (v : V) (τ : outParam L2.St) : Prop where
  set : σ.set n (some v) = τ
instance i_set0 {σ : L2.St} {v : V} {x : Option V} : SetSlot (x :: σ) 0 v (some v :: σ) := ⟨rfl⟩
instance i_setS {σ τ : L2.St} {n : Nat} {v : V} {x : Option V} [h : SetSlot σ n v τ] : SetSlot (x :: σ) (n + 1) v (x :: τ) := ⟨by rw [List.set_cons_succ, h.set]⟩
section
variable {σ : L2.St} {H : Hp} {Q : VK} {v x y : V} {ta tb tc te : TE} {t u c : TT} {K : PySem.W.Frag} {D : Ends} {t1 t2 : TS}
  {r r' : R2} {i j : Int} {b : Bool} {g : TG} {a q : Str}
instance i_var {n : Nat} [h : GetSlot σ n v] : Step (tVar n σ H Q) (Q v H) := ⟨fun k => ⟨v, h.get, k⟩⟩
instance i_name {n : Nat} {τ : L2.St} {R : L2.St → Hp → Prop} [h : SetSlot σ n v τ] : Step (gName n v σ H R) (R τ H) := ⟨fun k => by
  have e := h.set
  show R (σ.set n (some v)) H
  rw [e]; exact k⟩
instance i_par {n m : Nat} {ts : TA} : Step (tPar n m ts D σ H) (ts σ H fun vs H1 => ∃ v w, vs = [v, w] ∧ gName n v σ H1 fun τ H2 => gName m w τ H2 D.nx) := ⟨fun k => k⟩
instance i_eqI : Step (rEqM K (.int i) (.int j) H Q) (Q (.bl (decide (i = j))) H) := ⟨fun k => g_eq rfl (by simpa using k)⟩
instance i_eqS : Step (rEqM K (.str a) (.str q) H Q) (Q (.bl (decide (a = q))) H) := ⟨fun k => g_eq rfl (by simpa using k)⟩
instance i_eqB {b c : Bool} : Step (rEqM K (.bl b) (.bl c) H Q) (Q (.bl (decide (b = c))) H) := ⟨fun k => g_eq rfl (by simpa using k)⟩
instance i_neI : Step (rNeM K (.int i) (.int j) H Q) (Q (.bl (!decide (i = j))) H) := ⟨fun k => g_ne rfl (by simpa using k)⟩
instance i_neS : Step (rNeM K (.str a) (.str q) H Q) (Q (.bl (!decide (a = q))) H) := ⟨fun k => g_ne rfl (by simpa using k)⟩
instance i_neB {b c : Bool} : Step (rNeM K (.bl b) (.bl c) H Q) (Q (.bl (!decide (b = c))) H) := ⟨fun k => g_ne rfl (by simpa using k)⟩
instance i_c  : Step (tC v σ H Q) (Q v H) := ⟨fun k => g_c k⟩
instance i_op  : Step (tOp r ta tb σ H Q) (ta σ H fun x H1 => tb σ H1 fun y H2 => r x y H2 Q) := ⟨fun k => g_op k⟩
instance i_un {r : V → Hp → VK → Prop} : Step (tUn r ta σ H Q) (ta σ H fun x H1 => r x H1 Q) := ⟨fun k => g_un k⟩
instance i_test {R : Bool → Hp → Prop} : Step (tTest te σ H R) (te σ H fun x H' => ∃ k, x = .bl k ∧ R k H') := ⟨fun k => g_test k⟩
instance i_tB {R : Bool → Hp → Prop} : Step (tB te σ H R) (te σ H fun x H' => ∃ k, x = .bl k ∧ R k H') := ⟨fun k => g_tB k⟩
instance i_bl {R : Bool → Prop} : Step (∃ k, V.bl b = .bl k ∧ R k) (R b) := ⟨fun k => g_bl k⟩
instance i_and {R : Bool → Hp → Prop} : Step (tAnd t u σ H R) (t σ H fun c H1 => if c = true then u σ H1 R else R false H1) := ⟨fun k => g_and k⟩
instance i_or {R : Bool → Hp → Prop} : Step (tOr t u σ H R) (t σ H fun c H1 => if c = true then R true H1 else u σ H1 R) := ⟨fun k => g_or k⟩
instance i_not {R : Bool → Hp → Prop} : Step (tNot t σ H R) (t σ H fun c H1 => R (!c) H1) := ⟨fun k => g_not k⟩
instance i_andV  : Step (tAndV ta tb σ H Q) (ta σ H fun x H1 => ∃ c, x = .bl c ∧ if c = true then tb σ H1 Q else Q (.bl false) H1) := ⟨fun k => g_andV k⟩
instance i_orV  : Step (tOrV ta tb σ H Q) (ta σ H fun x H1 => ∃ c, x = .bl c ∧ if c = true then Q (.bl true) H1 else tb σ H1 Q) := ⟨fun k => g_orV k⟩
instance i_notV  : Step (tNotV ta σ H Q) (ta σ H fun x H1 => ∃ c, x = .bl c ∧ Q (.bl (!c)) H1) := ⟨fun k => g_notV k⟩
instance i_if  : Step (tIf t ta tb σ H Q) (t σ H fun c H1 => if c = true then ta σ H1 Q else tb σ H1 Q) := ⟨fun k => g_if k⟩
instance i_chain  : Step (tChain r r' ta tb tc σ H Q) (ta σ H fun x H1 => tb σ H1 fun y H2 => r x y H2 fun z H3 => ∃ k, z = .bl k ∧
  (if k = true then tc σ H3 fun w' H4 => r' y w' H4 Q else Q (.bl false) H3)) := ⟨fun k => g_chain k⟩
instance i_nil {R : List V → Hp → Prop} : Step (tNil σ H R) (R [] H) := ⟨fun k => g_nil k⟩
instance i_cons {tr : TA} {R : List V → Hp → Prop} : Step (tCons ta tr σ H R) (ta σ H fun x H1 => tr σ H1 fun xs H2 => R (x :: xs) H2) := ⟨fun k => g_cons k⟩
instance i_cb {f : List V → Hp → VK → Prop} {tr : TA} : Step (tCB f tr σ H Q) (tr σ H fun vs H1 => f vs H1 Q) := ⟨fun k => g_cb k⟩
instance i_kn {n m : Nat} {gV : List V → List V → List V} {sp : Sp} {E : XK} {ts tk : TA} : Step (tKn n m gV sp E ts tk σ H Q) (ts σ H fun vs H1 => tk σ H1 fun zs H2 => vs.length = n ∧ zs.length = m ∧ sp (gV vs zs) H2 Q E) := ⟨fun k => g_kn k⟩
instance i_tup {tr : TA} : Step (tTup tr σ H Q) (tr σ H fun xs H1 => xs.length ≤ sizeLine ∧ NewO H1 (.tup xs) Q) := ⟨fun k => g_tup k⟩
instance i_lst {tr : TA} : Step (tLst tr σ H Q) (tr σ H fun xs H1 => xs.length ≤ sizeLine ∧ NewO H1 (.lst xs) Q) := ⟨fun k => g_lst k⟩
instance i_dnew  : Step (tDNewK σ H Q) (NewO H (.dK []) Q) := ⟨fun k => g_dnew k⟩
instance i_sl {f : V → Option Int → Option Int → Hp → VK → Prop} {tl th : TO} : Step (tSl f te tl th σ H Q) (te σ H fun x H1 => tl σ H1 fun l H2 => th σ H2 fun u H3 => f x l u H3 Q) := ⟨fun k => g_sl k⟩
instance i_nopart {R : Option Int → Hp → Prop} : Step (tNoPart σ H R) (R none H) := ⟨fun k => g_nopart k⟩
instance i_part {R : Option Int → Hp → Prop} : Step (tPart te σ H R) (te σ H fun x H1 => ∃ i, x = .int i ∧ R (some i) H1) := ⟨fun k => g_part k⟩
instance i_int {R : Int → Prop} : Step (∃ j, V.int i = .int j ∧ R j) (R i) := ⟨fun k => g_int k⟩
instance i_m1 {f : V → List V → Hp → VK → Prop} : Step (tM1 f ta te σ H Q) (ta σ H fun x H1 => (∃ a, x = .str a) ∧ te σ H1 fun y H2 => f x [y] H2 Q) := ⟨fun k => g_m1 k⟩
instance i_m0 {f : V → List V → Hp → VK → Prop} : Step (tM0 f ta σ H Q) (ta σ H fun x H1 => (∃ a, x = .str a) ∧ f x [] H1 Q) := ⟨fun k => g_m0 k⟩
instance i_isS {R : Prop} : Step ((∃ b, V.str a = .str b) ∧ R) (R) := ⟨fun k => g_isS k⟩
instance i_seq  : Step (tSeq t1 t2 D σ H) (t1 { D with nx := t2 D } σ H) := ⟨fun k => g_seq k⟩
instance i_next  : Step (tNext D σ H) (D.nx σ H) := ⟨fun k => g_next k⟩
instance i_ifS  : Step (tIfS c t1 t2 D σ H) (c σ H fun b H1 => if b = true then t1 D σ H1 else t2 D σ H1) := ⟨fun k => g_ifS k⟩
instance i_ret  : Step (tRet te D σ H) (te σ H D.rt) := ⟨fun k => g_ret k⟩
instance i_asg  : Step (tAsg te g D σ H) (te σ H fun x H1 => g x σ H1 D.nx) := ⟨fun k => g_asg k⟩
instance i_drop  : Step (tDrop te D σ H) (te σ H fun _ H1 => D.nx σ H1) := ⟨fun k => g_drop k⟩
instance i_two {R : V → V → Prop} : Step (∃ v w, [x, y] = [v, w] ∧ R v w) (R x y) := ⟨fun k => g_two k⟩
instance i_ifT {A B : Prop} {i : Decidable (true = true)} : Step (@ite Prop (true = true) i A B) (A) := ⟨fun k => g_ifT k⟩
instance i_ifF {A B : Prop} {i : Decidable (false = true)} : Step (@ite Prop (false = true) i A B) (B) := ⟨fun k => g_ifF k⟩
instance i_ifnT {A B : Prop} {i : Decidable ((!true) = true)} : Step (@ite Prop ((!true) = true) i A B) (B) := ⟨fun k => g_ifnT k⟩
instance i_ifnF {A B : Prop} {i : Decidable ((!false) = true)} : Step (@ite Prop ((!false) = true) i A B) (A) := ⟨fun k => g_ifnF k⟩
instance i_brk  : Step (tBreak D σ H) (D.bk σ H) := ⟨fun k => g_brk k⟩
instance i_cont  : Step (tCont D σ H) (D.ct σ H) := ⟨fun k => g_cont k⟩
instance i_addI  : Step (rAddM K (.int i) (.int j) H Q) (Q (.int (i + j)) H) := ⟨fun k => g_addI k⟩
instance i_i0 {f : Int → Int → V} : Step (rI0 f (.int i) (.int j) H Q) (Q (f i j) H) := ⟨fun k => g_i0 k⟩
instance i_u {f : Int → V} : Step (rU f (.int i) H Q) (Q (f i) H) := ⟨fun k => g_u k⟩
instance i_inS {n : Nat} {neg : Bool} : Step (rInM K neg (.str ⟨#[n]⟩) (.str a) H Q) (Q (.bl (if neg then !decide (n ∈ a.cps.toList) else decide (n ∈ a.cps.toList))) H) := ⟨fun k => g_inS k⟩
instance i_abs  : Step (rAbs [.int i] H Q) (Q (.int (if i < 0 then -i else i)) H) := ⟨fun k => g_abs k⟩
instance i_intI  : Step (rIntM [.int i] H Q) (Q (.int i) H) := ⟨fun k => g_intI k⟩
instance i_intB  : Step (rIntM [.bl b] H Q) (Q (.int (if b then 1 else 0)) H) := ⟨fun k => g_intB k⟩
/-- a step that asks for a size -/
class StepZ (G : Prop) (C N : outParam Prop) : Prop where
  imp : C → N → G
instance z_addS : StepZ (rAddM K (.str a) (.str q) H Q) (a.length + q.length ≤ sizeLine) (Q (.str (a ++ q)) H) := ⟨g_addS⟩
instance z_lenS : StepZ (rLen K [.str a] H Q) (a.length ≤ sizeLine) (Q (.int a.length) H) := ⟨g_lenS⟩
instance z_strip : StepZ (rStrip (.str a) [.str q] H Q) (a.length ≤ sizeLine) (Q (.str (Txt.stripChars a q)) H) := ⟨g_strip⟩
instance z_slS {lo hi : Option Int} : StepZ (rSlM K (.str a) lo hi H Q) (a.length ≤ sizeLine) (Q (.str (cutS a lo hi)) H) := ⟨g_slS⟩
instance z_mulI : StepZ (rMulM (.int i) (.int j) H Q) (CMa i j) (Q (.int (i * j)) H) := ⟨g_mulI⟩
instance z_mulS : StepZ (rMulM (.str a) (.int j) H Q) (MulOk a j) (Q (.str (Txt.mul a j)) H) := ⟨g_mulS⟩
instance z_upper : StepZ (rUpper (.str a) [] H Q) (a.length ≤ 5592405) (Q (.str (Txt.upper a)) H) := ⟨g_upper⟩
instance z_i {C : Int → Int → Prop} {f : Int → Int → V} : StepZ (rI C f (.int i) (.int j) H Q) (C i j) (Q (f i j) H) := ⟨g_i⟩
instance z_and {n : Nat} {R : Prop} : StepZ (n ≤ sizeLine ∧ R) (n ≤ sizeLine) R := ⟨fun a b => ⟨a, b⟩⟩
instance z_andL {n : Nat} {R : Prop} : StepZ (n < sizeLine ∧ R) (n < sizeLine) R := ⟨fun a b => ⟨a, b⟩⟩
/-- a step that asks what stands at an address -/
class StepQ (G : Prop) (C N : outParam (List V → Prop)) : Prop where
  imp : ∀ xs, C xs → N xs → G
instance q_lenL {p : Addr} : StepQ (rLen K [.ref p] H Q) (fun xs => SqL K H p xs ∨ SqT K H p xs) (fun xs => Q (.int xs.length) H) :=
  ⟨fun xs h k => h.elim (fun h => g_lenL h k) (fun h => g_lenT h k)⟩
instance q_ix {p : Addr} : StepQ (rIxM K (.ref p) (.int i) H Q) (fun xs => SqL K H p xs ∨ SqT K H p xs) (fun xs => ∃ v, atI xs i = some v ∧ Q v H) :=
  ⟨fun xs h ⟨v, e, k⟩ => h.elim (fun h => g_ixL h e k) (fun h => g_ixT h e k)⟩
instance q_slL {p : Addr} {lo hi : Option Int} : StepQ (rSlM K (.ref p) lo hi H Q) (fun xs => SqL K H p xs) (fun xs => NewO H (.lst (cutV xs lo hi)) Q) :=
  ⟨fun xs h k => g_slL h k⟩
instance q_in {p : Addr} {neg : Bool} : StepQ (rInM K neg x (.ref p) H Q) (fun xs => SqL K H p xs ∨ SqT K H p xs)
  (fun xs => flatV x = true ∧ xs.all flatV = true ∧ Q (.bl (if neg then !inV x xs else inV x xs)) H) := ⟨fun xs h ⟨k1, k2, k3⟩ => g_inQ h k1 k2 k3⟩
instance q_addL {l m : Addr} : StepQ (rAddM K (.ref l) (.ref m) H Q) (fun xs => H l = some (.lst xs))
  (fun xs => ∃ ys, H m = some (.lst ys) ∧ xs.length + ys.length ≤ sizeLine ∧ NewO H (.lst (xs ++ ys)) Q) :=
  ⟨fun xs h ⟨ys, k1, k2, k3⟩ => g_addL h k1 k2 k3⟩
instance q_exL {p : Addr} {R : List V → Prop} : StepQ (∃ ys, H p = some (.lst ys) ∧ R ys) (fun ys => H p = some (.lst ys)) R := ⟨fun ys h k => ⟨ys, h, k⟩⟩
instance q_itL {p : Addr} {R : Addr → Prop} : StepQ (∃ b, V.ref p = .ref b ∧ (∃ xs, SqL K H b xs) ∧ R b) (fun xs => SqL K H p xs) (fun _ => R p) := ⟨fun xs h k => ⟨p, rfl, ⟨xs, h⟩, k⟩⟩
instance q_itT {p : Addr} {R : Addr → Prop} : StepQ (∃ b, V.ref p = .ref b ∧ (∃ xs, SqT K H b xs) ∧ R b) (fun xs => SqT K H p xs) (fun _ => R p) := ⟨fun xs h k => ⟨p, rfl, ⟨xs, h⟩, k⟩⟩
instance q_tyL {p : Addr} {R : Prop} : StepQ (tyV K "list" (.ref p) H ∧ R) (fun xs => SqL K H p xs) (fun _ => R) := ⟨fun xs h k => ⟨.inl ⟨rfl, xs, h⟩, k⟩⟩
instance q_append {l : Addr} : StepQ (rAppend (.ref l) [v] H Q) (fun xs => H l = some (.lst xs)) (fun xs => xs.length < sizeLine ∧ Q .non (upd H l (.lst (xs ++ [v])))) :=
  ⟨fun xs h k => ⟨l, xs, v, rfl, rfl, h, k⟩⟩
instance q_extend {l m : Addr} : StepQ (rExtend (.ref l) [.ref m] H Q) (fun xs => H l = some (.lst xs))
  (fun xs => ∃ zs, H m = some (.lst zs) ∧ xs.length + zs.length ≤ sizeLine ∧ Q .non (upd H l (.lst (xs ++ zs)))) := ⟨fun xs h ⟨zs, k1, k2, k3⟩ => ⟨l, m, xs, zs, rfl, rfl, h, k1, k2, k3⟩⟩
instance q_setL {p : Addr} {R : Hp → Prop} : StepQ (rSetL (.ref p) (.int i) v H R) (fun xs => H p = some (.lst xs)) (fun xs => ∃ j, ixN xs.length i = some j ∧ R (upd H p (.lst (xs.set j v)))) :=
  ⟨fun xs h ⟨j, e, k⟩ => ⟨p, xs, i, j, rfl, rfl, h, e, k⟩⟩
instance i_gSub {t : TSet} {R : L2.St → Hp → Prop} : Step (gSub ta tb t v σ H R) (ta σ H fun o H1 => tb σ H1 fun i H2 => t o i v H2 fun H3 => R σ H3) := ⟨fun k => k⟩
instance i_bm {T : String} {f : V → List V → Hp → VK → Prop} {ts : TA} : Step (tBM K T f ta ts σ H Q) (ta σ H fun x H1 => tyV K T x H1 ∧ ts σ H1 fun xs H2 => f x xs H2 Q) := ⟨fun k => k⟩
instance i_bm0 {T : String} {f : V → List V → Hp → VK → Prop} : Step (tBM0 K T f ta σ H Q) (ta σ H fun x H1 => tyV K T x H1 ∧ f x [] H1 Q) := ⟨fun k => k⟩
/-- a step that asks for a datum -/
class StepD (G : Prop) (C N : outParam (PyData → Prop)) : Prop where
  imp : ∀ d, C d → N d → G
instance d_isStr : StepD (rIsi K [x, .ty "str"] H Q) (fun d => Da K H x d) (fun d => Q (.bl (isStr d)) H) := ⟨fun d h k => g_isiStr h k⟩
instance d_isInt : StepD (rIsi K [x, .ty "int"] H Q) (fun d => Da K H x d) (fun d => Q (.bl (isInt d)) H) := ⟨fun d h k => g_isiInt h k⟩
instance d_isBool : StepD (rIsi K [x, .ty "bool"] H Q) (fun d => Da K H x d) (fun d => Q (.bl (isBool d)) H) := ⟨fun d h k => g_isiBool h k⟩
instance d_isTup : StepD (rIsi K [x, .ty "tuple"] H Q) (fun d => Da K H x d) (fun d => Q (.bl (isTup d)) H) := ⟨fun d h k => g_isiTup h k⟩
instance d_repr : StepD (rRepr K [x] H Q) (fun d => Da K H x d) (fun d => d.showable = true ∧ d.depth ≤ 60 ∧ d.shown.length ≤ sizeLine ∧ Q (.str d.shown) H) :=
  ⟨fun d h ⟨k1, k2, k3, k4⟩ => g_repr h k1 k2 k3 k4⟩
end
end L2.Pc
namespace L2.Pc
open PySem PySem.Spec PyProof.Rows
theorem bt_len : bootBuiltins "len" = some (.builtin "len") := by decide +kernel
theorem bt_abs : bootBuiltins "abs" = some (.builtin "abs") := by decide +kernel
theorem bt_repr : bootBuiltins "repr" = some (.builtin "repr") := by decide +kernel
theorem bt_isinstance : bootBuiltins "isinstance" = some (.builtin "isinstance") := by decide +kernel
theorem bt_all : bootBuiltins "all" = some (.builtin "all") := by decide +kernel
theorem bt_int : bootBuiltins "int" = some (.type "int") := by decide +kernel
theorem bt_str : bootBuiltins "str" = some (.type "str") := by decide +kernel
theorem bt_bool : bootBuiltins "bool" = some (.type "bool") := by decide +kernel
theorem hu64 {k : Nat} {A : Around} (r : Room k A) : A.units + 64 < cLine := by have := r.un; omega
theorem szl : sizeLine = 16777216 := by decide
/-! ### promises by the number of arguments -/
def Sp1 (R : V → Hp → VK → Prop) : Sp := fun vs H Q _ => ∃ x, vs = [x] ∧ R x H Q
def Sp2 (R : V → V → Hp → VK → Prop) : Sp := fun vs H Q _ => ∃ x y, vs = [x, y] ∧ R x y H Q
def Sp3 (R : V → V → V → Hp → VK → Prop) : Sp := fun vs H Q _ => ∃ x y z, vs = [x, y, z] ∧ R x y z H Q
def Sp4 (R : V → V → V → V → Hp → VK → Prop) : Sp := fun vs H Q _ => ∃ x y z u, vs = [x, y, z, u] ∧ R x y z u H Q
section
variable {vs : List V} {H : Hp} {Q : VK} {E : XK} {x y z u : V}
theorem Sp1.len {R : V → Hp → VK → Prop} (h : Sp1 R vs H Q E) : vs.length = 1 := by obtain ⟨x, rfl, _⟩ := h; rfl
theorem Sp2.len {R : V → V → Hp → VK → Prop} (h : Sp2 R vs H Q E) : vs.length = 2 := by obtain ⟨x, y, rfl, _⟩ := h; rfl
theorem Sp3.len {R : V → V → V → Hp → VK → Prop} (h : Sp3 R vs H Q E) : vs.length = 3 := by obtain ⟨x, y, z, rfl, _⟩ := h; rfl
theorem Sp4.len {R : V → V → V → V → Hp → VK → Prop} (h : Sp4 R vs H Q E) : vs.length = 4 := by obtain ⟨x, y, z, u, rfl, _⟩ := h; rfl
theorem g_call1 {R : V → Hp → VK → Prop} (k : R x H Q) : [x].length = 1 ∧ ([] : List V).length = 0 ∧ Sp1 R [x] H Q E := ⟨rfl, rfl, x, rfl, k⟩
theorem g_call2 {R : V → V → Hp → VK → Prop} (k : R x y H Q) : [x, y].length = 2 ∧ ([] : List V).length = 0 ∧ Sp2 R [x, y] H Q E := ⟨rfl, rfl, x, y, rfl, k⟩
theorem g_call3 {R : V → V → V → Hp → VK → Prop} (k : R x y z H Q) : [x, y, z].length = 3 ∧ ([] : List V).length = 0 ∧ Sp3 R [x, y, z] H Q E := ⟨rfl, rfl, x, y, z, rfl, k⟩
theorem g_call4 {R : V → V → V → V → Hp → VK → Prop} (k : R x y z u H Q) : [x, y, z, u].length = 4 ∧ ([] : List V).length = 0 ∧ Sp4 R [x, y, z, u] H Q E := ⟨rfl, rfl, x, y, z, u, rfl, k⟩
end
/-- a written tuple of the module -/
def Kt (K : PySem.W.Frag) (a : Addr) (xs : List V) : Prop :=
  ∃ (o : Obj) (its : Array Value) (n : Nat), K.lookup a = some o ∧ o.cls = .type "tuple" ∧ o.data = .seq its n ∧ its.size ≤ sizeLine ∧ Vals xs its.toList
theorem Kt.sq {K : PySem.W.Frag} {a : Addr} {xs : List V} (h : Kt K a xs) (H : Hp) : SqT K H a xs := .inr h
/-! ### loops and comprehensions -/
def ForW (J : It) (g : TG) (tb : TS) (D : Ends) : L2.St → Hp → Prop := fun σ H =>
  ∃ W : Nat → Nat → L2.St → Hp → Prop, (∃ m, W 0 m σ H) ∧ ∀ i m σ H, W i m σ H → (J.stop i H ∧ D.nx σ H) ∨
    (J.go i H ∧ ∃ N : L2.St → Hp → Prop, (∀ σ' H', N σ' H' → ∃ m', m' < m ∧ W (i + 1) m' σ' H') ∧
      ∀ x H', J.yld i H x H' → g x σ H' fun σ2 H2 => tb { D with nx := N, ct := N, bk := D.nx } σ2 H2)
def LcW (J : It) (g : TG) (tt : TT) (te : TE) (vs : List Nat) (σ : L2.St) (Q : VK) : Hp → Prop := fun H1 =>
  ∀ D, H1 D = none → ∃ W : Nat → Nat → Hp → Prop, (∃ m, W 0 m (upd H1 D (.lst []))) ∧ ∀ i m H, W i m H →
    (J.stop i H ∧ Q (.ref D) H) ∨ (J.go i H ∧ ∃ Nx : Hp → Prop, (∀ H', Nx H' → ∃ m', m' < m ∧ W (i + 1) m' H') ∧
      ∀ x H', J.yld i H x H' → g x (wipe σ vs) H' fun σ2 H2 => wipe σ2 vs = wipe σ vs ∧ tt σ2 H2 fun b H3 =>
        if b = true then te σ2 H3 fun y H4 => ∃ acc, H4 D = some (.lst acc) ∧ acc.length < sizeLine ∧ Nx (upd H4 D (.lst (acc ++ [y]))) else Nx H3)
section
variable {K : PySem.W.Frag} {σ : L2.St} {H : Hp} {Q : VK} {D : Ends} {tb : TS} {g : TG} {tt : TT} {te tl : TE} {vs : List Nat} {ta : TA}
  {J : It} {n : Nat} {it : Nat → V} {G : Hp → Prop} {wi : TI} {R : It → Hp → Prop}
theorem g_for (k : wi σ H fun J H1 => ForW J g tb D σ H1) : tFor wi g tb D σ H := k
theorem g_lc (k : wi σ H fun J H1 => LcW J g tt te vs σ Q H1) : tLc wi g tt te vs σ H Q := k
theorem g_rng1 (k : ta σ H fun vs H1 => ∃ j : Int, vs = [.int j] ∧ -(2 ^ 62) ≤ j ∧ j < 2 ^ 62 ∧ R (Itr 0 j.toNat) H1) : iRng1 ta σ H R := k
theorem g_rng2 (k : ta σ H fun vs H1 => ∃ i j : Int, vs = [.int i, .int j] ∧ (-(2 ^ 62) ≤ i ∧ i < 2 ^ 62 ∧ -(2 ^ 62) ≤ j ∧ j < 2 ^ 62) ∧ R (Itr i (j - i).toNat) H1) : iRng2 ta σ H R := k
theorem g_iList (k : tl σ H fun x H1 => ∃ a, x = .ref a ∧ (∃ xs, SqL K H1 a xs) ∧ R (Itl K a) H1) : iList K tl σ H R := k
theorem g_iTup (k : tl σ H fun x H1 => ∃ a, x = .ref a ∧ (∃ xs, SqT K H1 a xs) ∧ R (Itt K a) H1) : iTup K tl σ H R := k
theorem g_iStr (k : tl σ H fun x H1 => ∃ z, x = .str z ∧ R (Its z) H1) : iStr tl σ H R := k
theorem g_itS {z : Str} (k : R (Its z) H) : ∃ y, V.str z = .str y ∧ R (Its y) H := ⟨z, rfl, k⟩
end
/-! ### steps found by their form -/
section
variable {vs : List V} {H : Hp} {Q : VK} {E : XK} {x y z u : V}
instance i_call1 {R : V → Hp → VK → Prop} : Step ([x].length = 1 ∧ ([] : List V).length = 0 ∧ Sp1 R [x] H Q E) (R x H Q) := ⟨fun k => g_call1 k⟩
instance i_call2 {R : V → V → Hp → VK → Prop} : Step ([x, y].length = 2 ∧ ([] : List V).length = 0 ∧ Sp2 R [x, y] H Q E) (R x y H Q) := ⟨fun k => g_call2 k⟩
instance i_call3 {R : V → V → V → Hp → VK → Prop} : Step ([x, y, z].length = 3 ∧ ([] : List V).length = 0 ∧ Sp3 R [x, y, z] H Q E) (R x y z H Q) := ⟨fun k => g_call3 k⟩
instance i_call4 {R : V → V → V → V → Hp → VK → Prop} : Step ([x, y, z, u].length = 4 ∧ ([] : List V).length = 0 ∧ Sp4 R [x, y, z, u] H Q E) (R x y z u H Q) := ⟨fun k => g_call4 k⟩
end
section
variable {K : PySem.W.Frag} {σ : L2.St} {H : Hp} {Q : VK} {D : Ends} {tb : TS} {g : TG} {tt : TT} {te tl : TE} {vs : List Nat} {ta : TA}
  {J : It} {n : Nat} {it : Nat → V} {G : Hp → Prop} {wi : TI} {R : It → Hp → Prop}
instance i_for  : Step (tFor wi g tb D σ H) (wi σ H fun J H1 => ForW J g tb D σ H1) := ⟨fun k => g_for k⟩
instance i_lc  : Step (tLc wi g tt te vs σ H Q) (wi σ H fun J H1 => LcW J g tt te vs σ Q H1) := ⟨fun k => g_lc k⟩
instance i_rng1  : Step (iRng1 ta σ H R) (ta σ H fun vs H1 => ∃ j : Int, vs = [.int j] ∧ -(2 ^ 62) ≤ j ∧ j < 2 ^ 62 ∧ R (Itr 0 j.toNat) H1) := ⟨fun k => g_rng1 k⟩
instance i_rng2  : Step (iRng2 ta σ H R) (ta σ H fun vs H1 => ∃ i j : Int, vs = [.int i, .int j] ∧ (-(2 ^ 62) ≤ i ∧ i < 2 ^ 62 ∧ -(2 ^ 62) ≤ j ∧ j < 2 ^ 62) ∧ R (Itr i (j - i).toNat) H1) := ⟨fun k => g_rng2 k⟩
instance i_iList  : Step (iList K tl σ H R) (tl σ H fun x H1 => ∃ a, x = .ref a ∧ (∃ xs, SqL K H1 a xs) ∧ R (Itl K a) H1) := ⟨fun k => g_iList k⟩
instance i_iTup  : Step (iTup K tl σ H R) (tl σ H fun x H1 => ∃ a, x = .ref a ∧ (∃ xs, SqT K H1 a xs) ∧ R (Itt K a) H1) := ⟨fun k => g_iTup k⟩
instance i_iStr  : Step (iStr tl σ H R) (tl σ H fun x H1 => ∃ z, x = .str z ∧ R (Its z) H1) := ⟨fun k => g_iStr k⟩
instance i_itS {z : Str} : Step (∃ y, V.str z = .str y ∧ R (Its y) H) (R (Its z) H) := ⟨fun k => g_itS k⟩
end
end L2.Pc
namespace L2.Pc
open PySem PySem.Spec PyProof.Rows
/-! ### lists cut and read -/
theorem atI_nat' {α : Type} {xs : List α} {k : Nat} {v : α} (h : xs[k]? = some v) : atI xs (k : Int) = some v := by
  have hk : k < xs.length := (List.getElem?_eq_some_iff.mp h).1
  unfold atI ixN
  rw [if_pos (by omega), if_pos (by omega), Int.toNat_natCast]
  exact h
end L2.Pc
namespace L2.Pc
open PySem PySem.Spec PyProof.Rows
/-! ### the same rules, of a module's K that is named -/
section
variable {X : Cx} {K : PySem.W.Frag} (h : X.K = K)
include h
theorem k_eq (hu : X.A.units + 64 < cLine) : OpR X (compareOp .Eq) (rEqM K) := h ▸ op_eqM hu
theorem k_ne (hu : X.A.units + 64 < cLine) : OpR X (compareOp .NotEq) (rNeM K) := h ▸ op_neM hu
theorem k_in : OpR X (compareOp .In) (rInM K false) := h ▸ op_inM
theorem k_notIn : OpR X (compareOp .NotIn) (rInM K true) := h ▸ op_notInM
theorem k_ix : IxR X (rIxM K) := h ▸ ixM
theorem k_len : CallR X (.builtin "len") (rLen K) := h ▸ call_lenM
theorem k_join : MtR X "str.join" (rJoin K) := h ▸ mt_joinM
theorem k_isi : CallR X (.builtin "isinstance") (rIsi K) := h ▸ call_isi
theorem k_all (hc : X.calm = true) : CallR X (.builtin "all") (rAll K) := h ▸ cr_all hc
theorem k_repr (hga : X.A.guards = some []) (hu : X.A.units + 64 < cLine) (M : Sm X.base) : CallR X (.builtin "repr") (rRepr K) := h ▸ call_reprD hga hu M
end
instance i_exS {a : Str} {R : Str → Prop} : Step (∃ z, V.str a = .str z ∧ R z) (R a) := ⟨fun k => ⟨a, rfl, k⟩⟩
instance i_yes {σ : L2.St} {H : Hp} {R : Bool → Hp → Prop} : Step (tYes σ H R) (R true H) := ⟨fun k => k⟩
section
variable {X : Cx}
theorem pe_lcM {elt tg iter : Expr} {ifs : List Expr} {scope : Scope} {own : List (Str × Nat)} {vs : List Nat} {pos : Pos} {wi : TI} {g : TG} {tt : TT} {te : TE} (hv : own.map (·.2) = vs) (hc : X.calm = true) (hN : X.N.Nodup) (hi : PI X tg iter wi) (ok : BlkOk X.N X.env.scope scope own)
    (hg : ∀ (s : Shared) (H : Hp) (C : Addr) (cl : List (Str × Addr)) (fp : List Addr), PG (X.blk s H scope (compEnvC scope cl C X.env) fp) tg g) (ht : ∀ (s : Shared) (H : Hp) (C : Addr) (cl : List (Str × Addr)) (fp : List Addr), PTs (X.blk s H scope (compEnvC scope cl C X.env) fp) ifs tt)
    (he : ∀ (s : Shared) (H : Hp) (C : Addr) (cl : List (Str × Addr)) (fp : List Addr), PE (X.blk s H scope (compEnvC scope cl C X.env) fp) elt te) (hs : ∀ x, foldedSetIterable iter X.env x = pure x := by intro _; rfl) :
    PE X (.ListComp elt [⟨tg, iter, ifs, 0⟩] scope pos) (tLc wi g tt te vs) := hv ▸ pe_lc hc hN hi ok hg ht he hs
theorem ps_setLcM {i : Nat} {y : Str} {py : Pos} {elt tg iter : Expr} {ifs : List Expr} {scope : Scope} {own : List (Str × Nat)} {vs : List Nat} {pos spos : Pos} {wi : TI} {g : TG} {tt : TT} {te : TE} (hv : own.map (·.2) = vs) (hc : X.calm = true) (hN : X.N.Nodup) (hy : X.N[i]? = some y) (hyl : X.env.scope.names.lookup y = some .local)
    (hsw : swapsWith (.ListComp elt [⟨tg, iter, ifs, 0⟩] scope pos) (some (.Name y py)) spos.line X.env = pure true) (hi : PI X tg iter wi) (ok : BlkOk X.N X.env.scope scope own)
    (hg : ∀ (s : Shared) (H : Hp) (C : Addr) (cl : List (Str × Addr)) (fp : List Addr), PG (X.blk s H scope (compEnvC scope cl C X.env) fp) tg g) (ht : ∀ (s : Shared) (H : Hp) (C : Addr) (cl : List (Str × Addr)) (fp : List Addr), PTs (X.blk s H scope (compEnvC scope cl C X.env) fp) ifs tt)
    (he : ∀ (s : Shared) (H : Hp) (C : Addr) (cl : List (Str × Addr)) (fp : List Addr), PE (X.blk s H scope (compEnvC scope cl C X.env) fp) elt te) (hs : ∀ x, foldedSetIterable iter X.env x = pure x := by intro _; rfl) :
    PS X (.Assign [.Name y py] (.ListComp elt [⟨tg, iter, ifs, 0⟩] scope pos) spos) (tAsg (tLc wi g tt te vs) (gName i)) := hv ▸ ps_setLc hc hN hy hyl hsw hi ok hg ht he hs
end
theorem strip_iff (x y : Str) : Txt.stripChars x y = "" ↔ ∀ c ∈ x.cps.toList, c ∈ y.cps.toList := by
  have hc : ∀ c, y.cps.contains c = true ↔ c ∈ y.cps.toList := fun c => by simp
  unfold Txt.stripChars
  rw [PyProof.Rows.stripBy_eq]
  obtain ⟨l1, l2, l3⟩ := lo_facts y.cps.contains x
  obtain ⟨h1, h2, h3, h4⟩ := hi_facts y.cps.contains x _ l1
  generalize stripLo y.cps.contains true x = lo at *
  generalize stripHi y.cps.contains true x lo = hi at *
  have hn : x.length = x.cps.toList.length := by simp [Str.length]
  constructor
  · intro e c hcx
    have e2 : (PySem.Builtin.Str.strSub x lo hi).length = 0 := by rw [e]; rfl
    have e3 : (PySem.Builtin.Str.strSub x lo hi).length = min hi x.length - lo := by
      show (x.cps.extract lo hi).size = _
      simp [Str.length]
    obtain ⟨k, hk, rfl⟩ := List.mem_iff_getElem.mp hcx
    rw [← hc]
    have gk : x.cps.getD k 0 = x.cps.toList[k] := by simp [Array.getD, show k < x.cps.size by simpa using hk]
    rw [← gk]
    rcases Nat.lt_or_ge k lo with q | q
    · exact l2 k q
    · exact h3 k (by omega) (by omega)
  · intro e
    have el : lo = x.length := by
      rcases l3 with q | q
      · exact q
      · rcases Nat.lt_or_ge lo x.cps.toList.length with z | z
        · have gk : x.cps.getD lo 0 = x.cps.toList[lo] := by simp [Array.getD, show lo < x.cps.size by simpa using z]
          rw [gk, (hc _).mpr (e _ (List.getElem_mem z))] at q
          cases q
        · omega
    have eh : hi = x.length := by omega
    rw [el, eh]
    show (⟨x.cps.extract x.cps.size x.cps.size⟩ : Str) = _
    rw [Array.extract_eq_empty_of_le (by simp)]
    rfl
instance z_ixS {K : PySem.W.Frag} {a : Str} {i : Int} {H : Hp} {Q : VK} : StepZ (rIxM K (.str a) (.int i) H Q) (a.length ≤ sizeLine) (∃ n, atI a.cps.toList i = some n ∧ Q (.str ⟨#[n]⟩) H) :=
  ⟨fun hz ⟨n, e, k⟩ => g_ixS hz e k⟩
theorem one_len (n : Nat) : (⟨#[n]⟩ : Str).length = 1 := rfl
theorem reprB {K : PySem.W.Frag} {b : Bool} {H : Hp} {Q : VK} (k : Q (.str (PyData.bool b).shown) H) : rRepr K [.bl b] H Q :=
  g_repr (.bl b) (by simp [PyData.showable]) (by simp [PyData.depth]) (by rw [szl]; simp only [PyData.shown]; cases b <;> decide) k
instance i_reprB {K : PySem.W.Frag} {b : Bool} {H : Hp} {Q : VK} : Step (rRepr K [.bl b] H Q) (Q (.str (PyData.bool b).shown) H) := ⟨fun k => reprB k⟩
instance (priority := 2000) i_neSame {K : PySem.W.Frag} {a : Str} {H : Hp} {Q : VK} : Step (rNeM K (.str a) (.str a) H Q) (Q (.bl false) H) := ⟨fun k => g_ne rfl (by simpa using k)⟩
/-! ### a law's draws -/
structure PotOk (n : Nat) (a b c : Int) : Prop where
  a0 : 0 ≤ a
  b0 : 0 ≤ b
  b1 : b < 2305843009213693952
  c0 : 0 ≤ c
  c1 : c ≤ n
def PotR (n : Nat) : HO → Prop := fun u => ∃ a b c : Int, u = .lst [.int a, .int b, .int c] ∧ PotOk n a b c
abbrev PotO (P : Program) (w : World) (n : Nat) (z : Addr) : HO := AbsO P w (PotR n) z
def R_draw (P : Program) (w : World) : V → V → Hp → VK → Prop := fun x y H Q => ∃ (p : Addr) (k : Int) (n : Nat), x = .ref p ∧ y = .int k ∧
  H p = some (PotO P w n p) ∧ 1 ≤ k ∧ k < 1073741824 ∧ n ≤ 1000000000 ∧
  ∀ (r : Int) (H' : Hp), 0 ≤ r → r < k → Mx H H' → H' p = some (PotO P w (n + 1) p) → Q (.int r) H'
theorem g_draw {P : Program} {w : World} {p : Addr} {k : Int} {n : Nat} {H : Hp} {Q : VK} (hp : H p = some (PotO P w n p)) (k1 : 1 ≤ k) (k2 : k < 1073741824) (hn : n ≤ 1000000000)
    (q : ∀ (r : Int) (H' : Hp), 0 ≤ r → r < k → Mx H H' → H' p = some (PotO P w (n + 1) p) → Q (.int r) H') : R_draw P w (.ref p) (.int k) H Q :=
  ⟨p, k, n, rfl, rfl, hp, k1, k2, hn, q⟩
/-- a text that is no longer than a text may be -/
def smallD : PyData → Prop
  | .str s => s.length ≤ 16777216
  | _ => True
/-! ### texts of signs that repr shows -/
def Asc (z : Str) : Prop := ∀ c ∈ z.cps.toList, c < 16 ^ 8
theorem asc_app {a b : Str} (h1 : Asc a) (h2 : Asc b) : Asc (a ++ b) := by
  intro c hc
  rw [show (a ++ b).cps.toList = a.cps.toList ++ b.cps.toList from Array.toList_append] at hc
  rcases List.mem_append.mp hc with h | h
  · exact h1 c h
  · exact h2 c h
theorem chr_lt (c : Char) : c.toNat < 16 ^ 8 := c.val.toNat_lt
theorem asc_of (s : String) : Asc (Str.ofString s) := by
  intro c hc
  rw [Str.ofString_eq_toList] at hc
  have hc : c ∈ (s.toList.map Char.toNat).toArray.toList := hc
  rw [List.toList_toArray] at hc
  obtain ⟨d, _, rfl⟩ := List.mem_map.mp hc
  exact chr_lt d
theorem reprChar_lt {q c : Nat} (hq : q < 16 ^ 8) (hc : c < 16 ^ 8) : ∀ d ∈ PySem.Builtin.Str.reprChar q c, d < 16 ^ 8 := by
  have hh : ∀ w, ∀ d ∈ List.replicate (w - ((Nat.toDigits 16 c).map Char.toNat).length) 48 ++ (Nat.toDigits 16 c).map Char.toNat, d < 16 ^ 8 := by
    intro w d hd
    rcases List.mem_append.mp hd with h | h
    · rw [List.eq_of_mem_replicate h]; decide
    · obtain ⟨e, _, rfl⟩ := List.mem_map.mp h
      exact chr_lt e
  have two : ∀ a b : Nat, a < 16 ^ 8 → b < 16 ^ 8 → ∀ d ∈ [a, b], d < 16 ^ 8 := by
    intro a b ha hb d hd
    rcases List.mem_cons.mp hd with h | h
    · rw [h]; exact ha
    · rw [List.mem_singleton.mp h]; exact hb
  have cat : ∀ (l m : List Nat), (∀ d ∈ l, d < 16 ^ 8) → (∀ d ∈ m, d < 16 ^ 8) → ∀ d ∈ l ++ m, d < 16 ^ 8 := fun l m h1 h2 d hd => (List.mem_append.mp hd).elim (h1 d) (h2 d)
  unfold PySem.Builtin.Str.reprChar
  dsimp only
  repeat' split
  · exact two _ _ (by decide) hc
  · exact two _ _ (by decide) (by decide)
  · exact two _ _ (by decide) (by decide)
  · exact two _ _ (by decide) (by decide)
  · intro d hd; rw [List.mem_singleton.mp hd]; exact hc
  · exact cat _ _ (two _ _ (by decide) (by decide)) (hh 2)
  · exact cat _ _ (two _ _ (by decide) (by decide)) (hh 4)
  · exact cat _ _ (two _ _ (by decide) (by decide)) (hh 8)
theorem foldl_repr_lt {q : Nat} (hq : q < 16 ^ 8) : ∀ (l : List Nat) (acc : Array Nat), (∀ d ∈ acc.toList, d < 16 ^ 8) → (∀ c ∈ l, c < 16 ^ 8) →
    ∀ d ∈ (l.foldl (fun out c => out ++ (PySem.Builtin.Str.reprChar q c).toArray) acc).toList, d < 16 ^ 8
  | [], acc, h, _ => h
  | c :: r, acc, h, k => by
    refine foldl_repr_lt hq r _ (fun d hd => ?_) (fun c hc => k c (List.mem_cons_of_mem _ hc))
    rw [Array.toList_append] at hd
    rcases List.mem_append.mp hd with z | z
    · exact h d z
    · exact reprChar_lt hq (k c List.mem_cons_self) d z
theorem asc_repr {x : Str} (h : Asc x) : Asc (PyData.str x).shown := by
  simp only [PyData.shown]
  unfold reprText
  have hq : reprQuote x < 16 ^ 8 := by unfold reprQuote; split <;> decide
  intro d hd
  have hd : d ∈ ((x.cps.foldl (fun out c => out ++ (PySem.Builtin.Str.reprChar (reprQuote x) c).toArray) #[reprQuote x]).push (reprQuote x)).toList := hd
  rw [Array.toList_push, ← Array.foldl_toList] at hd
  rcases List.mem_append.mp hd with z | z
  · exact foldl_repr_lt hq _ _ (fun d hd => by rw [List.mem_singleton.mp hd]; exact hq) h d z
  · rw [List.mem_singleton.mp z]; exact hq
/-! ### things of any kind -/
structure GoodD (k : Nat) (d : PyData) : Prop where
  sh : d.showable = true
  dp : d.depth ≤ k
  ln : d.shown.length ≤ 50000 + 4 * k
  sm : smallD d
  as : Asc d.shown
theorem GoodD.mono {k j : Nat} {d : PyData} (g : GoodD k d) (h : k ≤ j) : GoodD j d := ⟨g.sh, Nat.le_trans g.dp h, by have := g.ln; omega, g.sm, g.as⟩
theorem foldl_rep (c : Nat) : ∀ (n : Nat) (acc : Array Nat), ((List.replicate n #[c]).foldl (· ++ ·) acc).toList = acc.toList ++ List.replicate n c
  | 0, acc => by simp
  | n + 1, acc => by
    rw [List.replicate_succ, List.foldl_cons, foldl_rep c n]
    simp [List.replicate_succ]
/-! ### what the top has left -/
theorem kt_mk {K : PySem.W.Frag} {a : Addr} {od : Option Addr} {its : Array Value} {n : Nat} {sl : Array (Option Value)} {xs : List V}
    (h : K.lookup a = some ⟨.type "tuple", od, .seq its n, sl⟩) (hz : its.size ≤ sizeLine) (hv : Vals xs its.toList) : Kt K a xs := ⟨_, its, n, h, rfl, rfl, hz, hv⟩
theorem df_mk {K : PySem.W.Frag} {x qual : Str} {st : Stmt} {f : Addr} {oc : Value} {od : Option Addr} {dV kV doc pm : Value} {an : Option Addr} {cdv ct : Value} {sl : Array (Option Value)}
    (l : K.lookup f = some ⟨oc, od, .func (PySem.W.fnOf x qual (defArgs st) (defBody st) (defScope st) dV kV doc pm an cdv ct), sl⟩) (c : PySem.W.codeIn K cdv qual = true) :
    Df K x qual st f (PySem.W.fnOf x qual (defArgs st) (defBody st) (defScope st) dV kV doc pm an cdv ct) := ⟨oc, od, dV, kV, doc, pm, an, cdv, ct, sl, rfl, l, c⟩
theorem Df.pos {K : PySem.W.Frag} {x qual : Str} {st : Stmt} {f : Addr} {fd : FuncData} {ps : List Str} {n : Nat} (F : Df K x qual st f fd)
    (h : ∀ (dV kV doc pm : Value) (an : Option Addr) (cdv ct : Value) (us : List Value), us.length = n →
      bindArgs (PySem.W.fnOf x qual (defArgs st) (defBody st) (defScope st) dV kV doc pm an cdv ct) ⟨us, []⟩ = pure (ps.zip us)) :
    ∀ us : List Value, us.length = n → bindArgs fd ⟨us, []⟩ = pure (ps.zip us) := by
  obtain ⟨oc, od, dV, kV, doc, pm, an, cdv, ct, sl, rfl, _, _⟩ := F.ex
  exact h dV kV doc pm an cdv ct
/-! ### names -/
abbrev lettersT : Str := "abcdefghijklmnopqrstuvwxyz"
def keptT : List Str := ["pin", "again", "move", "take", "tear", "at", "to", "until", "strips", "known"]
end L2.Pc
namespace L2.Pc
open PySem PySem.Spec PyProof.Rows
/-! ### promises that tell of exceptions too -/
def SpX1 (R : V → Hp → VK → XK → Prop) : Sp := fun vs H Q E => ∃ x, vs = [x] ∧ R x H Q E
def SpX2 (R : V → V → Hp → VK → XK → Prop) : Sp := fun vs H Q E => ∃ x y, vs = [x, y] ∧ R x y H Q E
def SpX3 (R : V → V → V → Hp → VK → XK → Prop) : Sp := fun vs H Q E => ∃ x y z, vs = [x, y, z] ∧ R x y z H Q E
def SpX4 (R : V → V → V → V → Hp → VK → XK → Prop) : Sp := fun vs H Q E => ∃ x y z u, vs = [x, y, z, u] ∧ R x y z u H Q E
def SpX5 (R : V → V → V → V → V → Hp → VK → XK → Prop) : Sp := fun vs H Q E => ∃ x y z u t, vs = [x, y, z, u, t] ∧ R x y z u t H Q E
def SpX6 (R : V → V → V → V → V → V → Hp → VK → XK → Prop) : Sp := fun vs H Q E => ∃ x y z u t r, vs = [x, y, z, u, t, r] ∧ R x y z u t r H Q E
section
variable {vs : List V} {H : Hp} {Q : VK} {E : XK} {x y z u t r : V}
theorem SpX1.len {R : V → Hp → VK → XK → Prop} (h : SpX1 R vs H Q E) : vs.length = 1 := by obtain ⟨x, rfl, _⟩ := h; rfl
theorem SpX2.len {R : V → V → Hp → VK → XK → Prop} (h : SpX2 R vs H Q E) : vs.length = 2 := by obtain ⟨x, y, rfl, _⟩ := h; rfl
theorem SpX3.len {R : V → V → V → Hp → VK → XK → Prop} (h : SpX3 R vs H Q E) : vs.length = 3 := by obtain ⟨x, y, z, rfl, _⟩ := h; rfl
theorem SpX4.len {R : V → V → V → V → Hp → VK → XK → Prop} (h : SpX4 R vs H Q E) : vs.length = 4 := by obtain ⟨x, y, z, u, rfl, _⟩ := h; rfl
theorem SpX5.len {R : V → V → V → V → V → Hp → VK → XK → Prop} (h : SpX5 R vs H Q E) : vs.length = 5 := by obtain ⟨x, y, z, u, t, rfl, _⟩ := h; rfl
theorem SpX6.len {R : V → V → V → V → V → V → Hp → VK → XK → Prop} (h : SpX6 R vs H Q E) : vs.length = 6 := by obtain ⟨x, y, z, u, t, r, rfl, _⟩ := h; rfl
instance i_callX1 {R : V → Hp → VK → XK → Prop} : Step ([x].length = 1 ∧ ([] : List V).length = 0 ∧ SpX1 R [x] H Q E) (R x H Q E) := ⟨fun k => ⟨rfl, rfl, x, rfl, k⟩⟩
instance i_callX2 {R : V → V → Hp → VK → XK → Prop} : Step ([x, y].length = 2 ∧ ([] : List V).length = 0 ∧ SpX2 R [x, y] H Q E) (R x y H Q E) := ⟨fun k => ⟨rfl, rfl, x, y, rfl, k⟩⟩
instance i_callX3 {R : V → V → V → Hp → VK → XK → Prop} : Step ([x, y, z].length = 3 ∧ ([] : List V).length = 0 ∧ SpX3 R [x, y, z] H Q E) (R x y z H Q E) := ⟨fun k => ⟨rfl, rfl, x, y, z, rfl, k⟩⟩
instance i_callX4 {R : V → V → V → V → Hp → VK → XK → Prop} : Step ([x, y, z, u].length = 4 ∧ ([] : List V).length = 0 ∧ SpX4 R [x, y, z, u] H Q E) (R x y z u H Q E) := ⟨fun k => ⟨rfl, rfl, x, y, z, u, rfl, k⟩⟩
end
/-! ### calls of defs that may raise -/
section
variable {X : Cx} {CX : CXT} {k n : Nat} {ks : List Str} {gV : List V → List V → List V} {sp : Sp} {E : L2.St → XK} {x : Str}
  {p pos : Pos} {e : Expr} {es : List Expr} {kws : List Keyword} {t tk : TA}
def tKnS (n m : Nat) (gV : List V → List V → List V) (sp : Sp) (E : L2.St → XK) (t tk : TA) : TE := fun σ H Q =>
  t σ H fun vs H1 => tk σ H1 fun zs H2 => vs.length = n ∧ zs.length = m ∧ sp (gV vs zs) H2 Q (E σ)
instance i_knS {σ : L2.St} {H : Hp} {Q : VK} {m : Nat} {ts tk : TA} : Step (tKnS n m gV sp E ts tk σ H Q) (ts σ H fun vs H1 => tk σ H1 fun zs H2 => vs.length = n ∧ zs.length = m ∧ sp (gV vs zs) H2 Q (E σ)) := ⟨fun k => k⟩
end
/-! ### an own exception class with its own __init__ -/
/-- the class x stands at C, its __init__ at fI; fs: the fields -/
structure XcK (K : PySem.W.Frag) (mg : Str → Option Value) (x : Str) (C fI : Addr) (fs : List Str) : Prop where
  g : mg x = some (.ref C)
  oe : OexC K C
  xf : XfC K C
  iC : PySem.W.findIn K (.ref C) "__init__" = some (some (.ref fI))
  tI : PySem.W.typeIn K (.ref fI) = some (.type "function")
  no : ∀ f ∈ fs, PySem.W.findIn K (.ref C) f = some none
  me : PySem.W.exmOne K (.ref C) (.ref C) = some true
/-- the base class x, without own __init__ -/
structure XbK (K : PySem.W.Frag) (mg : Str → Option Value) (x : Str) (C : Addr) : Prop where
  g : mg x = some (.ref C)
  sp : PySem.W.specialIn K (.ref C) "__getattribute__" = some (some (.builtin "type.__getattribute__"))
  ty : PySem.W.typeIn K (.ref C) = some (.type "type")
  rd : PySem.W.readsIn K C (.type "type") = true
  fi : PySem.W.findCls K (.ref C) (.type "type") "__init__" = some (.val (.builtin "ValueError.__init__"))
section
variable {X : Cx} {o e : Expr} {es : List Expr} {to te : TE} {ta : TA} {f x : Str} {p p' p1 p2 pos : Pos} {C : Addr} {K : PySem.W.Frag}
/-- C.__init__(self, ..), C without own __init__ -/
theorem pe_cinit {pl : Sem Bool} (hK : X.K = K) (B : XbK K X.mg x C) (hg : Gl X x) (ha : PA X (e :: es) ta)
    (hc : eval (.Call (.Attribute (.Name x p1) "__init__" p2) (e :: es) [] pos) X.env = (do
      let ov ← eval (.Name x p1) X.env
      standAt p2.atName
      let (f, first) ← holding [ov] (getMethod ov "__init__" pl)
      callWith pos f first (backTo pos (starEach (e :: es) X.env)) (backToKw pos (keywordEach [] X.env))) := by rfl)
    (he : starEach (e :: es) X.env = (false, eval e X.env) :: starEach es X.env := by rfl) (hpl : (backTo pos (starEach es X.env)).any (·.1) = false := by rfl)
    (hdb : (x == ("__debug__" : Str)) = false := by decide) :
    PE X (.Call (.Attribute (.Name x p1) "__init__" p2) (e :: es) [] pos) (tVeI K ta) := by
  subst hK
  refine ⟨fun pins s σ H Q I h => ?_⟩
  refine PySem.W.methodCall_KW (ld_glob I hg B.g ?_ hdb) hc
  obtain ⟨m, fr⟩ := I.fr
  refine PySem.W.method_of_cls fr I.ok.mod.kin B.sp (PySem.W.cls_val fr I.ok.mod.kin B.ty B.rd B.fi (by rfl) ?_)
  show wpAny _ _ (callWith pos (Value.builtin "ValueError.__init__") [] (backTo pos (starEach (e :: es) X.env)) []) _ _ _
  refine PyProof.Rows.callWith_method1 (thn (ha.run pos pins _ σ H _ (I.tok _) h) fun us s1 ⟨vs, H1, I1, r1, a, C, ws, ev, hl, T, ea, q⟩ => ?_) he hpl
  subst ev
  cases r1 with
  | @cons _ u0 _ ur ra rw' =>
    obtain rfl : u0 = Value.ref a := ra
    have hlen : ur.length ≤ sizeLine := by
      rw [← Paired.length rw', sizeLine_eq]
      omega
    exact oinit_ok T I1 ea hlen fun s' J => ⟨.non, H1, J, rfl, q⟩
theorem ps_ostK (hK : X.K = K) (ho : PE X o to) (he : PE X e te) (hs : swapsWith e (some (.Attribute o f p')) pos.line X.env = pure false := by rfl) : PS X (.Assign [.Attribute o f p'] e pos) (tOst K f to te) := hK ▸ ps_ost ho he hs
end
/-! ### readings -/
/-- what an __init__ of one field promises -/
def R_exc1 (C : Addr) (f : Str) : V → V → Hp → VK → Prop := fun x y H Q => ∃ a, x = .ref a ∧ H a = some (exo a C none) ∧
  ∀ dx, H dx = none → dx ≠ a → Q .non (upd (upd H dx (exd dx [(f, y)])) a (exo a C (some dx)))
/-- a new exception of the class at C, its field -/
def NewX (C : Addr) (f : Str) (y : V) (H : Hp) (Q : XK) : Prop := ∀ d H2, H d = none → Same H H2 → H2 d = some (.xd [(f, y)]) → Q (.ref C) (some d) H2
/-- the leaf of C(e, ..) -/
def MkX (C : Addr) (sp : Sp) (H1 : Hp) (Q : XK) (vs : List V) : Prop := vs.length ≤ 1000 ∧ ∀ a, H1 a = none → sp (.ref a :: (vs ++ [])) (upd H1 a (exo a C none))
  (fun v H2 => v = .non ∧ ∃ (d : Addr) (fs : List (Str × V)), H2 a = some (exo a C (some d)) ∧ H2 d = some (exd d fs) ∧ H1 d = none ∧ Q (.ref C) (some d) (upd (del H2 a) d (.xd fs))) (fun _ _ _ => False)
theorem g_mkX {C : Addr} {f : Str} {H1 : Hp} {Q : XK} {y : V} (q : NewX C f y H1 Q) : MkX C (Sp2 (R_exc1 C f)) H1 Q [y] := by
  refine ⟨by simp, fun a na => ⟨_, y, rfl, a, rfl, upd_same, fun dx nd ne => ⟨rfl, dx, [(f, y)], upd_same, ?_, ?_, ?_⟩⟩⟩
  · rw [upd_ne ne, upd_same]
  · rw [upd_ne ne] at nd; exact nd
  · rw [upd_ne ne] at nd
    refine q dx _ nd (fun b o hb => ?_) upd_same
    have b1 : b ≠ dx := ne_of_none hb nd
    have b2 : b ≠ a := ne_of_none hb na
    rw [upd_ne b1, del_ne b2, upd_ne b2, upd_ne b1, upd_ne b2]
    exact hb
section
variable {σ : L2.St} {H : Hp} {K : PySem.W.Frag} {C : Addr} {f : Str} {y : V}
instance i_mkO {sp : Sp} {ta : TA} {Q : XK} : Step (tMkO C sp [] ta σ H Q) (ta σ H fun vs H1 => MkX C sp H1 Q vs) := ⟨fun k => k⟩
instance i_mkX {Q : XK} : Step (MkX C (Sp2 (R_exc1 C f)) H Q [y]) (NewX C f y H Q) := ⟨g_mkX⟩
instance i_vei {ta : TA} {Q : VK} : Step (tVeI K ta σ H Q) (ta σ H fun vs H1 => ∃ (a C : Addr) (ws : List V), vs = .ref a :: ws ∧ ws.length ≤ 1000 ∧ OexC K C ∧ H1 a = some (exo a C none) ∧ Q .non H1) := ⟨fun k => k⟩
instance i_ost {to te : TE} {D : Ends} : Step (tOst K f to te D σ H) (te σ H fun y H1 => to σ H1 fun x H2 => ∃ a C : Addr, x = .ref a ∧ OexC K C ∧ PySem.W.findIn K (.ref C) f = some none ∧
  ((H2 a = some (exo a C none) ∧ ∀ dx, H2 dx = none → dx ≠ a → D.nx σ (upd (upd H2 dx (exd dx [(f, y)])) a (exo a C (some dx)))) ∨
    ∃ (dx : Addr) (fs : List (Str × V)), H2 a = some (exo a C (some dx)) ∧ H2 dx = some (exd dx fs) ∧ fs.length ≤ 900 ∧ D.nx σ (upd H2 dx (exd dx ((f, y) :: fs))))) := ⟨fun k => k⟩
end
instance i_xf {a C : Addr} {cls : Value} {d : Option Addr} {f : Str} {te : TE} {σ : L2.St} {H : Hp} {Q : VK} : Step (tXf a cls d C f te σ H Q) (te σ H fun x H1 => x = .ref a ∧ cls = .ref C ∧ ∃ (dd : Addr) (fs : List (Str × V)) (v : V), d = some dd ∧ H1 dd = some (.xd fs) ∧ fs.lookup f = some v ∧ Q v H1) := ⟨fun k => k⟩
theorem exm_of {K : PySem.W.Frag} {C S : Addr} {b : Bool} (h1 : PySem.W.subIn K (.ref S) (.type "BaseException") = some true) (h2 : PySem.W.isClsIn K S = true) (h3 : PySem.W.typeIn K (.ref S) = some (.type "type")) (h4 : PySem.W.subIn K (.ref C) (.ref S) = some b) :
    PySem.W.exmOne K (.ref C) (.ref S) = some b := by
  have e1 : (PySem.W.subIn K (.ref S) (.type "BaseException") == some true) = true := by rw [h1] <;> rfl
  have e2 : ((PySem.W.clsIn K S).isSome && PySem.W.typeIn K (.ref S) == some (.type "type")) = true := by
    have h2' : (PySem.W.clsIn K S).isSome = true := h2
    rw [h2', h3] <;> rfl
  show (if (PySem.W.subIn K (.ref S) (.type "BaseException") == some true) = true then (if ((PySem.W.clsIn K S).isSome && PySem.W.typeIn K (.ref S) == some (.type "type")) = true then PySem.W.subIn K (.ref C) (.ref S) else none) else none) = some b
  rw [if_pos e1, if_pos e2]
  exact h4
theorem oexC_mk {K : PySem.W.Frag} {C N : Addr} {nm q : Str} {bs bm : List Value} {sn : List Str} {sub : List Value} {ab : Bool} {col : Option Bool} {dd : Option Addr} {k0 k1 k2 k3 k5 : Option Value}
    (l : K.lookup C = some (excClassObj nm q C N bs bm true sn sub ab col dd k0 k1 k2 k3 k5 "ValueError.__new__")) (r : PySem.HandSPX.refsVE bm = true)
    (sa : PySem.W.findIn K (.ref C) "__setattr__" = some (some (.builtin "object.__setattr__"))) (ex : PySem.W.subIn K (.ref C) (.type "BaseException") = some true)
    (ty : PySem.W.typeIn K (.ref C) = some (.type "type")) (kp : PySem.W.keepIn K (.ref C) = true) : OexC K C := ⟨⟨nm, q, N, bs, bm, sn, sub, ab, col, dd, k0, k1, k2, k3, k5, l, r⟩, sa, ex, ty, kp⟩
end L2.Pc
namespace L2.Pc
open PySem PySem.Spec PyProof.Rows
/-! ### texts further -/
section
variable {X : Cx}
def rStrM : List V → Hp → VK → Prop := fun xs H Q => (∃ i, xs = [.int i] ∧ i.natAbs.log2 < 1920 ∧ Q (.str (toString i)) H) ∨ ∃ a, xs = [.str a] ∧ Q (.str a) H
theorem call_strM : CallR X (.type "str") rStrM := by
  intro pins s σ H xs us Q I r h
  rcases h with h | h
  · exact call_str_int pins s σ H xs us Q I r h
  · exact SkE.call_str_str pins s σ H xs us Q I r h
def rZfill : V → List V → Hp → VK → Prop := fun x xs H Q => ∃ (a : Str) (i : Int), x = .str a ∧ xs = [.int i] ∧ PadOk i = true ∧ Q (.str (Txt.zfill a i)) H
theorem mt_zfillM : MtR X "str.zfill" rZfill := mt_zfill
def rPart : V → List V → Hp → VK → Prop := fun x xs H Q => ∃ a b, x = .str a ∧ xs = [.str b] ∧ (b.length == 0) = false ∧ a.length ≤ sizeLine ∧
  ∀ p, H p = none → Q (.ref p) (upd H p (.tup [.str (Txt.partition a b).1, .str (Txt.partition a b).2.1, .str (Txt.partition a b).2.2]))
theorem mt_partM : MtR X "str.partition" rPart := mt_partition
end
section
variable {σ : L2.St} {H : Hp} {Q : VK} {a b : Str} {i : Int}
instance z_strI : StepZ (rStrM [.int i] H Q) (i.natAbs.log2 < 1920) (Q (.str (toString i)) H) := ⟨fun h k => .inl ⟨i, rfl, h, k⟩⟩
instance i_strS : Step (rStrM [.str a] H Q) (Q (.str a) H) := ⟨fun k => .inr ⟨a, rfl, k⟩⟩
instance z_zfill : StepZ (rZfill (.str a) [.int i] H Q) (PadOk i = true) (Q (.str (Txt.zfill a i)) H) := ⟨fun h k => ⟨a, i, rfl, rfl, h, k⟩⟩
instance z_part : StepZ (rPart (.str a) [.str b] H Q) ((b.length == 0) = false ∧ a.length ≤ sizeLine) (NewO H (.tup [.str (Txt.partition a b).1, .str (Txt.partition a b).2.1, .str (Txt.partition a b).2.2]) Q) :=
  ⟨fun h k => ⟨a, b, rfl, rfl, h.1, h.2, k⟩⟩
end
/-- a[::-1] of a text: a text of signs of it, no longer -/
def tRevS (te : TE) : TE := fun σ H Q => te σ H fun x H1 => ∃ a, x = .str a ∧ a.length ≤ sizeLine ∧ ∀ z : Str, z.length ≤ a.length → (∀ c ∈ z.cps.toList, c ∈ a.cps.toList) → Q (.str z) H1
instance i_revS {te : TE} {σ : L2.St} {H : Hp} {Q : VK} : Step (tRevS te σ H Q) (te σ H fun x H1 => ∃ a, x = .str a ∧ a.length ≤ sizeLine ∧ ∀ z : Str, z.length ≤ a.length → (∀ c ∈ z.cps.toList, c ∈ a.cps.toList) → Q (.str z) H1) := ⟨fun k => k⟩
/-! ### small numbers as texts -/
theorem log_small {i : Int} (h0 : 0 ≤ i) (h1 : i < 18446744073709551616) : i.natAbs.log2 < 1920 := by
  have : i.natAbs < 2 ^ 64 := by omega
  by_cases hz : i.natAbs = 0
  · rw [hz]; decide
  · exact Nat.lt_trans ((Nat.log2_lt hz).mpr this) (by decide)
theorem int_len {i : Int} (h0 : 0 ≤ i) (h1 : i < 18446744073709551616) : (toString i : Str).length ≤ 65 := by
  have h2 : i.natAbs.log2 < 64 := by
    have : i.natAbs < 2 ^ 64 := by omega
    by_cases hz : i.natAbs = 0
    · rw [hz]; decide
    · exact (Nat.log2_lt hz).mpr this
  have := int_text_length_le (k := 64) (by decide) h2
  show (Str.ofString (toString i)).length ≤ 65
  rw [PySem.ofString_length]
  exact this
def figS (d : Int) : Str := ⟨#[("0123456789" : Str).cps.toList.getD d.toNat 0]⟩
theorem atFig {d : Int} (h0 : 0 ≤ d) (h1 : d < 10) : atI ("0123456789" : Str).cps.toList d = some (("0123456789" : Str).cps.toList.getD d.toNat 0) := by
  obtain ⟨k, rfl⟩ : ∃ k : Nat, d = k := ⟨d.toNat, by omega⟩
  have hk : k < ("0123456789" : Str).cps.toList.length := by show k < 10; omega
  rw [Int.toNat_natCast]
  refine atI_nat' ?_
  rw [List.getD_eq_getElem?_getD, List.getElem?_eq_getElem hk]
  rfl
theorem two_figs : ∀ h ∈ List.range 24, Txt.zfill (toString (h : Int) : Str) 2 = figS ((h : Int) / 10) ++ figS ((h : Int) % 10) := by decide +kernel
theorem two_figs' {h : Int} (h0 : 0 ≤ h) (h1 : h < 24) : Txt.zfill (toString h : Str) 2 = figS (h / 10) ++ figS (h % 10) := by
  obtain ⟨k, rfl⟩ : ∃ k : Nat, h = k := ⟨h.toNat, by omega⟩
  exact two_figs k (List.mem_range.mpr (by omega))
/-- a moment's text: day, point, two figures -/
def whenT (m : Int) : Str := (toString (m / 24) : Str) ++ "." ++ Txt.zfill (toString (m % 24) : Str) 2
theorem str_assoc (a b c : Str) : (a ++ b) ++ c = a ++ (b ++ c) := by
  obtain ⟨a⟩ := a; obtain ⟨b⟩ := b; obtain ⟨c⟩ := c
  show Str.mk ((a ++ b) ++ c) = Str.mk (a ++ (b ++ c))
  rw [Array.append_assoc]
/-! ### texts of figures -/
abbrev figT : Str := "0123456789"
def digB (s : Str) : Bool := s.cps.toList.all fun c => decide (c ∈ figT.cps.toList)
theorem fig_iff (c : Nat) : c ∈ figT.cps.toList ↔ 48 ≤ c ∧ c ≤ 57 := by
  rw [show figT.cps.toList = [48, 49, 50, 51, 52, 53, 54, 55, 56, 57] from by decide +kernel]
  simp only [List.mem_cons, List.not_mem_nil, or_false]
  omega
theorem dig_all {s : Str} (h : digB s = true) : PySem.NumText.AllDigits s.cps.toList := fun c hc => (fig_iff c).mp (of_decide_eq_true ((List.all_eq_true.mp h) c hc))
theorem dig_int {s : Str} (h : digB s = true) (h1 : 1 ≤ s.length) (h2 : s.length ≤ 640) : ∃ n : Nat, PySem.intText? s = some (n : Int) := by
  refine ⟨_, PySem.intText_digits (dig_all h) ?_ (by omega)⟩
  intro e
  have : s.length = s.cps.toList.length := by simp [Str.length]
  rw [e] at this
  simp at this
  omega
instance z_intS {a : Str} {H : Hp} {Q : VK} : StepZ (rIntM [.str a] H Q) (a.length ≤ 640) (∃ n, PySem.intText? a = some n ∧ Q (.int n) H) := ⟨fun h ⟨n, e, k⟩ => g_intS e h k⟩
def zeroB (s : Str) : Bool := decide ((⟨#[s.cps.toList.getD 0 0]⟩ : Str) = "0") && !decide (s = "0")
/-- what number_of tells -/
def numOf (s : Str) (lo hi : Int) : Option Int :=
  if decide (1 ≤ (s.length : Int)) && decide ((s.length : Int) ≤ ((toString hi : Str).length : Int)) && digB s && !zeroB s then
    match PySem.intText? s with
    | some n => if lo ≤ n ∧ n ≤ hi then some n else none
    | none => none
  else none
/-! ### is None; a tuple unpacked -/
def rIsNo : R2 := fun x y H Q => y = .non ∧ Q (.bl (decide (x = .non))) H
def rNotNo : R2 := fun x y H Q => y = .non ∧ Q (.bl (!decide (x = .non))) H
theorem op_isNo {X : Cx} : OpR X (compareOp .Is) rIsNo := op_isN
theorem op_notNo {X : Cx} : OpR X (compareOp .IsNot) rNotNo := op_notN
section
variable {H : Hp} {Q : VK} {i : Int} {a : Str} {b : Bool} {p : Addr} {m : String}
instance i_isNoN : Step (rIsNo .non .non H Q) (Q (.bl true) H) := ⟨fun k => ⟨rfl, k⟩⟩
instance i_notNoN : Step (rNotNo .non .non H Q) (Q (.bl false) H) := ⟨fun k => ⟨rfl, k⟩⟩
instance i_isNoI : Step (rIsNo (.int i) .non H Q) (Q (.bl false) H) := ⟨fun k => ⟨rfl, by rw [show decide ((.int i : V) = .non) = false from decide_eq_false (fun z => by cases z)]; exact k⟩⟩
instance i_notNoI : Step (rNotNo (.int i) .non H Q) (Q (.bl true) H) := ⟨fun k => ⟨rfl, by rw [show decide ((.int i : V) = .non) = false from decide_eq_false (fun z => by cases z)]; exact k⟩⟩
instance i_isNoS : Step (rIsNo (.str a) .non H Q) (Q (.bl false) H) := ⟨fun k => ⟨rfl, by rw [show decide ((.str a : V) = .non) = false from decide_eq_false (fun z => by cases z)]; exact k⟩⟩
instance i_notNoS : Step (rNotNo (.str a) .non H Q) (Q (.bl true) H) := ⟨fun k => ⟨rfl, by rw [show decide ((.str a : V) = .non) = false from decide_eq_false (fun z => by cases z)]; exact k⟩⟩
instance i_isNoB : Step (rIsNo (.bl b) .non H Q) (Q (.bl false) H) := ⟨fun k => ⟨rfl, by rw [show decide ((.bl b : V) = .non) = false from decide_eq_false (fun z => by cases z)]; exact k⟩⟩
instance i_notNoB : Step (rNotNo (.bl b) .non H Q) (Q (.bl true) H) := ⟨fun k => ⟨rfl, by rw [show decide ((.bl b : V) = .non) = false from decide_eq_false (fun z => by cases z)]; exact k⟩⟩
instance i_isNoR : Step (rIsNo (.ref p) .non H Q) (Q (.bl false) H) := ⟨fun k => ⟨rfl, by rw [show decide ((.ref p : V) = .non) = false from decide_eq_false (fun z => by cases z)]; exact k⟩⟩
instance i_notNoR : Step (rNotNo (.ref p) .non H Q) (Q (.bl true) H) := ⟨fun k => ⟨rfl, by rw [show decide ((.ref p : V) = .non) = false from decide_eq_false (fun z => by cases z)]; exact k⟩⟩
instance i_isNoTy : Step (rIsNo (.ty m) .non H Q) (Q (.bl false) H) := ⟨fun k => ⟨rfl, by rw [show decide ((.ty m : V) = .non) = false from decide_eq_false (fun z => by cases z)]; exact k⟩⟩
instance i_notNoTy : Step (rNotNo (.ty m) .non H Q) (Q (.bl true) H) := ⟨fun k => ⟨rfl, by rw [show decide ((.ty m : V) = .non) = false from decide_eq_false (fun z => by cases z)]; exact k⟩⟩
end
theorem pg_tupK {X : Cx} {K : PySem.W.Frag} {es : List Expr} {k : Nat} {t : TGs} {n : Nat} {pos : Pos} (hK : X.K = K) (hc : X.calm = true) (h : PGs X es t)
    (hn : (assignEach es X.env).length = n := by rfl) (hst : (assignEach es X.env).findIdx? (·.1) = none := by rfl) : PG X (.Tuple es k pos) (gTup K n t) := hK ▸ pg_tup hc h hn hst
section
variable {K : PySem.W.Frag} {σ : L2.St} {H : Hp} {t : TG} {u : TGs} {n : Nat} {v : V} {vs : List V} {a : Addr} {R : L2.St → Hp → Prop}
instance q_gTup : StepQ (gTup K n u (.ref a) σ H R) (fun xs => SqT K H a xs) (fun xs => xs.length = n ∧ u xs σ H R) := ⟨fun xs h k => ⟨a, xs, rfl, h, k.1, k.2⟩⟩
instance i_gCons : Step (gCons t u (v :: vs) σ H R) (t v σ H fun σ' H' => u vs σ' H' R) := ⟨fun k => ⟨v, vs, rfl, k⟩⟩
instance i_gNil : Step (gNil [] σ H R) (R σ H) := ⟨fun k => ⟨rfl, k⟩⟩
end
theorem part_len (x y : Str) : (Txt.partition x y).1.length ≤ x.length ∧ (Txt.partition x y).2.2.length ≤ x.length := by
  unfold Txt.partition
  split
  · exact ⟨len_strSub x _ _, len_strSub x _ _⟩
  · exact ⟨Nat.le_refl _, Nat.zero_le _⟩
theorem numOf_le {s : Str} {lo hi n : Int} (h : numOf s lo hi = some n) : lo ≤ n ∧ n ≤ hi := by
  unfold numOf at h
  split at h
  · split at h
    · split at h
      · cases h; assumption
      · cases h
    · cases h
  · cases h
/-- the moment of a text -/
def momOf (s : Str) : Option Int :=
  match numOf (Txt.partition s ".").1 0 399 with
  | none => none
  | some d =>
    if (Txt.partition s ".").2.1 = "" ∨ (Txt.partition s ".").2.2.length ≠ 2 ∨ digB (Txt.partition s ".").2.2 = false then none
    else match PySem.intText? (Txt.partition s ".").2.2 with
      | some h => if h < 24 then some (d * 24 + h) else none
      | none => none
end L2.Pc
namespace L2.Pc
open PySem PySem.Spec PyProof.Rows
/-! ### a text cut at its first sign c -/
theorem str_ext {a b : Str} (h : a.cps.toList = b.cps.toList) : a = b := by
  obtain ⟨⟨a⟩⟩ := a; obtain ⟨⟨b⟩⟩ := b
  rw [show a = b from h]
theorem sub_list (x : Str) (a b : Nat) : (PySem.Builtin.Str.strSub x a b).cps.toList = (x.cps.toList.take b).drop a := by
  show (x.cps.extract a b).toList = _
  rw [Array.toList_extract]
  simp [List.extract, List.drop_take]
theorem len_list (x : Str) : x.length = x.cps.toList.length := by simp [Str.length]
theorem partC (s : Str) (c : Nat) : (Txt.partition s ⟨#[c]⟩ = (s, Str.empty, Str.empty) ∧ c ∉ s.cps.toList) ∨
    ∃ i, s.cps.toList[i]? = some c ∧ (∀ k, k < i → s.cps.toList[k]? ≠ some c) ∧
      Txt.partition s ⟨#[c]⟩ = (PySem.Builtin.Str.strSub s 0 i, ⟨#[c]⟩, PySem.Builtin.Str.strSub s (i + 1) s.length) := by
  rcases StrLaws.occ_head s ⟨#[c]⟩ 1 (by decide) with ⟨e, h⟩ | ⟨i, r, e, h, hk⟩
  · left
    refine ⟨by unfold Txt.partition; rw [e], fun hc => ?_⟩
    obtain ⟨k, hk⟩ := List.getElem?_of_mem hc
    exact h k ((StrLaws.subAt_one s c k).mpr hk)
  · right
    exact ⟨i, (StrLaws.subAt_one s c i).mp h, fun k q z => hk k q ((StrLaws.subAt_one s c k).mpr z), by unfold Txt.partition; rw [e]; rfl⟩
theorem cut_to_neg {s : Str} {k : Nat} (hk : 1 ≤ k) (h : k ≤ s.length) : (cutS s none (some (-(k : Int)))).cps.toList = s.cps.toList.take (s.length - k) := by
  unfold cutS HT.sIx
  dsimp only
  rw [if_pos (by omega)]
  simp only [List.drop_zero, Nat.sub_zero]
  congr 1
  omega
theorem cut_from_neg {s : Str} {k : Nat} (hk : 1 ≤ k) (h : k ≤ s.length) : (cutS s (some (-(k : Int))) none).cps.toList = s.cps.toList.drop (s.length - k) := by
  unfold cutS HT.sIx
  dsimp only
  rw [if_pos (by omega)]
  rw [show (-(k : Int) + (s.length : Int)).toNat = s.length - k by omega]
  refine List.take_of_length_le ?_
  rw [List.length_drop, ← len_list]
  exact Nat.le_refl _
theorem atI_neg {α : Type} {xs : List α} {k : Nat} (hk : 1 ≤ k) (h : k ≤ xs.length) : atI xs (-(k : Int)) = xs[xs.length - k]? := by
  unfold atI ixN
  rw [if_neg (by omega), if_pos (by omega)]
  show xs[(-(k : Int) + (xs.length : Int)).toNat]? = _
  congr 1
  omega
theorem mom_some {s : Str} {m : Int} (h : momOf s = some m) : 4 ≤ s.length ∧ s.length ≤ 6 ∧ s.cps.toList[s.length - 3]? = some 46 ∧
    digB (cutS s none (some (-3))) = true ∧ digB (cutS s (some (-2)) none) = true := by
  unfold momOf at h
  rcases partC s 46 with ⟨e, _⟩ | ⟨i, hi, hk, e⟩
  · rw [show (("." : Str)) = ⟨#[46]⟩ from rfl, e] at h
    dsimp only at h
    cases hd : numOf s 0 399 with
    | none => rw [hd] at h; cases h
    | some d => rw [hd] at h; dsimp only at h; rw [if_pos (.inl rfl)] at h; cases h
  · rw [show (("." : Str)) = ⟨#[46]⟩ from rfl, e] at h
    dsimp only at h
    have il : i < s.length := by rw [len_list]; exact (List.getElem?_eq_some_iff.mp hi).1
    have l1 : (PySem.Builtin.Str.strSub s 0 i).length = i := by rw [len_list, sub_list, List.drop_zero, List.length_take, ← len_list]; omega
    have l2 : (PySem.Builtin.Str.strSub s (i + 1) s.length).length = s.length - (i + 1) := by rw [len_list, sub_list, List.length_drop, List.length_take, ← len_list]; omega
    cases hd : numOf (PySem.Builtin.Str.strSub s 0 i) 0 399 with
    | none => rw [hd] at h; cases h
    | some d =>
      rw [hd] at h
      dsimp only at h
      by_cases c : (⟨#[46]⟩ : Str) = "" ∨ (PySem.Builtin.Str.strSub s (i + 1) s.length).length ≠ 2 ∨ digB (PySem.Builtin.Str.strSub s (i + 1) s.length) = false
      · rw [if_pos c] at h; cases h
      · have c2 : (PySem.Builtin.Str.strSub s (i + 1) s.length).length = 2 := by
          by_cases z : (PySem.Builtin.Str.strSub s (i + 1) s.length).length = 2
          · exact z
          · exact absurd (.inr (.inl z)) c
        have c3 : digB (PySem.Builtin.Str.strSub s (i + 1) s.length) = true := by
          cases z : digB (PySem.Builtin.Str.strSub s (i + 1) s.length) with
          | true => rfl
          | false => exact absurd (.inr (.inr z)) c
        have n1 : 1 ≤ i ∧ i ≤ 3 ∧ digB (PySem.Builtin.Str.strSub s 0 i) = true := by
          unfold numOf at hd
          rw [l1] at hd
          have e399 : (toString (399 : Int) : Str).length = 3 := by decide +kernel
          rw [e399] at hd
          split at hd
          · rename_i z
            simp only [Bool.and_eq_true, decide_eq_true_eq] at z
            exact ⟨by omega, by omega, z.1.2⟩
          · cases hd
        have hl : s.length = i + 3 := by omega
        have e1 : PySem.Builtin.Str.strSub s 0 i = cutS s none (some (-3)) := str_ext (by
          rw [sub_list, List.drop_zero]
          have := cut_to_neg (s := s) (k := 3) (by decide) (by omega)
          rw [show (-3 : Int) = -((3 : Nat) : Int) from rfl, this]
          congr 1; omega)
        have e2 : PySem.Builtin.Str.strSub s (i + 1) s.length = cutS s (some (-2)) none := str_ext (by
          rw [sub_list]
          have := cut_from_neg (s := s) (k := 2) (by decide) (by omega)
          rw [show (-2 : Int) = -((2 : Nat) : Int) from rfl, this, List.take_of_length_le (by rw [← len_list]; exact Nat.le_refl _)]
          congr 1; omega)
        refine ⟨by omega, by omega, ?_, ?_, ?_⟩
        · rw [show s.length - 3 = i by omega]; exact hi
        · rw [← e1]; exact n1.2.2
        · rw [← e2]; exact c3
theorem mom_part {s : Str} (h1 : 4 ≤ s.length) (h3 : s.cps.toList[s.length - 3]? = some 46) (h4 : digB (cutS s none (some (-3))) = true) :
    Txt.partition s "." = (cutS s none (some (-3)), ("." : Str), cutS s (some (-2)) none) := by
  have c1 := cut_to_neg (s := s) (k := 3) (by decide) (by omega)
  have c2 := cut_from_neg (s := s) (k := 2) (by decide) (by omega)
  have nd : ∀ k, k < s.length - 3 → s.cps.toList[k]? ≠ some 46 := fun k hk z => by
    have m : 46 ∈ (cutS s none (some (-3))).cps.toList := by
      rw [show (-3 : Int) = -((3 : Nat) : Int) from rfl, c1]
      exact List.mem_of_getElem? (i := k) (by rw [List.getElem?_take_of_lt hk]; exact z)
    have := dig_all h4 46 m
    omega
  rw [show (("." : Str)) = ⟨#[46]⟩ from rfl]
  rcases partC s 46 with ⟨e, hn⟩ | ⟨i, hi, hk, e⟩
  · exact absurd (List.mem_of_getElem? h3) hn
  · have ei : i = s.length - 3 := by
      rcases Nat.lt_trichotomy i (s.length - 3) with z | z | z
      · exact absurd hi (nd i z)
      · exact z
      · exact absurd h3 (hk _ z)
    subst ei
    rw [e]
    refine Prod.ext ?_ (Prod.ext rfl ?_)
    · exact str_ext (by rw [sub_list, List.drop_zero, show (-3 : Int) = -((3 : Nat) : Int) from rfl, c1])
    · exact str_ext (by
        dsimp only
        rw [sub_list, show (-2 : Int) = -((2 : Nat) : Int) from rfl, c2, List.take_of_length_le (by rw [← len_list]; exact Nat.le_refl _)]
        congr 1; omega)
theorem one_eq {c d : Nat} : ((⟨#[c]⟩ : Str) = ⟨#[d]⟩) ↔ c = d := ⟨fun h => by injection h with h; simpa using h, fun h => by rw [h]⟩
section
variable {K : PySem.W.Frag} {x : V} {p : Addr} {H : Hp} {Q : VK}
instance (priority := 2000) q_in1 : StepQ (rInM K true x (.ref p) H Q) (fun xs => SqL K H p xs ∨ SqT K H p xs)
  (fun xs => flatV x = true ∧ xs.all flatV = true ∧ Q (.bl (!inV x xs)) H) := ⟨fun xs h ⟨k1, k2, k3⟩ => g_inQ h k1 k2 k3⟩
instance (priority := 2000) q_in0 : StepQ (rInM K false x (.ref p) H Q) (fun xs => SqL K H p xs ∨ SqT K H p xs)
  (fun xs => flatV x = true ∧ xs.all flatV = true ∧ Q (.bl (inV x xs)) H) := ⟨fun xs h ⟨k1, k2, k3⟩ => g_inQ h k1 k2 k3⟩
end
theorem numOf_of {s : Str} {hi : Int} {n : Int} (h1 : 1 ≤ s.length) (h2 : s.length ≤ (toString hi : Str).length) (h3 : digB s = true) (hn : PySem.intText? s = some n) :
    numOf s 0 hi = if zeroB s then none else if 0 ≤ n ∧ n ≤ hi then some n else none := by
  unfold numOf
  rw [decide_eq_true (by omega), decide_eq_true (by omega), h3, hn]
  cases zeroB s <;> rfl
theorem momOf_of {s day hour : Str} {d h : Nat} (hp : Txt.partition s "." = (day, ("." : Str), hour)) (h1 : 1 ≤ day.length) (h2 : day.length ≤ 3) (h3 : digB day = true) (hd : PySem.intText? day = some (d : Int))
    (h4 : hour.length = 2) (h5 : digB hour = true) (hh : PySem.intText? hour = some (h : Int)) :
    momOf s = if zeroB day then none else if (d : Int) < 400 ∧ (h : Int) < 24 then some ((d : Int) * 24 + h) else none := by
  unfold momOf
  rw [hp]
  dsimp only
  rw [numOf_of h1 (by rw [show (toString (399 : Int) : Str).length = 3 from by decide +kernel]; exact h2) h3 hd]
  cases zeroB day with
  | true => rfl
  | false =>
    rw [if_neg (by decide)]
    by_cases c : (d : Int) < 400
    · rw [if_pos (by omega : (0 : Int) ≤ d ∧ (d : Int) ≤ 399)]
      dsimp only
      rw [if_neg (by rintro (z | z | z); · exact absurd z (by decide)
                     · exact z h4
                     · rw [h5] at z; cases z), hh]
      dsimp only
      by_cases e : (h : Int) < 24
      · rw [if_pos e, if_neg (by decide), if_pos ⟨c, e⟩]
      · rw [if_neg e, if_neg (by decide), if_neg (fun z => e z.2)]
    · rw [if_neg (by omega : ¬ ((0 : Int) ≤ d ∧ (d : Int) ≤ 399)), if_neg (by decide), if_neg (fun z => c z.1)]
/-! ### long texts of one figure, as constants -/
@[irreducible] def rep9 : Str := Txt.mul "9" 4301
theorem rep9_eq : Txt.mul "9" 4301 = rep9 := by unfold rep9; rfl
end L2.Pc
namespace L2.Tr
open PySem PySem.Spec PyProof.Rows L2 L2.Pc
/-! ### values as trees -/
inductive D where
  | non | bl (b : Bool) | int (i : Int) | str (s : Str)
  | tup (xs : List D) | lst (xs : List D) | lsk (xs : List D) | tuk (xs : List D) | dct (kvs : List (D × D)) | dcu (kvs : List (D × D))
  | ins (c : Str) (fs : List (Str × D)) | cel (n : Nat) | fn (f : Str) | ty (n : String) | xob (c : Str) (fs : List (Str × D)) | xok (c : Str) (fs : List (Str × D)) | tun (xs : List D)
/-- a tree whose objects are owned, down to frozen leaves -/
inductive O where
  | fz (d : D) | lst (xs : List D) | dct (kvs : List (D × D)) | dcu (kvs : List (D × D)) | ins (c : Str) (fs : List (Str × O)) | dco (kvs : List (D × O)) | dcv (kvs : List (D × O))
def kD : Key → D
  | .inl i => .int i
  | .inr x => .str x
mutual
def O.toD : O → D
  | .fz d => d
  | .lst xs => .lst xs
  | .dct kvs => .dct kvs
  | .ins c fs => .ins c (O.toDf fs)
  | .dco kvs => .dct (O.toDk kvs)
  | .dcu kvs => .dcu kvs
  | .dcv kvs => .dcu (O.toDk kvs)
def O.toDf : List (Str × O) → List (Str × D)
  | [] => []
  | (n, o) :: r => (n, O.toD o) :: O.toDf r
def O.toDk : List (D × O) → List (D × D)
  | [] => []
  | (n, o) :: r => (n, O.toD o) :: O.toDk r
end
theorem toDf_map : ∀ fs : List (Str × O), O.toDf fs = fs.map fun p => (p.1, p.2.toD)
  | [] => rfl
  | (n, o) :: r => by rw [O.toDf, toDf_map r]; rfl
theorem toDk_map : ∀ fs : List (D × O), O.toDk fs = fs.map fun p => (p.1, p.2.toD)
  | [] => rfl
  | (n, o) :: r => by rw [O.toDk, toDk_map r]; rfl
/-- the module's facts that values lean on -/
structure Gi where
  K : PySem.W.Frag
  mg : Str → Option Value
  /-- the exception that a suite has in hand: its address, its class, its dict -/
  xo : Option (Addr × Addr × Option Addr) := none
/-- an exception that is kept: its very object -/
def xkH (oe : Obj) (a : Addr) : HO := .ext fun h => h.get? a = some oe
def XKp (F : Hp) (a C : Addr) (d : Option Addr) : Prop := ∃ oe, F a = some (xkH oe a) ∧ Zc (.ref C) d oe ∧ ∃ vs, oe.data = .fields vs
mutual
inductive Rp (G : Gi) (F : Hp) (al : List Addr) : V → D → Prop
  | non : Rp G F al .non .non
  | bl (b : Bool) : Rp G F al (.bl b) (.bl b)
  | int (i : Int) : Rp G F al (.int i) (.int i)
  | str (x : Str) : Rp G F al (.str x) (.str x)
  | tup {a : Addr} {xs : List V} {ds : List D} : F a = some (.tup xs) → RpA G F al xs ds → Rp G F al (.ref a) (.tup ds)
  | tuk {a : Addr} {xs : List V} {ds : List D} : SqT G.K F a xs → RpA G F al xs ds → Rp G F al (.ref a) (.tuk ds)
  | lst {a : Addr} {xs : List V} {ds : List D} : F a = some (.lst xs) → RpA G F al xs ds → Rp G F al (.ref a) (.lst ds)
  | lsk {a : Addr} {xs : List V} {ds : List D} : SqL G.K F a xs → RpA G F al xs ds → Rp G F al (.ref a) (.lsk ds)
  | dcK {a : Addr} {kvs : List (Key × V)} {ds : List (D × D)} : Rd F a (.dK kvs) → ds.map (·.1) = kvs.map (fun p => kD p.1) →
      RpA G F al (kvs.map (·.2)) (ds.map (·.2)) → Rp G F al (.ref a) (.dct ds)
  | dcT {a : Addr} {kvs : List (List Key × V)} {ds : List (D × D)} : Rd F a (.dT kvs) → ds.map (·.1) = kvs.map (fun p => .tup (p.1.map kD)) →
      RpA G F al (kvs.map (·.2)) (ds.map (·.2)) → Rp G F al (.ref a) (.dcu ds)
  | ins {a C dx : Addr} {c : Str} {fs : List (Str × V)} {ds : List (Str × D)} : F a = some (.ins C dx fs) → G.mg c = some (.ref C) → ds.map (·.1) = fs.map (·.1) →
      RpA G F al (fs.map (·.2)) (ds.map (·.2)) → Rp G F al (.ref a) (.ins c ds)
  | cel {a : Addr} {n : Nat} : al[n]? = some a → Rp G F al (.ref a) (.cel n)
  | fn {a : Addr} {f : Str} : G.mg f = some (.ref a) → Rp G F al (.ref a) (.fn f)
  | ty (n : String) : Rp G F al (.ty n) (.ty n)
  | xob {a C dx : Addr} {c : Str} {fs : List (Str × V)} {ds : List (Str × D)} : G.xo = some (a, C, some dx) → G.mg c = some (.ref C) → F dx = some (.xd fs) → ds.map (·.1) = fs.map (·.1) →
      RpA G F al (fs.map (·.2)) (ds.map (·.2)) → Rp G F al (.ref a) (.xob c ds)
  | xob0 {a C : Addr} {c : Str} : G.xo = some (a, C, none) → G.mg c = some (.ref C) → Rp G F al (.ref a) (.xob c [])
  | xok {a C dx : Addr} {c : Str} {fs : List (Str × V)} {ds : List (Str × D)} : XKp F a C (some dx) → G.mg c = some (.ref C) → F dx = some (.xd fs) → ds.map (·.1) = fs.map (·.1) →
      RpA G F al (fs.map (·.2)) (ds.map (·.2)) → Rp G F al (.ref a) (.xok c ds)
  | xok0 {a C : Addr} {c : Str} : XKp F a C none → G.mg c = some (.ref C) → Rp G F al (.ref a) (.xok c [])
  | tun {a : Addr} {o : Obj} {xs : List V} {ds : List D} : F a = some (.frz o (.tup xs)) → o.dict = none → RpA G F al xs ds → Rp G F al (.ref a) (.tun ds)
inductive RpA (G : Gi) (F : Hp) (al : List Addr) : List V → List D → Prop
  | nil : RpA G F al [] []
  | cons {v : V} {vs : List V} {d : D} {ds : List D} : Rp G F al v d → RpA G F al vs ds → RpA G F al (v :: vs) (d :: ds)
end
theorem sqT_fz {K : PySem.W.Frag} {F : Hp} {a : Addr} {o : Obj} {xs : List V} (h : F a = some (.frz o (.tup xs))) : SqT K F a xs := .inl (.inr ⟨o, h⟩)
/-- dicts: locked while they are walked -/
def dictO : HO → Bool
  | .dK _ => true
  | .dT _ => true
  | .frz _ (.tup _) => false
  | .frz _ _ => true
  | _ => false
/-- more frozen objects, more cells -/
structure Mo (F F' : Hp) (al al' : List Addr) : Prop where
  mF : ∀ (a : Addr) (o : HO), F a = some o → dictO o = false → F' a = some o
  mR : ∀ (a : Addr) (o : HO), Rd F a o → Rd F' a o
  mA : ∀ (n : Nat) (a : Addr), al[n]? = some a → al'[n]? = some a
theorem rd_mo {F F' : Hp} (e : ∀ a o, F a = some o → F' a = some o) {a : Addr} {u : HO} (h : Rd F a u) : Rd F' a u := by
  rcases h with h | ⟨o, h⟩
  · exact .inl (e _ _ h)
  · exact .inr ⟨o, e _ _ h⟩
theorem Mo.of {F F' : Hp} {al al' : List Addr} (e : ∀ a o, F a = some o → F' a = some o) (k : ∀ (n : Nat) (a : Addr), al[n]? = some a → al'[n]? = some a) : Mo F F' al al' :=
  ⟨fun a o h _ => e a o h, fun a o h => rd_mo e h, k⟩
theorem Mo.refl (F : Hp) (al : List Addr) : Mo F F al al := .of (fun _ _ h => h) fun _ _ h => h
theorem Mo.trans {F F1 F2 : Hp} {al al1 al2 : List Addr} (a : Mo F F1 al al1) (b : Mo F1 F2 al1 al2) : Mo F F2 al al2 :=
  ⟨fun x o h k => b.mF x o (a.mF x o h k) k, fun x o h => b.mR x o (a.mR x o h), fun n x h => b.mA n x (a.mA n x h)⟩
theorem sqL_mo {K : PySem.W.Frag} {F F' : Hp} (e : ∀ a o, F a = some o → F' a = some o) {a : Addr} {xs : List V} (h : SqL K F a xs) : SqL K F' a xs := by
  rcases h with h | h
  · exact .inl (rd_mo e h)
  · exact .inr h
theorem sqT_mo {K : PySem.W.Frag} {F F' : Hp} (e : ∀ a o, F a = some o → F' a = some o) {a : Addr} {xs : List V} (h : SqT K F a xs) : SqT K F' a xs := by
  rcases h with h | h
  · exact .inl (rd_mo e h)
  · exact .inr h
theorem sqL_mr {K : PySem.W.Frag} {F F' : Hp} (e : ∀ a o, Rd F a o → Rd F' a o) {a : Addr} {xs : List V} (h : SqL K F a xs) : SqL K F' a xs := by
  rcases h with h | h
  · exact .inl (e _ _ h)
  · exact .inr h
theorem sqT_mr {K : PySem.W.Frag} {F F' : Hp} (e : ∀ a o, Rd F a o → Rd F' a o) {a : Addr} {xs : List V} (h : SqT K F a xs) : SqT K F' a xs := by
  rcases h with h | h
  · exact .inl (e _ _ h)
  · exact .inr h
theorem xk_mo {F F' : Hp} (e : ∀ (a : Addr) (o : HO), F a = some o → dictO o = false → F' a = some o) {a C : Addr} {d : Option Addr} (h : XKp F a C d) : XKp F' a C d := by
  obtain ⟨oe, h1, h2⟩ := h
  exact ⟨oe, e _ _ h1 rfl, h2⟩
mutual
theorem Rp.mo {G : Gi} {F F' : Hp} {al al' : List Addr} (e : Mo F F' al al') : ∀ {v : V} {d : D}, Rp G F al v d → Rp G F' al' v d
  | _, _, .non => .non
  | _, _, .bl b => .bl b
  | _, _, .int i => .int i
  | _, _, .str x => .str x
  | _, _, .tup h hs => .tup (e.mF _ _ h rfl) (RpA.mo e hs)
  | _, _, .tuk h hs => .tuk (sqT_mr e.mR h) (RpA.mo e hs)
  | _, _, .lst h hs => .lst (e.mF _ _ h rfl) (RpA.mo e hs)
  | _, _, .lsk h hs => .lsk (sqL_mr e.mR h) (RpA.mo e hs)
  | _, _, .dcK h k hs => .dcK (e.mR _ _ h) k (RpA.mo e hs)
  | _, _, .dcT h k hs => .dcT (e.mR _ _ h) k (RpA.mo e hs)
  | _, _, .ins h k n hs => .ins (e.mF _ _ h rfl) k n (RpA.mo e hs)
  | _, _, .cel h => .cel (e.mA _ _ h)
  | _, _, .fn h => .fn h
  | _, _, .ty n => .ty n
  | _, _, .xob h q k n hs => .xob h q (e.mF _ _ k rfl) n (RpA.mo e hs)
  | _, _, .xob0 h q => .xob0 h q
  | _, _, .xok h q k n hs => .xok (xk_mo e.mF h) q (e.mF _ _ k rfl) n (RpA.mo e hs)
  | _, _, .xok0 h q => .xok0 (xk_mo e.mF h) q
  | _, _, .tun h k hs => .tun (e.mF _ _ h rfl) k (RpA.mo e hs)
theorem RpA.mo {G : Gi} {F F' : Hp} {al al' : List Addr} (e : Mo F F' al al') : ∀ {vs : List V} {ds : List D}, RpA G F al vs ds → RpA G F' al' vs ds
  | _, _, .nil => .nil
  | _, _, .cons h hs => .cons (Rp.mo e h) (RpA.mo e hs)
end
theorem RpA.len {G : Gi} {F : Hp} {al : List Addr} : ∀ {vs : List V} {ds : List D}, RpA G F al vs ds → vs.length = ds.length
  | _, _, .nil => rfl
  | _, _, .cons _ hs => congrArg (· + 1) (RpA.len hs)
theorem RpA.get {G : Gi} {F : Hp} {al : List Addr} : ∀ {vs : List V} {ds : List D} {i : Nat} {d : D}, RpA G F al vs ds → ds[i]? = some d → ∃ v, vs[i]? = some v ∧ Rp G F al v d
  | _, _, _, _, .nil, e => by simp at e
  | _, _, 0, _, .cons h _, e => by simp at e; subst e; exact ⟨_, rfl, h⟩
  | _, _, i + 1, _, .cons _ hs, e => by
    obtain ⟨v, h1, h2⟩ := RpA.get (i := i) hs (by simpa using e)
    exact ⟨v, by simpa using h1, h2⟩
theorem RpA.getV {G : Gi} {F : Hp} {al : List Addr} : ∀ {vs : List V} {ds : List D} {i : Nat} {v : V}, RpA G F al vs ds → vs[i]? = some v → ∃ d, ds[i]? = some d ∧ Rp G F al v d
  | _, _, _, _, .nil, e => by simp at e
  | _, _, 0, _, .cons h _, e => by simp at e; subst e; exact ⟨_, rfl, h⟩
  | _, _, i + 1, _, .cons _ hs, e => by
    obtain ⟨v, h1, h2⟩ := RpA.getV (i := i) hs (by simpa using e)
    exact ⟨v, by simpa using h1, h2⟩
theorem RpA.app {G : Gi} {F : Hp} {al : List Addr} : ∀ {vs ws : List V} {ds es : List D}, RpA G F al vs ds → RpA G F al ws es → RpA G F al (vs ++ ws) (ds ++ es)
  | _, _, _, _, .nil, k => k
  | _, _, _, _, .cons h hs, k => .cons h (RpA.app hs k)
theorem RpA.drop {G : Gi} {F : Hp} {al : List Addr} : ∀ {vs : List V} {ds : List D} (n : Nat), RpA G F al vs ds → RpA G F al (vs.drop n) (ds.drop n)
  | _, _, 0, h => h
  | _, _, _ + 1, .nil => .nil
  | _, _, n + 1, .cons _ hs => RpA.drop n hs
theorem RpA.take {G : Gi} {F : Hp} {al : List Addr} : ∀ {vs : List V} {ds : List D} (n : Nat), RpA G F al vs ds → RpA G F al (vs.take n) (ds.take n)
  | _, _, 0, h => .nil
  | _, _, _ + 1, .nil => .nil
  | _, _, n + 1, .cons h hs => .cons h (RpA.take n hs)
theorem RpA.set {G : Gi} {F : Hp} {al : List Addr} {v : V} {d : D} (r : Rp G F al v d) : ∀ {vs : List V} {ds : List D} (n : Nat), RpA G F al vs ds → RpA G F al (vs.set n v) (ds.set n d)
  | _, _, _, .nil => .nil
  | _, _, 0, .cons _ hs => .cons r hs
  | _, _, n + 1, .cons h hs => .cons h (RpA.set r n hs)
theorem RpA.rev {G : Gi} {F : Hp} {al : List Addr} : ∀ {vs : List V} {ds : List D}, RpA G F al vs ds → RpA G F al vs.reverse ds.reverse
  | _, _, .nil => .nil
  | _, _, .cons h hs => by rw [List.reverse_cons, List.reverse_cons]; exact RpA.app (RpA.rev hs) (.cons h .nil)
mutual
inductive OwnT (G : Gi) (F : Hp) (al : List Addr) (H : Hp) : O → V → List Addr → Prop
  | fz {v : V} {d : D} : Rp G F al v d → OwnT G F al H (.fz d) v []
  | lst {a : Addr} {vs : List V} {ds : List D} : H a = some (.lst vs) → RpA G F al vs ds → OwnT G F al H (.lst ds) (.ref a) [a]
  | dcK {a : Addr} {kvs : List (Key × V)} {ds : List (D × D)} : H a = some (.dK kvs) → ds.map (·.1) = kvs.map (fun p => kD p.1) →
      RpA G F al (kvs.map (·.2)) (ds.map (·.2)) → OwnT G F al H (.dct ds) (.ref a) [a]
  | dcT {a : Addr} {kvs : List (List Key × V)} {ds : List (D × D)} : H a = some (.dT kvs) → ds.map (·.1) = kvs.map (fun p => .tup (p.1.map kD)) →
      RpA G F al (kvs.map (·.2)) (ds.map (·.2)) → OwnT G F al H (.dcu ds) (.ref a) [a]
  | ins {a C dx : Addr} {c : Str} {fs : List (Str × V)} {os : List (Str × O)} {fp : List Addr} : H a = some (.ins C dx fs) → G.mg c = some (.ref C) →
      os.map (·.1) = fs.map (·.1) → OwnA G F al H (os.map (·.2)) (fs.map (·.2)) fp → OwnT G F al H (.ins c os) (.ref a) (a :: fp)
  | dcoK {a : Addr} {kvs : List (Key × V)} {os : List (D × O)} {fp : List Addr} : H a = some (.dK kvs) → os.map (·.1) = kvs.map (fun p => kD p.1) →
      OwnA G F al H (os.map (·.2)) (kvs.map (·.2)) fp → OwnT G F al H (.dco os) (.ref a) (a :: fp)
  | dcoT {a : Addr} {kvs : List (List Key × V)} {os : List (D × O)} {fp : List Addr} : H a = some (.dT kvs) → os.map (·.1) = kvs.map (fun p => .tup (p.1.map kD)) →
      OwnA G F al H (os.map (·.2)) (kvs.map (·.2)) fp → OwnT G F al H (.dcv os) (.ref a) (a :: fp)
inductive OwnA (G : Gi) (F : Hp) (al : List Addr) (H : Hp) : List O → List V → List Addr → Prop
  | nil : OwnA G F al H [] [] []
  | cons {o : O} {v : V} {os : List O} {vs : List V} {fp fq : List Addr} : OwnT G F al H o v fp → OwnA G F al H os vs fq → OwnA G F al H (o :: os) (v :: vs) (fp ++ fq)
end
mutual
theorem OwnT.mo {G : Gi} {F F' : Hp} {al al' : List Addr} {H H' : Hp} (e : Mo F F' al al') : ∀ {o : O} {v : V} {fp : List Addr}, OwnT G F al H o v fp →
    (∀ a ∈ fp, H' a = H a) → OwnT G F' al' H' o v fp
  | _, _, _, .fz h, _ => .fz (h.mo e)
  | _, _, _, .lst h hs, k => .lst ((k _ (List.mem_singleton_self _)).trans h) (hs.mo e)
  | _, _, _, .dcK h q hs, k => .dcK ((k _ (List.mem_singleton_self _)).trans h) q (hs.mo e)
  | _, _, _, .dcT h q hs, k => .dcT ((k _ (List.mem_singleton_self _)).trans h) q (hs.mo e)
  | _, _, _, .ins h q n hs, k => .ins ((k _ List.mem_cons_self).trans h) q n (OwnA.mo e hs fun a ha => k a (List.mem_cons_of_mem _ ha))
  | _, _, _, .dcoK h q hs, k => .dcoK ((k _ List.mem_cons_self).trans h) q (OwnA.mo e hs fun a ha => k a (List.mem_cons_of_mem _ ha))
  | _, _, _, .dcoT h q hs, k => .dcoT ((k _ List.mem_cons_self).trans h) q (OwnA.mo e hs fun a ha => k a (List.mem_cons_of_mem _ ha))
theorem OwnA.mo {G : Gi} {F F' : Hp} {al al' : List Addr} {H H' : Hp} (e : Mo F F' al al') : ∀ {os : List O} {vs : List V} {fp : List Addr}, OwnA G F al H os vs fp →
    (∀ a ∈ fp, H' a = H a) → OwnA G F' al' H' os vs fp
  | _, _, _, .nil, _ => .nil
  | _, _, _, .cons h hs, k => .cons (OwnT.mo e h fun a ha => k a (List.mem_append_left _ ha)) (OwnA.mo e hs fun a ha => k a (List.mem_append_right _ ha))
end
mutual
theorem OwnT.there {G : Gi} {F : Hp} {al : List Addr} {H : Hp} : ∀ {o : O} {v : V} {fp : List Addr}, OwnT G F al H o v fp → ∀ a ∈ fp, H a ≠ none
  | _, _, _, .fz _, a, ha => by cases ha
  | _, _, _, .lst h _, a, ha => by rw [List.mem_singleton.mp ha, h]; exact Option.some_ne_none _
  | _, _, _, .dcK h _ _, a, ha => by rw [List.mem_singleton.mp ha, h]; exact Option.some_ne_none _
  | _, _, _, .dcT h _ _, a, ha => by rw [List.mem_singleton.mp ha, h]; exact Option.some_ne_none _
  | _, _, _, .ins h _ _ hs, a, ha => by
    rcases List.mem_cons.mp ha with e | e
    · rw [e, h]; exact Option.some_ne_none _
    · exact OwnA.there hs a e
  | _, _, _, .dcoK h _ hs, a, ha => by
    rcases List.mem_cons.mp ha with e | e
    · rw [e, h]; exact Option.some_ne_none _
    · exact OwnA.there hs a e
  | _, _, _, .dcoT h _ hs, a, ha => by
    rcases List.mem_cons.mp ha with e | e
    · rw [e, h]; exact Option.some_ne_none _
    · exact OwnA.there hs a e
theorem OwnA.there {G : Gi} {F : Hp} {al : List Addr} {H : Hp} : ∀ {os : List O} {vs : List V} {fp : List Addr}, OwnA G F al H os vs fp → ∀ a ∈ fp, H a ≠ none
  | _, _, _, .nil, a, ha => by cases ha
  | _, _, _, .cons h hs, a, ha => (List.mem_append.mp ha).elim (fun e => OwnT.there h a e) fun e => OwnA.there hs a e
end
/-! frozen, with all objects of its footprint -/
mutual
theorem OwnT.freeze {G : Gi} {F F' : Hp} {al : List Addr} {H : Hp} (e : ∀ a o, F a = some o → F' a = some o) : ∀ {o : O} {v : V} {fp : List Addr}, OwnT G F al H o v fp →
    (∀ a ∈ fp, F' a = H a) → Rp G F' al v o.toD
  | _, _, _, .fz h, _ => by rw [O.toD]; exact h.mo (.of e fun _ _ q => q)
  | _, _, _, .lst h hs, k => by rw [O.toD]; exact .lst ((k _ (List.mem_singleton_self _)).trans h) (hs.mo (.of e fun _ _ q => q))
  | _, _, _, .dcK h q hs, k => by rw [O.toD]; exact .dcK (.inl ((k _ (List.mem_singleton_self _)).trans h)) q (hs.mo (.of e fun _ _ q => q))
  | _, _, _, .dcT h q hs, k => by rw [O.toD]; exact .dcT (.inl ((k _ (List.mem_singleton_self _)).trans h)) q (hs.mo (.of e fun _ _ q => q))
  | _, _, _, @OwnT.ins _ _ _ _ a C dx c fs os fp h q n hs, k => by
    rw [O.toD, toDf_map]
    have r := OwnA.freeze e hs fun a ha => k a (List.mem_cons_of_mem _ ha)
    refine .ins ((k _ List.mem_cons_self).trans h) q (by rw [List.map_map]; exact n) ?_
    rw [List.map_map]
    rw [List.map_map] at r
    exact r
  | _, _, _, @OwnT.dcoK _ _ _ _ a kvs os fp h q hs, k => by
    rw [O.toD, toDk_map]
    have r := OwnA.freeze e hs fun a ha => k a (List.mem_cons_of_mem _ ha)
    refine .dcK (.inl ((k _ List.mem_cons_self).trans h)) (by rw [List.map_map]; exact q) ?_
    rw [List.map_map]
    rw [List.map_map] at r
    exact r
  | _, _, _, @OwnT.dcoT _ _ _ _ a kvs os fp h q hs, k => by
    rw [O.toD, toDk_map]
    have r := OwnA.freeze e hs fun a ha => k a (List.mem_cons_of_mem _ ha)
    refine .dcT (.inl ((k _ List.mem_cons_self).trans h)) (by rw [List.map_map]; exact q) ?_
    rw [List.map_map]
    rw [List.map_map] at r
    exact r
theorem OwnA.freeze {G : Gi} {F F' : Hp} {al : List Addr} {H : Hp} (e : ∀ a o, F a = some o → F' a = some o) : ∀ {os : List O} {vs : List V} {fp : List Addr}, OwnA G F al H os vs fp →
    (∀ a ∈ fp, F' a = H a) → RpA G F' al vs (os.map O.toD)
  | _, _, _, .nil, _ => .nil
  | _, _, _, .cons h hs, k => .cons (OwnT.freeze e h fun a ha => k a (List.mem_append_left _ ha)) (OwnA.freeze e hs fun a ha => k a (List.mem_append_right _ ha))
end
/-! ### states of a def's body -/
structure S where
  env : List (Option O)
  mu : List O
inductive Slots (G : Gi) (F : Hp) (al : List Addr) (H : Hp) : List (Option O) → L2.St → List Addr → Prop
  | nil : Slots G F al H [] [] []
  | un {env : List (Option O)} {x : Option V} {σ : L2.St} {fp : List Addr} : Slots G F al H env σ fp → Slots G F al H (none :: env) (x :: σ) fp
  | so {o : O} {v : V} {env : List (Option O)} {σ : L2.St} {fp fq : List Addr} : OwnT G F al H o v fp → Slots G F al H env σ fq →
      Slots G F al H (some o :: env) (some v :: σ) (fp ++ fq)
/-- a configuration: the frozen part, the heap, the cells' addresses, the objects that slots and cells own -/
structure Cf where
  F : Hp
  H : Hp
  al : List Addr
  fs : List Addr
  fc : List Addr
structure Rel (G : Gi) (st : S) (σ : L2.St) (c : Cf) : Prop where
  sub : ∀ a o, c.F a = some o → c.H a = some o
  own : ∀ a, a ∈ c.fs ∨ a ∈ c.fc → c.F a = none
  nds : c.fs.Nodup
  ndc : c.fc.Nodup
  dis : ∀ a ∈ c.fs, a ∉ c.fc
  slots : Slots G c.F c.al c.H st.env σ c.fs
  cells : OwnA G c.F c.al c.H st.mu (c.al.map V.ref) c.fc
/-- nothing there, or a tuple -/
def NT (o : Option HO) : Prop := o = none ∨ ∃ xs, o = some (.tup xs)
/-- what code may do -/
structure Go (c c' : Cf) : Prop where
  mo : Mo c.F c'.F c.al c'.al
  fr : ∀ a, c.H a ≠ none → a ∉ c.fs → a ∉ c.fc → c'.H a = c.H a
  fp : ∀ a, a ∈ c'.fs ∨ a ∈ c'.fc → a ∈ c.fs ∨ a ∈ c.fc ∨ c.H a = none
  nF : ∀ a, c'.F a ≠ none → c.F a ≠ none ∨ a ∈ c.fs ∨ a ∈ c.fc ∨ NT (c.H a)
mutual
theorem OwnT.obj {G : Gi} {F : Hp} {al : List Addr} {H : Hp} : ∀ {o : O} {v : V} {fp : List Addr}, OwnT G F al H o v fp → ∀ a ∈ fp, ¬ NT (H a)
  | _, _, _, .fz _, a, ha => by cases ha
  | _, _, _, .lst h _, a, ha => by rw [List.mem_singleton.mp ha, h]; rintro (z | ⟨_, z⟩) <;> cases z
  | _, _, _, .dcK h _ _, a, ha => by rw [List.mem_singleton.mp ha, h]; rintro (z | ⟨_, z⟩) <;> cases z
  | _, _, _, .dcT h _ _, a, ha => by rw [List.mem_singleton.mp ha, h]; rintro (z | ⟨_, z⟩) <;> cases z
  | _, _, _, .ins h _ _ hs, a, ha => by
    rcases List.mem_cons.mp ha with rfl | ha
    · rw [h]; rintro (z | ⟨_, z⟩) <;> cases z
    · exact OwnA.obj hs a ha
  | _, _, _, .dcoK h _ hs, a, ha => by
    rcases List.mem_cons.mp ha with rfl | ha
    · rw [h]; rintro (z | ⟨_, z⟩) <;> cases z
    · exact OwnA.obj hs a ha
  | _, _, _, .dcoT h _ hs, a, ha => by
    rcases List.mem_cons.mp ha with rfl | ha
    · rw [h]; rintro (z | ⟨_, z⟩) <;> cases z
    · exact OwnA.obj hs a ha
theorem OwnA.obj {G : Gi} {F : Hp} {al : List Addr} {H : Hp} : ∀ {os : List O} {vs : List V} {fp : List Addr}, OwnA G F al H os vs fp → ∀ a ∈ fp, ¬ NT (H a)
  | _, _, _, .nil, a, ha => by cases ha
  | _, _, _, .cons h hs, a, ha => (List.mem_append.mp ha).elim (fun e => OwnT.obj h a e) fun e => OwnA.obj hs a e
end
theorem OwnT.noNT {G : Gi} {F : Hp} {al : List Addr} {H : Hp} {o : O} {v : V} {fp : List Addr} (t : OwnT G F al H o v fp) : ∀ a ∈ fp, ¬ NT (H a) := OwnT.obj t
theorem Slots.noNT {G : Gi} {F : Hp} {al : List Addr} {H : Hp} : ∀ {env : List (Option O)} {σ : L2.St} {fp : List Addr}, Slots G F al H env σ fp → ∀ a ∈ fp, ¬ NT (H a)
  | _, _, _, .nil, a, ha => by cases ha
  | _, _, _, .un h, a, ha => Slots.noNT h a ha
  | _, _, _, .so h hs, a, ha => (List.mem_append.mp ha).elim (fun e => OwnT.noNT h a e) fun e => Slots.noNT hs a e
theorem Rel.noNT {G : Gi} {st : S} {σ : L2.St} {c : Cf} (r : Rel G st σ c) {a : Addr} (h : a ∈ c.fs ∨ a ∈ c.fc) : ¬ NT (c.H a) :=
  h.elim (fun h => r.slots.noNT a h) fun h => OwnA.obj r.cells a h
theorem Slots.there {G : Gi} {F : Hp} {al : List Addr} {H : Hp} : ∀ {env : List (Option O)} {σ : L2.St} {fp : List Addr}, Slots G F al H env σ fp → ∀ a ∈ fp, H a ≠ none
  | _, _, _, .nil, a, ha => by cases ha
  | _, _, _, .un h, a, ha => Slots.there h a ha
  | _, _, _, .so h hs, a, ha => (List.mem_append.mp ha).elim (fun e => OwnT.there h a e) fun e => Slots.there hs a e
theorem Slots.mo {G : Gi} {F F' : Hp} {al al' : List Addr} {H H' : Hp} (e : Mo F F' al al') : ∀ {env : List (Option O)} {σ : L2.St} {fp : List Addr}, Slots G F al H env σ fp →
    (∀ a ∈ fp, H' a = H a) → Slots G F' al' H' env σ fp
  | _, _, _, .nil, _ => .nil
  | _, _, _, .un h, k => .un (Slots.mo e h k)
  | _, _, _, .so h hs, k => .so (OwnT.mo e h fun a ha => k a (List.mem_append_left _ ha)) (Slots.mo e hs fun a ha => k a (List.mem_append_right _ ha))
theorem Rel.there {G : Gi} {st : S} {σ : L2.St} {c : Cf} (r : Rel G st σ c) {a : Addr} (h : a ∈ c.fs ∨ a ∈ c.fc) : c.H a ≠ none :=
  h.elim (fun h => r.slots.there a h) fun h => r.cells.there a h
theorem Go.rfl' {c : Cf} : Go c c := ⟨Mo.refl _ _, fun _ _ _ _ => rfl, fun a h => h.elim .inl fun h => .inr (.inl h), fun a h => .inl h⟩
theorem Go.keep {c c' : Cf} (g : Go c c') {a : Addr} (h : c.H a ≠ none) (h1 : a ∉ c.fs) (h2 : a ∉ c.fc) : c'.H a = c.H a ∧ a ∉ c'.fs ∧ a ∉ c'.fc :=
  ⟨g.fr a h h1 h2, fun z => (g.fp a (.inl z)).elim h1 fun z => z.elim h2 h, fun z => (g.fp a (.inr z)).elim h1 fun z => z.elim h2 h⟩
theorem Go.trans {c c1 c2 : Cf} (g : Go c c1) (k : Go c1 c2) : Go c c2 where
  mo := g.mo.trans k.mo
  fr := fun a h h1 h2 => by
    obtain ⟨e, n1, n2⟩ := g.keep h h1 h2
    rw [← e] at h
    exact (k.fr a h n1 n2).trans e
  fp := fun a h => by
    rcases k.fp a h with z | z | z
    · exact g.fp a (.inl z)
    · exact g.fp a (.inr z)
    · by_cases h1 : a ∈ c.fs
      · exact .inl h1
      · by_cases h2 : a ∈ c.fc
        · exact .inr (.inl h2)
        · refine .inr (.inr ?_)
          cases e : c.H a with
          | none => rfl
          | some o => rw [g.fr a (by rw [e]; exact Option.some_ne_none _) h1 h2, e] at z; cases z
  nF := fun a h => by
    rcases k.nF a h with z | z | z | z
    · exact g.nF a z
    · rcases g.fp a (.inl z) with y | y | y
      · exact .inr (.inl y)
      · exact .inr (.inr (.inl y))
      · exact .inr (.inr (.inr (.inl y)))
    · rcases g.fp a (.inr z) with y | y | y
      · exact .inr (.inl y)
      · exact .inr (.inr (.inl y))
      · exact .inr (.inr (.inr (.inl y)))
    · by_cases h1 : a ∈ c.fs
      · exact .inr (.inl h1)
      · by_cases h2 : a ∈ c.fc
        · exact .inr (.inr (.inl h2))
        · refine .inr (.inr (.inr ?_))
          cases e : c.H a with
          | none => exact .inl rfl
          | some o => rw [g.fr a (by rw [e]; exact Option.some_ne_none _) h1 h2, e] at z; exact z
/-- objects that nothing else owns -/
structure Fresh (fp : List Addr) (c : Cf) : Prop where
  nd : fp.Nodup
  nf : ∀ a ∈ fp, c.F a = none
  ns : ∀ a ∈ fp, a ∉ c.fs
  nc : ∀ a ∈ fp, a ∉ c.fc
def New (fp : List Addr) (c : Cf) : Prop := ∀ a ∈ fp, a ∈ c.fs ∨ a ∈ c.fc ∨ c.H a = none
theorem Fresh.go {fp : List Addr} {c c' : Cf} (f : Fresh fp c) (h' : ∀ a ∈ fp, ¬ NT (c.H a)) (g : Go c c') : Fresh fp c' ∧ ∀ a ∈ fp, c'.H a = c.H a := by
  have h : ∀ a ∈ fp, c.H a ≠ none := fun a ha z => h' a ha (.inl z)
  refine ⟨⟨f.nd, fun a ha => ?_, fun a ha => (g.keep (h a ha) (f.ns a ha) (f.nc a ha)).2.1, fun a ha => (g.keep (h a ha) (f.ns a ha) (f.nc a ha)).2.2⟩,
    fun a ha => g.fr a (h a ha) (f.ns a ha) (f.nc a ha)⟩
  cases e : c'.F a with
  | none => rfl
  | some o =>
    rcases g.nF a (by rw [e]; exact Option.some_ne_none _) with z | z | z | z
    · exact absurd (f.nf a ha) z
    · exact absurd z (f.ns a ha)
    · exact absurd z (f.nc a ha)
    · exact absurd z (h' a ha)
theorem OwnT.go {G : Gi} {c c' : Cf} {o : O} {v : V} {fp : List Addr} (t : OwnT G c.F c.al c.H o v fp) (f : Fresh fp c) (g : Go c c') :
    OwnT G c'.F c'.al c'.H o v fp ∧ Fresh fp c' := by
  obtain ⟨f2, e⟩ := f.go t.noNT g
  exact ⟨t.mo g.mo e, f2⟩
theorem New.go {fp : List Addr} {c c1 : Cf} (n : New fp c1) (g : Go c c1) : New fp c := fun a ha => by
  rcases n a ha with z | z | z
  · exact g.fp a (.inl z)
  · exact g.fp a (.inr z)
  · by_cases h1 : a ∈ c.fs
    · exact .inl h1
    · by_cases h2 : a ∈ c.fc
      · exact .inr (.inl h2)
      · refine .inr (.inr ?_)
        cases e : c.H a with
        | none => rfl
        | some o => rw [g.fr a (by rw [e]; exact Option.some_ne_none _) h1 h2, e] at z; cases z
theorem New.nil (c : Cf) : New [] c := fun _ h => nomatch h
theorem Fresh.nil (c : Cf) : Fresh [] c := ⟨.nil, (fun _ h => nomatch h), (fun _ h => nomatch h), (fun _ h => nomatch h)⟩
/-! ### freezing -/
def frzF (c : Cf) (fp : List Addr) : Hp := fun a => if a ∈ fp then c.H a else c.F a
def Cf.frz (c : Cf) (fp : List Addr) : Cf := { c with F := frzF c fp }
theorem frz_sub {G : Gi} {st : S} {σ : L2.St} {c : Cf} {fp : List Addr} (r : Rel G st σ c) : ∀ a o, c.F a = some o → frzF c fp a = some o := fun a o e => by
  unfold frzF
  split
  · exact r.sub a o e
  · exact e
theorem Rel.freeze {G : Gi} {st : S} {σ : L2.St} {c : Cf} {fp : List Addr} (r : Rel G st σ c) (f : Fresh fp c) : Rel G st σ (c.frz fp) := by
  have mo : Mo c.F (frzF c fp) c.al c.al := .of (frz_sub r) fun _ _ h => h
  refine ⟨fun a o e => ?_, fun a h => ?_, r.nds, r.ndc, r.dis, r.slots.mo mo fun _ _ => rfl, r.cells.mo mo fun _ _ => rfl⟩
  · have e : frzF c fp a = some o := e
    unfold frzF at e
    split at e
    · exact e
    · exact r.sub a o e
  · show frzF c fp a = none
    unfold frzF
    rw [if_neg (fun z => h.elim (f.ns a z) (f.nc a z))]
    exact r.own a h
theorem Go.freeze {c0 c : Cf} {fp : List Addr} (g : Go c0 c) (n : New fp c0) (s : ∀ a o, c.F a = some o → frzF c fp a = some o) : Go c0 (c.frz fp) where
  mo := g.mo.trans (.of s fun _ _ h => h)
  fr := g.fr
  fp := g.fp
  nF := fun a h => by
    have h : frzF c fp a ≠ none := h
    unfold frzF at h
    split at h
    · rename_i ha
      rcases n a ha with z | z | z
      · exact .inr (.inl z)
      · exact .inr (.inr (.inl z))
      · exact .inr (.inr (.inr (.inl z)))
    · exact g.nF a h
theorem OwnT.frz {G : Gi} {st : S} {σ : L2.St} {c : Cf} {o : O} {v : V} {fp : List Addr} (t : OwnT G c.F c.al c.H o v fp) (r : Rel G st σ c) :
    Rp G (c.frz fp).F (c.frz fp).al v o.toD := t.freeze (frz_sub r) fun a ha => by
  show frzF c fp a = _
  unfold frzF
  rw [if_pos ha]
/-- what an expression may do: the slots' own objects stay as they are -/
structure GoE (c c' : Cf) : Prop extends Go c c' where
  hs : ∀ a ∈ c.fs, c.H a ≠ none → c'.H a = c.H a
  sf : ∀ a ∈ c'.fs, a ∈ c.fs
  cf : ∀ a ∈ c'.fc, a ∈ c.fs → c.H a = none
theorem GoE.refl {G : Gi} {st : S} {σ : L2.St} {c : Cf} (r : Rel G st σ c) : GoE c c :=
  { Go.rfl' with hs := fun _ _ _ => rfl, sf := fun _ h => h, cf := fun a h k => absurd h (r.dis a k) }
theorem GoE.trans {c c1 c2 : Cf} (g : GoE c c1) (k : GoE c1 c2) : GoE c c2 :=
  { g.toGo.trans k.toGo with
    hs := fun a h n => by
      have e := g.hs a h n
      have n1 : c1.H a ≠ none := by rw [e]; exact n
      by_cases h1 : a ∈ c1.fs
      · exact (k.hs a h1 n1).trans e
      · exact (k.fr a n1 h1 (fun z => n (g.cf a z h))).trans e
    sf := fun a h => g.sf a (k.sf a h)
    cf := fun a h q => by
      cases e : c.H a with
      | none => rfl
      | some o =>
        have n : c.H a ≠ none := by rw [e]; exact Option.some_ne_none _
        have e1 := g.hs a q n
        rcases k.fp a (.inr h) with z | z | z
        · have := k.cf a h z; rw [e1, e] at this; cases this
        · have := g.cf a z q; rw [e] at this; cases this
        · rw [e1, e] at z; cases z }
/-- kept by every expression -/
def Keep (fp : List Addr) (c : Cf) : Prop := ∀ a ∈ fp, a ∉ c.fc
theorem Fresh.keep {fp : List Addr} {c : Cf} (f : Fresh fp c) : Keep fp c := f.nc
theorem Keep.go {G : Gi} {c c' : Cf} {o : O} {v : V} {fp : List Addr} (t : OwnT G c.F c.al c.H o v fp) (k : Keep fp c) (g : GoE c c') : OwnT G c'.F c'.al c'.H o v fp :=
  t.mo g.mo fun a ha => by
    have n := t.there a ha
    by_cases h : a ∈ c.fs
    · exact g.hs a h n
    · exact g.fr a n h (k a ha)
/-- a new object, owned by nothing yet -/
def Cf.new (c : Cf) (p : Addr) (o : HO) : Cf := { c with H := upd c.H p o }
theorem Rel.new {G : Gi} {st : S} {σ : L2.St} {c : Cf} {p : Addr} {o : HO} (r : Rel G st σ c) (h : c.H p = none) : Rel G st σ (c.new p o) := by
  have ne : ∀ a, c.H a ≠ none → upd c.H p o a = c.H a := fun a n => upd_ne (fun e => n (by rw [e]; exact h))
  refine ⟨fun a u e => ?_, r.own, r.nds, r.ndc, r.dis, r.slots.mo (Mo.refl _ _) fun a ha => ne a (r.there (.inl ha)), r.cells.mo (Mo.refl _ _) fun a ha => ne a (r.there (.inr ha))⟩
  have e2 := r.sub a u e
  rw [show (c.new p o).H a = upd c.H p o a from rfl, ne a (by rw [e2]; exact Option.some_ne_none _)]
  exact e2
theorem GoE.new {G : Gi} {st : S} {σ : L2.St} {c : Cf} {p : Addr} {o : HO} (r : Rel G st σ c) (h : c.H p = none) : GoE c (c.new p o) where
  mo := Mo.refl _ _
  fr := fun a n _ _ => upd_ne (fun e => n (by rw [e]; exact h))
  fp := fun a h => h.elim .inl fun h => .inr (.inl h)
  nF := fun a h => .inl h
  hs := fun a _ n => upd_ne (fun e => n (by rw [e]; exact h))
  sf := fun _ h => h
  cf := fun a h k => absurd h (r.dis a k)
theorem Fresh.new {G : Gi} {st : S} {σ : L2.St} {c : Cf} {p : Addr} {o : HO} (r : Rel G st σ c) (h : c.H p = none) : Fresh [p] (c.new p o) := by
  refine ⟨by simp, fun a ha => ?_, fun a ha => ?_, fun a ha => ?_⟩ <;> rw [List.mem_singleton.mp ha]
  · cases e : c.F p with
    | none => exact e
    | some u => have := r.sub p u e; rw [h] at this; cases this
  · exact fun z => r.there (.inl z) h
  · exact fun z => r.there (.inr z) h
theorem New.new {c : Cf} {p : Addr} (h : c.H p = none) : New [p] c := fun a ha => by
  rw [List.mem_singleton.mp ha]; exact .inr (.inr h)
theorem GoE.freeze {G : Gi} {st : S} {σ : L2.St} {c0 c : Cf} {fp : List Addr} (g : GoE c0 c) (n : New fp c0) (r : Rel G st σ c) : GoE c0 (c.frz fp) :=
  { g.toGo.freeze n (frz_sub r) with hs := g.hs, sf := g.sf, cf := g.cf }
/-- the lengths that the heap bears -/
theorem Rel.rdT {G : Gi} {st : S} {σ : L2.St} {c : Cf} {K : PySem.W.Frag} {a : Addr} {xs : List V} (r : Rel G st σ c) (h : SqT K c.F a xs) : SqT K c.H a xs := sqT_mo r.sub h
theorem Rel.rdL {G : Gi} {st : S} {σ : L2.St} {c : Cf} {K : PySem.W.Frag} {a : Addr} {xs : List V} (r : Rel G st σ c) (h : SqL K c.F a xs) : SqL K c.H a xs := sqL_mo r.sub h
end L2.Tr
namespace L2.Tr
open PySem PySem.Spec PyProof.Rows L2 L2.Pc
/-! ### what code gives, over trees -/
structure Exc where
  cls : Str
  fs : List (Str × D)
inductive R (α : Type) where
  | ok (a : α) (s : S) | exc (x : Exc) (s : S) | no
abbrev M (α : Type) := S → R α
section
variable {α β : Type}
def R.bind (r : R α) (f : α → M β) : R β := match r with
  | .ok a s => f a s
  | .exc x s => .exc x s
  | .no => .no
def bnd (m : M α) (f : α → M β) : M β := fun s => (m s).bind f
def ret (a : α) : M α := fun s => .ok a s
def ofO (o : Option α) : M α := fun s => match o with
  | some a => .ok a s
  | none => .no
@[simp] theorem R.bind_ok (a : α) (s : S) (f : α → M β) : (R.ok a s).bind f = f a s := rfl
@[simp] theorem R.bind_exc (x : Exc) (s : S) (f : α → M β) : (R.exc x s : R α).bind f = .exc x s := rfl
@[simp] theorem R.bind_no (f : α → M β) : (R.no : R α).bind f = .no := rfl
@[simp] theorem bnd_app (m : M α) (f : α → M β) (s : S) : bnd m f s = (m s).bind f := rfl
@[simp] theorem ret_app (a : α) (s : S) : ret a s = .ok a s := rfl
@[simp] theorem ofO_some (a : α) (s : S) : ofO (some a) s = .ok a s := rfl
@[simp] theorem ofO_none (s : S) : ofO (none : Option α) s = .no := rfl
def wp (r : R α) (Q : α → S → Prop) (E : Exc → S → Prop) : Prop := match r with
  | .ok a s => Q a s
  | .exc x s => E x s
  | .no => False
theorem wp_mono {r : R α} {Q Q' : α → S → Prop} {E E' : Exc → S → Prop} (h : wp r Q E) (q : ∀ a s, Q a s → Q' a s) (e : ∀ x s, E x s → E' x s) : wp r Q' E' := by
  cases r with
  | ok a s => exact q a s h
  | exc x s => exact e x s h
  | no => exact h
theorem wp_bind {r : R α} {f : α → M β} {Q : β → S → Prop} {E : Exc → S → Prop} : wp (r.bind f) Q E ↔ wp r (fun a s => wp (f a s) Q E) E := by
  cases r <;> exact Iff.rfl
theorem wp_ofO {o : Option α} {s : S} {Q : α → S → Prop} {E : Exc → S → Prop} : wp (ofO o s) Q E ↔ ∃ a, o = some a ∧ Q a s := by
  cases o with
  | none => exact ⟨fun h => h.elim, fun ⟨_, h, _⟩ => by cases h⟩
  | some a => exact ⟨fun h => ⟨a, rfl, h⟩, fun ⟨_, h, q⟩ => by cases h; exact q⟩
end
/-! ### what they mean for the heap -/
def XRp (G : Gi) (c : Cf) (x : Exc) (v : Value) (d : Option Addr) : Prop := ∃ C, v = .ref C ∧ G.mg x.cls = some (.ref C) ∧
  ((x.fs = [] ∧ d = none) ∨ ∃ dx vs, d = some dx ∧ c.F dx = some (.xd vs) ∧ x.fs.map (·.1) = vs.map (·.1) ∧ RpA G c.F c.al (vs.map (·.2)) (x.fs.map (·.2)))
def xw (G : Gi) (W : WX) (σ : L2.St) (c : Cf) : Exc → S → Prop := fun x st' => ∀ v d c', Rel G st' σ c' → GoE c c' → XRp G c' x v d → W v d σ c'.H
theorem xw.go {G : Gi} {W : WX} {σ : L2.St} {c c1 : Cf} (g : GoE c c1) {x : Exc} {s : S} (h : xw G W σ c x s) : xw G W σ c1 x s :=
  fun v d c' r k q => h v d c' r (g.trans k) q
section
variable (G : Gi) (W : WX)
/-- what a reading asks: the state as trees, and that the code goes well there -/
def tG {α β : Type} (Pr : α → Cf → Cf → β → Prop) (m : M α) : L2.St → Hp → (β → Hp → Prop) → Prop := fun σ H Q =>
  ∃ c st, c.H = H ∧ Rel G st σ c ∧ wp (m st) (fun a st' => ∀ v c', Rel G st' σ c' → GoE c c' → Pr a c c' v → Q v c'.H) (xw G W σ c)
/-- a value of which what is owned is its own alone -/
def PrO : O → Cf → Cf → V → Prop := fun o c c' v => ∃ fp, OwnT G c'.F c'.al c'.H o v fp ∧ Fresh fp c' ∧ New fp c
/-- a value that expressions leave as it is -/
def PrB : O → Cf → Cf → V → Prop := fun o _ c' v => ∃ fp, OwnT G c'.F c'.al c'.H o v fp ∧ Keep fp c'
/-- a value as it is just now -/
def PrL : O → Cf → Cf → V → Prop := fun o _ c' v => ∃ fp, OwnT G c'.F c'.al c'.H o v fp
def PrD : D → Cf → Cf → V → Prop := fun d _ c' v => Rp G c'.F c'.al v d
def PrA : List D → Cf → Cf → List V → Prop := fun ds _ c' vs => RpA G c'.F c'.al vs ds
def PrT : Bool → Cf → Cf → Bool → Prop := fun b _ _ v => v = b
abbrev tO (m : M O) : TE := tG G W (PrO G) m
abbrev tBr (m : M O) : TE := tG G W (PrB G) m
abbrev tLa (m : M O) : TE := tG G W (PrL G) m
abbrev tD (m : M D) : TE := tG G W (PrD G) m
abbrev tAs (m : M (List D)) : TA := tG G W (PrA G) m
abbrev tTs (m : M Bool) : TT := tG G W PrT m
end
theorem _root_.L2.PE.weak {X : Cx} {e : Expr} {t t' : TE} (h : PE X e t) (k : ∀ σ H Q, t' σ H Q → t σ H Q) : PE X e t' := ⟨fun pins s σ H Q I q => h.run pins s σ H Q I (k _ _ _ q)⟩
theorem _root_.L2.PT.weak {X : Cx} {e : Expr} {t t' : TT} (h : PT X e t) (k : ∀ σ H Q, t' σ H Q → t σ H Q) : PT X e t' := ⟨fun pins s σ H Q I q => h.run pins s σ H Q I (k _ _ _ q)⟩
theorem _root_.L2.PW.weak {X : Cx} {e : Expr} {t t' : TT} (h : PW X e t) (k : ∀ σ H Q, t' σ H Q → t σ H Q) : PW X e t' := ⟨fun wh pins s σ H Q I q => h.run wh pins s σ H Q I (k _ _ _ q)⟩
theorem _root_.L2.PA.weak {X : Cx} {e : List Expr} {t t' : TA} (h : PA X e t) (k : ∀ σ H Q, t' σ H Q → t σ H Q) : PA X e t' := ⟨fun p pins s σ H Q I q => h.run p pins s σ H Q I (k _ _ _ q)⟩
theorem _root_.L2.PK.weak {X : Cx} {e : List Keyword} {t t' : TA} (h : PK X e t) (k : ∀ σ H Q, t' σ H Q → t σ H Q) : PK X e t' := ⟨fun p pins s σ H Q I q => h.run p pins s σ H Q I (k _ _ _ q)⟩
section
variable {G : Gi} {W : WX} {α β γ δ : Type} {Pr : α → Cf → Cf → β → Prop} {Pr' : γ → Cf → Cf → δ → Prop}
/-- first m, then what follows in the state behind it -/
theorem tG.seq0 {m : M α} {f : α → M γ} {σ : L2.St} {H : Hp} {Q : δ → Hp → Prop} (h : tG G W Pr' (bnd m f) σ H Q) (R : β → Hp → Prop)
    (k : ∀ a v c c1 st1, Rel G st1 σ c1 → GoE c c1 → Pr a c c1 v →
      wp (f a st1) (fun x st' => ∀ u c', Rel G st' σ c' → GoE c c' → Pr' x c c' u → Q u c'.H) (xw G W σ c) → R v c1.H) : tG G W Pr m σ H R := by
  obtain ⟨c, st, e, r, h⟩ := h
  exact ⟨c, st, e, r, wp_mono (wp_bind.mp h) (fun a st1 q v c1 r1 g p => k a v c c1 st1 r1 g p q) (fun x s q => q)⟩
/-- what is told of a value holds from an earlier start, too -/
def Bk (Pr : α → Cf → Cf → β → Prop) : Prop := ∀ x c c1 c' u, GoE c c1 → Pr x c1 c' u → Pr x c c' u
theorem tG.seq (hb : Bk Pr') {m : M α} {f : α → M γ} {σ : L2.St} {H : Hp} {Q : δ → Hp → Prop} (h : tG G W Pr' (bnd m f) σ H Q) (R : β → Hp → Prop)
    (k : ∀ a v c c1 st1, Rel G st1 σ c1 → GoE c c1 → Pr a c c1 v →
      wp (f a st1) (fun x st' => ∀ u c', Rel G st' σ c' → GoE c1 c' → Pr' x c1 c' u → Q u c'.H) (xw G W σ c1) → R v c1.H) : tG G W Pr m σ H R :=
  h.seq0 R fun a v c c1 st1 r1 g p w => k a v c c1 st1 r1 g p
    (wp_mono w (fun x st' q u c' r' g' p' => q u c' r' (g.trans g') (hb _ _ _ _ _ g p')) (fun x s q => q.go g))
theorem tG.seq1 (hb : Bk Pr') {m : M α} {f : α → M γ} {σ : L2.St} {c1 : Cf} {st1 : S} {Q : δ → Hp → Prop} (r1 : Rel G st1 σ c1)
    (w : wp (bnd m f st1) (fun x st' => ∀ u c', Rel G st' σ c' → GoE c1 c' → Pr' x c1 c' u → Q u c'.H) (xw G W σ c1)) (R : β → Hp → Prop)
    (k : ∀ a v c2 st2, Rel G st2 σ c2 → GoE c1 c2 → Pr a c1 c2 v →
      wp (f a st2) (fun x st' => ∀ u c', Rel G st' σ c' → GoE c2 c' → Pr' x c2 c' u → Q u c'.H) (xw G W σ c2) → R v c2.H) : tG G W Pr m σ c1.H R :=
  ⟨c1, st1, rfl, r1, wp_mono (wp_bind.mp w) (fun a st2 q v c2 r2 g p => k a v c2 st2 r2 g p
    (wp_mono q (fun x st' q u c' r' g' p' => q u c' r' (g.trans g') (hb _ _ _ _ _ g p')) (fun x s q => q.go g))) (fun x s q => q)⟩
/-- a further reading from within -/
theorem tG.at {m : M α} {σ : L2.St} {c : Cf} {st : S} {Q : β → Hp → Prop} (r : Rel G st σ c)
    (h : wp (m st) (fun a st' => ∀ v c', Rel G st' σ c' → GoE c c' → Pr a c c' v → Q v c'.H) (xw G W σ c)) : tG G W Pr m σ c.H Q := ⟨c, st, rfl, r, h⟩
theorem bkO : Bk (PrO G) := fun o c c1 c' v g ⟨fp, t, f, n⟩ => ⟨fp, t, f, n.go g.toGo⟩
theorem bkL : Bk (PrL G) := fun _ _ _ _ _ _ h => h
theorem bkA : Bk (PrA G) := fun _ _ _ _ _ _ h => h
theorem bkT : Bk PrT := fun _ _ _ _ _ _ h => h
theorem PrO.new {c c1 c' : Cf} {o : O} {v : V} (g : GoE c c1) (h : PrO G o c1 c' v) : PrO G o c c' v := by
  obtain ⟨fp, t, f, n⟩ := h
  exact ⟨fp, t, f, n.go g.toGo⟩
end
section
variable {X : Cx} {G : Gi} {W : WX} {e a b : Expr} {m ma mb : M O}
/-! ### frozen, borrowed -/
def frz (m : M O) : M D := bnd m fun o => ret o.toD
def fzd (m : M D) : M O := bnd m fun d => ret (.fz d)
@[simp] theorem frz_app (m : M O) (s : S) : frz m s = (m s).bind fun o => ret o.toD := rfl
@[simp] theorem fzd_app (m : M D) (s : S) : fzd m s = (m s).bind fun d => ret (.fz d) := rfl
theorem x_frz (h : PE X e (tO G W m)) : PE X e (tD G W (frz m)) := h.weak fun σ H Q q => by
  refine q.seq0 Q (fun o v c c1 st1 r1 g p w => ?_)
  obtain ⟨fp, t, f, n⟩ := p
  exact w v (c1.frz fp) (r1.freeze f) (g.freeze n r1) (t.frz r1)
theorem x_bor (h : PE X e (tO G W m)) : PE X e (tBr G W m) := h.weak fun σ H Q q => by
  obtain ⟨c, st, e, r, h⟩ := q
  exact ⟨c, st, e, r, wp_mono h (fun a st1 q v c1 r1 g ⟨fp, t, f, n⟩ => q v c1 r1 g ⟨fp, t, f.keep⟩) (fun x s q => q)⟩
theorem x_las (h : PE X e (tBr G W m)) : PE X e (tLa G W m) := h.weak fun σ H Q q => by
  obtain ⟨c, st, e, r, h⟩ := q
  exact ⟨c, st, e, r, wp_mono h (fun a st1 q v c1 r1 g ⟨fp, t, _⟩ => q v c1 r1 g ⟨fp, t⟩) (fun x s q => q)⟩
/-! ### names and constants -/
def getS : List (Option O) → Nat → Option O
  | [], _ => none
  | x :: _, 0 => x
  | _ :: l, n + 1 => getS l n
def setS : List (Option O) → Nat → Option O → List (Option O)
  | [], _, _ => []
  | _ :: l, 0, o => o :: l
  | x :: l, n + 1, o => x :: setS l n o
def isFz : O → Bool
  | .fz _ => true
  | _ => false
/-- a name's value; an owned one is frozen from here on -/
def xVar (i : Nat) : M O := fun s => match getS s.env i with
  | some o => .ok (.fz o.toD) ⟨if isFz o then s.env else setS s.env i (some (.fz o.toD)), s.mu⟩
  | none => .no
/-- .. read in passing -/
def xBor (i : Nat) : M O := fun s => match getS s.env i with
  | some o => .ok o s
  | none => .no
/-- .. taken out of its slot -/
def xMov (i : Nat) : M O := fun s => match getS s.env i with
  | some o => .ok o ⟨if isFz o then s.env else setS s.env i none, s.mu⟩
  | none => .no
def xC (d : D) : M O := ret (.fz d)
@[simp] theorem xC_app (d : D) (s : S) : xC d s = .ok (.fz d) s := rfl
theorem slots_get {F H : Hp} {al : List Addr} : ∀ {env : List (Option O)} {σ : L2.St} {fp : List Addr} {i : Nat} {o : O}, Slots G F al H env σ fp → getS env i = some o →
    ∃ v f1 f2 f3, σ[i]? = some (some v) ∧ OwnT G F al H o v f2 ∧ fp = f1 ++ (f2 ++ f3)
  | _, _, _, i, o, .nil, e => by cases i <;> cases e
  | _, _, _, 0, o, .un h, e => by cases e
  | _, _, _, i + 1, o, .un h, e => by
    obtain ⟨v, f1, f2, f3, q1, q2, q3⟩ := slots_get (i := i) h e
    exact ⟨v, f1, f2, f3, by simpa using q1, q2, q3⟩
  | _, _, _, 0, o, .so (fp := fp) (fq := fq) h hs, e => by cases e; exact ⟨_, [], fp, fq, rfl, h, rfl⟩
  | _, _, _, i + 1, o, .so (fp := fp) h hs, e => by
    obtain ⟨v, f1, f2, f3, q1, q2, q3⟩ := slots_get (i := i) hs e
    exact ⟨v, fp ++ f1, f2, f3, by simpa using q1, q2, by rw [q3, List.append_assoc]⟩
/-- a slot exchanged -/
theorem slots_set {F H : Hp} {al : List Addr} : ∀ {env : List (Option O)} {σ : L2.St} {fp : List Addr} {i : Nat} {o : O}, Slots G F al H env σ fp → getS env i = some o →
    ∃ v f1 f2 f3, σ[i]? = some (some v) ∧ OwnT G F al H o v f2 ∧ fp = f1 ++ (f2 ++ f3) ∧ ∀ (F' H' : Hp) (al' : List Addr), Mo F F' al al' → (∀ a ∈ f1 ++ f3, H' a = H a) →
      (∀ o' f', OwnT G F' al' H' o' v f' → Slots G F' al' H' (setS env i (some o')) σ (f1 ++ (f' ++ f3))) ∧ Slots G F' al' H' (setS env i none) σ (f1 ++ f3)
  | _, _, _, i, o, .nil, e => by cases i <;> cases e
  | _, _, _, 0, o, .un h, e => by cases e
  | _, _, _, i + 1, o, .un h, e => by
    obtain ⟨v, f1, f2, f3, q1, q2, q3, q4⟩ := slots_set (i := i) h e
    exact ⟨v, f1, f2, f3, by simpa using q1, q2, q3, fun F' H' al' m k => ⟨fun o' f' t => .un ((q4 F' H' al' m k).1 o' f' t), .un (q4 F' H' al' m k).2⟩⟩
  | _, _, _, 0, o, .so (fp := fp) (fq := fq) h hs, e => by
    cases e
    exact ⟨_, [], fp, fq, rfl, h, rfl, fun F' H' al' m k => ⟨fun o' f' t => .so (fp := f') t (hs.mo m k), .un (hs.mo m k)⟩⟩
  | _, _, _, i + 1, o, .so (fp := fp) h hs, e => by
    obtain ⟨v, f1, f2, f3, q1, q2, q3, q4⟩ := slots_set (i := i) hs e
    refine ⟨v, fp ++ f1, f2, f3, by simpa using q1, q2, by rw [q3, List.append_assoc], fun F' H' al' m k => ?_⟩
    have k1 : ∀ a ∈ fp, H' a = H a := fun a ha => k a (List.mem_append_left _ (List.mem_append_left _ ha))
    have k2 : ∀ a ∈ f1 ++ f3, H' a = H a := fun a ha => k a (by
      rw [List.append_assoc]; exact List.mem_append_right _ ha)
    refine ⟨fun o' f' t => ?_, ?_⟩
    · rw [List.append_assoc]; exact .so (h.mo m k1) ((q4 F' H' al' m k2).1 o' f' t)
    · rw [List.append_assoc]; exact .so (h.mo m k1) (q4 F' H' al' m k2).2
/-- a slot stored to -/
theorem slots_put {F H : Hp} {al : List Addr} : ∀ {env : List (Option O)} {σ : L2.St} {fp : List Addr} (i : Nat), Slots G F al H env σ fp →
    ∃ f1 f2 f3, fp = f1 ++ (f2 ++ f3) ∧ (env.length ≤ i → f2 = []) ∧ ∀ (F' H' : Hp) (al' : List Addr), Mo F F' al al' → (∀ a ∈ f1 ++ f3, H' a = H a) →
      (i < env.length → ∀ o' v' f', OwnT G F' al' H' o' v' f' → Slots G F' al' H' (setS env i (some o')) (σ.set i (some v')) (f1 ++ (f' ++ f3))) ∧
      ∀ x, Slots G F' al' H' (setS env i none) (σ.set i x) (f1 ++ f3)
  | _, _, _, i, .nil => ⟨[], [], [], rfl, fun _ => rfl, fun F' H' al' m k => ⟨fun h => absurd h (Nat.not_lt_zero _), fun x => by cases i <;> exact .nil⟩⟩
  | _, _, _, 0, .un (fp := fp) h => ⟨[], [], fp, rfl, fun _ => rfl, fun F' H' al' m k => ⟨fun _ o' v' f' t => .so (fp := f') t (h.mo m k), fun x => .un (h.mo m k)⟩⟩
  | _, _, _, i + 1, .un h => by
    obtain ⟨f1, f2, f3, q3, q5, q4⟩ := slots_put i h
    exact ⟨f1, f2, f3, q3, fun z => q5 (by simpa using z), fun F' H' al' m k => ⟨fun z o' v' f' t => .un ((q4 F' H' al' m k).1 (by simpa using z) o' v' f' t), fun x => .un ((q4 F' H' al' m k).2 x)⟩⟩
  | _, _, _, 0, .so (fp := fp) (fq := fq) h hs => ⟨[], fp, fq, rfl, fun z => absurd z (by simp), fun F' H' al' m k => ⟨fun _ o' v' f' t => .so (fp := f') t (hs.mo m k), fun x => .un (hs.mo m k)⟩⟩
  | _, _, _, i + 1, .so (fp := fp) h hs => by
    obtain ⟨f1, f2, f3, q3, q5, q4⟩ := slots_put i hs
    refine ⟨fp ++ f1, f2, f3, by rw [q3, List.append_assoc], fun z => q5 (by simpa using z), fun F' H' al' m k => ?_⟩
    have k1 : ∀ a ∈ fp, H' a = H a := fun a ha => k a (List.mem_append_left _ (List.mem_append_left _ ha))
    have k2 : ∀ a ∈ f1 ++ f3, H' a = H a := fun a ha => k a (by
      rw [List.append_assoc]; exact List.mem_append_right _ ha)
    refine ⟨fun z o' v' f' t => ?_, fun x => ?_⟩
    · rw [List.append_assoc]; exact .so (h.mo m k1) ((q4 F' H' al' m k2).1 (by simpa using z) o' v' f' t)
    · rw [List.append_assoc]; exact .so (h.mo m k1) ((q4 F' H' al' m k2).2 x)
theorem mem_ends {f1 f2 f3 : List Addr} {a : Addr} (h : a ∈ f1 ++ f3) : a ∈ f1 ++ (f2 ++ f3) := by
  rcases List.mem_append.mp h with k | k
  · exact List.mem_append_left _ k
  · exact List.mem_append_right _ (List.mem_append_right _ k)
theorem mem_mid {f1 f2 f3 : List Addr} {a : Addr} (h : a ∈ f2) : a ∈ f1 ++ (f2 ++ f3) := List.mem_append_right _ (List.mem_append_left _ h)
theorem nd_ends {f1 f2 f3 : List Addr} (h : (f1 ++ (f2 ++ f3)).Nodup) : (f1 ++ f3).Nodup ∧ f2.Nodup ∧ ∀ a ∈ f2, a ∉ f1 ++ f3 := by
  have h1 := List.nodup_append.mp h
  have h2 := List.nodup_append.mp h1.2.1
  refine ⟨h.sublist (List.Sublist.append_left (List.sublist_append_right _ _) _), h2.1, fun a ha hk => ?_⟩
  rcases List.mem_append.mp hk with k | k
  · exact h1.2.2 a k a (List.mem_append_left _ ha) rfl
  · exact h2.2.2 a ha a k rfl
/-- the slot at i given up: what it owned is owned by nothing -/
theorem rel_out {st : S} {σ : L2.St} {c : Cf} {i : Nat} {o : O} (r : Rel G st σ c) (e : getS st.env i = some o) : ∃ v f2 fs', σ[i]? = some (some v) ∧ OwnT G c.F c.al c.H o v f2 ∧
    Rel G ⟨setS st.env i none, st.mu⟩ σ { c with fs := fs' } ∧ Fresh f2 { c with fs := fs' } ∧ GoE c { c with fs := fs' } ∧ (∀ a ∈ f2, a ∈ c.fs) ∧
    ∀ F' H' al', Mo c.F F' c.al al' → (∀ a ∈ fs', H' a = c.H a) → ∀ o', OwnT G F' al' H' o' v [] → Slots G F' al' H' (setS st.env i (some o')) σ fs' := by
  obtain ⟨v, f1, f2, f3, q1, q2, q3, q4⟩ := slots_set r.slots e
  have nd := r.nds
  rw [q3] at nd
  obtain ⟨n1, n2, n3⟩ := nd_ends nd
  have sub : ∀ a, a ∈ f1 ++ f3 → a ∈ c.fs := fun a h => by rw [q3]; exact mem_ends h
  have sub2 : ∀ a, a ∈ f2 → a ∈ c.fs := fun a h => by rw [q3]; exact mem_mid h
  refine ⟨v, f2, f1 ++ f3, q1, q2, ⟨r.sub, fun a h => r.own a (h.elim (fun h => .inl (sub a h)) .inr), n1, r.ndc, fun a h => r.dis a (sub a h), (q4 c.F c.H c.al (Mo.refl _ _) fun _ _ => rfl).2, r.cells⟩,
    ⟨n2, fun a h => r.own a (.inl (sub2 a h)), n3, fun a h => r.dis a (sub2 a h)⟩,
    { mo := Mo.refl _ _, fr := fun _ _ _ _ => rfl, fp := fun a h => h.elim (fun h => .inl (sub a h)) (fun h => .inr (.inl h)), nF := fun a h => .inl h,
      hs := fun _ _ _ => rfl, sf := sub, cf := fun a h k => absurd h (r.dis a k) }, sub2, fun F' H' al' m k o' t => (q4 F' H' al' m k).1 o' [] t⟩
theorem own_fz {F H : Hp} {al : List Addr} {o : O} {v : V} {fp : List Addr} (h : OwnT G F al H o v fp) (z : isFz o = true) : fp = [] ∧ Rp G F al v o.toD := by
  cases h with
  | fz h => exact ⟨rfl, by rw [O.toD]; exact h⟩
  | _ => cases z
theorem x_var {i : Nat} {x : Str} {pos : Pos} (hN : X.N[i]? = some x) (hv : Vis X.env.scope x) (hd : (x == ("__debug__" : Str)) = false := by decide) (hcd : (x == ("__classdict__" : Str)) = false := by decide) :
    PE X (.Name x pos) (tO G W (xVar i)) := (pe_var hN hv hd hcd).weak fun σ H Q q => by
  obtain ⟨c, st, rfl, r, h⟩ := q
  unfold xVar at h
  cases e : getS st.env i with
  | none => rw [e] at h; exact h.elim
  | some o =>
    rw [e] at h
    dsimp only [wp] at h
    obtain ⟨v, f2, fs', q1, q2, r2, fr, g, sb, q4⟩ := rel_out r e
    refine ⟨v, q1, ?_⟩
    cases z : isFz o with
    | true =>
      obtain ⟨rfl, rp⟩ := own_fz q2 z
      rw [z] at h
      exact h v c r (GoE.refl r) ⟨[], .fz rp, Fresh.nil _, New.nil _⟩
    | false =>
      rw [z] at h
      have r3 := r2.freeze fr
      have t3 := OwnT.frz (c := { c with fs := fs' }) q2 r2
      have nw : New f2 c := fun a ha => .inl (sb a ha)
      refine h v (Cf.frz { c with fs := fs' } f2) ?_ (g.freeze nw r2) ⟨[], .fz t3, Fresh.nil _, New.nil _⟩
      exact ⟨r3.sub, r3.own, r3.nds, r3.ndc, r3.dis, q4 _ _ _ (.of (frz_sub (c := { c with fs := fs' }) r2) fun _ _ h => h) (fun _ _ => rfl) _ (.fz t3), r3.cells⟩
theorem x_mov {i : Nat} {x : Str} {pos : Pos} (hN : X.N[i]? = some x) (hv : Vis X.env.scope x) (hd : (x == ("__debug__" : Str)) = false := by decide) (hcd : (x == ("__classdict__" : Str)) = false := by decide) :
    PE X (.Name x pos) (tO G W (xMov i)) := (pe_var hN hv hd hcd).weak fun σ H Q q => by
  obtain ⟨c, st, rfl, r, h⟩ := q
  unfold xMov at h
  cases e : getS st.env i with
  | none => rw [e] at h; exact h.elim
  | some o =>
    rw [e] at h
    dsimp only [wp] at h
    obtain ⟨v, f2, fs', q1, q2, r2, fr, g, sb, q4⟩ := rel_out r e
    refine ⟨v, q1, ?_⟩
    cases z : isFz o with
    | true =>
      obtain ⟨rfl, rp⟩ := own_fz q2 z
      rw [z] at h
      exact h v c r (GoE.refl r) ⟨[], q2, Fresh.nil _, New.nil _⟩
    | false =>
      rw [z] at h
      exact h v { c with fs := fs' } r2 g ⟨f2, q2, fr, fun a ha => .inl (sb a ha)⟩
theorem x_bvar {i : Nat} {x : Str} {pos : Pos} (hN : X.N[i]? = some x) (hv : Vis X.env.scope x) (hd : (x == ("__debug__" : Str)) = false := by decide) (hcd : (x == ("__classdict__" : Str)) = false := by decide) :
    PE X (.Name x pos) (tBr G W (xBor i)) := (pe_var hN hv hd hcd).weak fun σ H Q q => by
  obtain ⟨c, st, rfl, r, h⟩ := q
  unfold xBor at h
  cases e : getS st.env i with
  | none => rw [e] at h; exact h.elim
  | some o =>
    rw [e] at h
    dsimp only [wp] at h
    obtain ⟨v, f2, fs', q1, q2, r2, fr, g, sb, q4⟩ := rel_out r e
    exact ⟨v, q1, h v c r (GoE.refl r) ⟨f2, q2, fun a ha => r.dis a (sb a ha)⟩⟩
theorem x_c {e : Expr} {v : V} {d : D} (h : PE X e (tC v)) (hr : ∀ F al, Rp G F al v d) : PE X e (tO G W (xC d)) := h.weak fun σ H Q q => by
  obtain ⟨c, st, rfl, r, h⟩ := q
  exact h v c r (GoE.refl r) ⟨[], .fz (hr _ _), Fresh.nil _, New.nil _⟩
/-! ### operators -/
/-- an operator by values, and what it gives of trees -/
def OpD (G : Gi) (r : R2) (g : D → D → Option O) : Prop := ∀ (st : S) (σ : L2.St) (c : Cf) (x y : V) (ox oy : O) (fx fy : List Addr) (o : O) (Q : VK), Rel G st σ c →
  OwnT G c.F c.al c.H ox x fx → OwnT G c.F c.al c.H oy y fy → g ox.toD oy.toD = some o →
  (∀ v c', Rel G st σ c' → GoE c c' → PrO G o c c' v → Q v c'.H) → r x y c.H Q
def UnD (G : Gi) (r : V → Hp → VK → Prop) (g : D → Option O) : Prop := ∀ (st : S) (σ : L2.St) (c : Cf) (x : V) (ox : O) (fx : List Addr) (o : O) (Q : VK), Rel G st σ c →
  OwnT G c.F c.al c.H ox x fx → g ox.toD = some o → (∀ v c', Rel G st σ c' → GoE c c' → PrO G o c c' v → Q v c'.H) → r x c.H Q
def xOp (g : D → D → Option O) (ma mb : M O) : M O := bnd ma fun x => bnd mb fun y => ofO (g x.toD y.toD)
def xUn (g : D → Option O) (ma : M O) : M O := bnd ma fun x => ofO (g x.toD)
@[simp] theorem xOp_app (g : D → D → Option O) (ma mb : M O) (s : S) : xOp g ma mb s = (ma s).bind fun x s1 => (mb s1).bind fun y s2 => ofO (g x.toD y.toD) s2 := rfl
@[simp] theorem xUn_app (g : D → Option O) (ma : M O) (s : S) : xUn g ma s = (ma s).bind fun x s1 => ofO (g x.toD) s1 := rfl
theorem op_t {r : R2} {g : D → D → Option O} (hr : OpD G r g) {σ : L2.St} {H : Hp} {Q : VK} (q : tO G W (xOp g ma mb) σ H Q) : tOp r (tBr G W ma) (tLa G W mb) σ H Q := by
  show tBr G W ma σ H (fun x H1 => tLa G W mb σ H1 (fun y H2 => r x y H2 Q))
  refine q.seq bkO _ (fun ox x c c1 st1 r1 g1 p1 w => ?_)
  obtain ⟨fx, tx, kx⟩ := p1
  refine tG.seq1 bkO r1 w _ (fun oy y c2 st2 r2 g2 p2 w2 => ?_)
  obtain ⟨fy, ty⟩ := p2
  obtain ⟨o, eo, q3⟩ := wp_ofO.mp w2
  exact hr st2 σ c2 x y ox oy fx fy o Q r2 (kx.go tx g2) ty eo q3
theorem un_t {r : V → Hp → VK → Prop} {g : D → Option O} (hr : UnD G r g) {σ : L2.St} {H : Hp} {Q : VK} (q : tO G W (xUn g ma) σ H Q) : tUn r (tLa G W ma) σ H Q := by
  show tLa G W ma σ H (fun x H1 => r x H1 Q)
  refine q.seq bkO _ (fun ox x c c1 st1 r1 g1 p1 w => ?_)
  obtain ⟨fx, tx⟩ := p1
  obtain ⟨o, eo, q3⟩ := wp_ofO.mp w
  exact hr st1 σ c1 x ox fx o Q r1 tx eo q3
theorem x_op {op : Operator} {r : R2} {g : D → D → Option O} {pos : Pos} (ho : OpR X (binaryOp op) r) (hr : OpD G r g) (ha : PE X a (tBr G W ma)) (hb : PE X b (tLa G W mb)) :
    PE X (.BinOp a op b pos) (tO G W (xOp g ma mb)) := (pe_op ho ha hb).weak fun σ H Q q => op_t hr q
theorem x_cmp {op : CmpOp} {r : R2} {g : D → D → Option O} {pos : Pos} (ho : OpR X (compareOp op) r) (hr : OpD G r g) (ha : PE X a (tBr G W ma)) (hb : PE X b (tLa G W mb)) (hm : behindInMarks op b = false) :
    PE X (.Compare a [op] [b] pos) (tO G W (xOp g ma mb)) := (pe_cmpR ho ha hb hm).weak fun σ H Q q => op_t hr q
theorem x_ix {r : R2} {g : D → D → Option O} {pos : Pos} (ho : IxR X r) (hr : OpD G r g) (ha : PE X a (tBr G W ma)) (hb : PE X b (tLa G W mb)) (hs : PlainIx b) :
    PE X (.Subscript a b pos) (tO G W (xOp g ma mb)) := (pe_ix ho ha hb hs).weak fun σ H Q q => op_t hr q
theorem x_un {op : UnaryOp} {r : V → Hp → VK → Prop} {g : D → Option O} {pos : Pos} (ho : UnR X (unaryOp op) r) (hr : UnD G r g) (ha : PE X a (tLa G W ma)) :
    PE X (.UnaryOp op a pos) (tO G W (xUn g ma)) := (pe_un ho ha).weak fun σ H Q q => un_t hr q
/-- a truth out of a tree -/
def asB : O → Option Bool
  | .fz (.bl b) => some b
  | _ => none
def toB (m : M O) : M Bool := bnd m fun o => ofO (asB o)
@[simp] theorem toB_app (m : M O) (s : S) : toB m s = (m s).bind fun o => ofO (asB o) := rfl
theorem test_t {Pr : O → Cf → Cf → V → Prop} (hp : ∀ b c c' v, Pr (.fz (.bl b)) c c' v → v = .bl b) {σ : L2.St} {H : Hp} {Q : Bool → Hp → Prop} (q : tTs G W (toB m) σ H Q) :
    tG G W Pr m σ H fun x H' => ∃ k, x = .bl k ∧ Q k H' := by
  refine q.seq bkT _ (fun o v c c1 st1 r1 g1 p w => ?_)
  obtain ⟨b, eb, q3⟩ := wp_ofO.mp w
  have eo : o = .fz (.bl b) := by
    unfold asB at eb
    split at eb
    · cases eb; rfl
    · cases eb
  subst eo
  exact ⟨b, hp b c c1 v p, q3 b c1 r1 (GoE.refl r1) rfl⟩
theorem own_bl {F H : Hp} {al : List Addr} {b : Bool} {v : V} {fp : List Addr} (h : OwnT G F al H (.fz (.bl b)) v fp) : v = .bl b := by
  cases h with
  | fz h => cases h; rfl
theorem prO_bl (b : Bool) (c c' : Cf) (v : V) (h : PrO G (.fz (.bl b)) c c' v) : v = .bl b := by obtain ⟨fp, t, _⟩ := h; exact own_bl t
theorem xt_val (h : PE X e (tO G W m)) (he : ∀ whole, isTrue e X.env whole = (do let v ← whole; standAt e.pos; holding [v] (truthy v)) := by intro _; rfl) :
    PT X e (tTs G W (toB m)) := (pt_val h he).weak fun σ H Q q => test_t (prO_bl) q
theorem xt_cmp {op : CmpOp} {r : R2} {g : D → D → Option O} {pos : Pos} (ho : OpR X (compareOp op) r) (hr : OpD G r g) (ha : PE X a (tBr G W ma)) (hb : PE X b (tLa G W mb)) (hm : behindInMarks op b = false) :
    PT X (.Compare a [op] [b] pos) (tTs G W (toB (xOp g ma mb))) := (pt_cmpR ho ha hb hm).weak fun σ H Q q => by
  have q2 := test_t (prO_bl (G := G)) q
  exact op_t hr q2
/-! ### and, or, not; a if b else c -/
def bAnd (ma mb : M Bool) : M Bool := bnd ma fun x => if x = true then mb else ret false
def bOr (ma mb : M Bool) : M Bool := bnd ma fun x => if x = true then ret true else mb
def bNot (ma : M Bool) : M Bool := bnd ma fun x => ret (!x)
def xIf (mt : M Bool) (ma mb : M O) : M O := bnd mt fun x => if x = true then ma else mb
@[simp] theorem bAnd_app (ma mb : M Bool) (s : S) : bAnd ma mb s = (ma s).bind fun x => if x = true then mb else ret false := rfl
@[simp] theorem bOr_app (ma mb : M Bool) (s : S) : bOr ma mb s = (ma s).bind fun x => if x = true then ret true else mb := rfl
@[simp] theorem bNot_app (ma : M Bool) (s : S) : bNot ma s = (ma s).bind fun x => ret (!x) := rfl
@[simp] theorem xIf_app (mt : M Bool) (ma mb : M O) (s : S) : xIf mt ma mb s = (mt s).bind fun x => if x = true then ma else mb := rfl
theorem and_t {ma mb : M Bool} {σ : L2.St} {H : Hp} {Q : Bool → Hp → Prop} (q : tTs G W (bAnd ma mb) σ H Q) : tAnd (tTs G W ma) (tTs G W mb) σ H Q := by
  show tTs G W ma σ H fun c H1 => if c = true then tTs G W mb σ H1 Q else Q false H1
  refine q.seq bkT _ (fun o v c c1 st1 r1 g1 p w => ?_)
  obtain rfl : v = o := p
  cases v with
  | true => exact tG.at r1 w
  | false => exact w false c1 r1 (GoE.refl r1) rfl
theorem or_t {ma mb : M Bool} {σ : L2.St} {H : Hp} {Q : Bool → Hp → Prop} (q : tTs G W (bOr ma mb) σ H Q) : tOr (tTs G W ma) (tTs G W mb) σ H Q := by
  show tTs G W ma σ H fun c H1 => if c = true then Q true H1 else tTs G W mb σ H1 Q
  refine q.seq bkT _ (fun o v c c1 st1 r1 g1 p w => ?_)
  obtain rfl : v = o := p
  cases v with
  | false => exact tG.at r1 w
  | true => exact w true c1 r1 (GoE.refl r1) rfl
theorem not_t {ma : M Bool} {σ : L2.St} {H : Hp} {Q : Bool → Hp → Prop} (q : tTs G W (bNot ma) σ H Q) : tNot (tTs G W ma) σ H Q := by
  show tTs G W ma σ H fun c H1 => Q (!c) H1
  refine q.seq bkT _ (fun o v c c1 st1 r1 g1 p w => ?_)
  obtain rfl : v = o := p
  exact w (!v) c1 r1 (GoE.refl r1) rfl
theorem if_t {Pr : O → Cf → Cf → V → Prop} (hb : Bk Pr) {mt : M Bool} {σ : L2.St} {H : Hp} {Q : VK} (q : tG G W Pr (xIf mt ma mb) σ H Q) : tIf (tTs G W mt) (tG G W Pr ma) (tG G W Pr mb) σ H Q := by
  show tTs G W mt σ H fun c H1 => if c = true then tG G W Pr ma σ H1 Q else tG G W Pr mb σ H1 Q
  refine q.seq hb _ (fun o v c c1 st1 r1 g1 p w => ?_)
  obtain rfl : v = o := p
  cases v with
  | true => exact tG.at r1 w
  | false => exact tG.at r1 w
section
variable {A B A2 : Expr} {rest : List Expr} {pos : Pos} {ma mb mt : M Bool}
theorem xw_and1 (ha : PT X A (tTs G W ma)) : PW X (.BoolOp .And [A] pos) (tTs G W ma) := pw_and1 ha
theorem xw_or1 (ha : PT X A (tTs G W ma)) : PW X (.BoolOp .Or [A] pos) (tTs G W ma) := pw_or1 ha
theorem xw_and (ha : PT X A (tTs G W ma)) (hb : PW X (.BoolOp .And (B :: rest) pos) (tTs G W mb)) : PW X (.BoolOp .And (A :: B :: rest) pos) (tTs G W (bAnd ma mb)) := (pw_and ha hb).weak fun _ _ _ q => and_t q
theorem xw_or (ha : PT X A (tTs G W ma)) (hb : PW X (.BoolOp .Or (B :: rest) pos) (tTs G W mb)) : PW X (.BoolOp .Or (A :: B :: rest) pos) (tTs G W (bOr ma mb)) := (pw_or ha hb).weak fun _ _ _ q => or_t q
theorem xt_not (ha : PT X A (tTs G W ma)) : PT X (.UnaryOp .Not A pos) (tTs G W (bNot ma)) := (pt_not ha).weak fun _ _ _ q => not_t q
theorem x_if {mx my : M O} (ht : PT X A (tTs G W mt)) (ha : PE X B (tO G W mx)) (hb : PE X A2 (tO G W my)) : PE X (.IfExp A B A2 pos) (tO G W (xIf mt mx my)) :=
  (pe_ifExp ht ha hb).weak fun _ _ _ q => if_t bkO q
end
/-- and, or, not as values: truths alone -/
def xAndV (ma mb : M O) : M O := bnd (toB ma) fun x => if x = true then mb else ret (.fz (.bl false))
def xOrV (ma mb : M O) : M O := bnd (toB ma) fun x => if x = true then ret (.fz (.bl true)) else mb
def xNotV (ma : M O) : M O := bnd (toB ma) fun x => ret (.fz (.bl (!x)))
@[simp] theorem xAndV_app (ma mb : M O) (s : S) : xAndV ma mb s = (toB ma s).bind fun x => if x = true then mb else ret (.fz (.bl false)) := rfl
@[simp] theorem xOrV_app (ma mb : M O) (s : S) : xOrV ma mb s = (toB ma s).bind fun x => if x = true then ret (.fz (.bl true)) else mb := rfl
@[simp] theorem xNotV_app (ma : M O) (s : S) : xNotV ma s = (toB ma s).bind fun x => ret (.fz (.bl (!x))) := rfl
theorem prO_fz {c c' : Cf} {v : V} {d : D} (h : Rp G c'.F c'.al v d) : PrO G (.fz d) c c' v := ⟨[], .fz h, Fresh.nil _, New.nil _⟩
theorem andV_t {σ : L2.St} {H : Hp} {Q : VK} (q : tO G W (xAndV ma mb) σ H Q) : tAndV (tO G W ma) (tO G W mb) σ H Q := by
  show tO G W ma σ H fun x H1 => ∃ c, x = .bl c ∧ if c = true then tO G W mb σ H1 Q else Q (.bl false) H1
  refine test_t prO_bl (q.seq bkO (fun b H1 => if b = true then tO G W mb σ H1 Q else Q (.bl false) H1) (fun o v c c1 st1 r1 g1 p w => ?_))
  obtain rfl : v = o := p
  cases v with
  | true => exact tG.at r1 w
  | false => exact w _ c1 r1 (GoE.refl r1) (prO_fz (.bl _))
theorem notV_t {σ : L2.St} {H : Hp} {Q : VK} (q : tO G W (xNotV ma) σ H Q) : tNotV (tO G W ma) σ H Q := by
  show tO G W ma σ H fun x H1 => ∃ c, x = .bl c ∧ Q (.bl (!c)) H1
  refine test_t prO_bl (q.seq bkO (fun b H1 => Q (.bl (!b)) H1) (fun o v c c1 st1 r1 g1 p w => ?_))
  obtain rfl : v = o := p
  exact w _ c1 r1 (GoE.refl r1) (prO_fz (.bl _))
theorem x_and {rest : List Expr} {pos : Pos} (ha : PE X a (tO G W ma)) (hb : PE X (.BoolOp .And (b :: rest) pos) (tO G W mb)) : PE X (.BoolOp .And (a :: b :: rest) pos) (tO G W (xAndV ma mb)) := (pe_and ha hb).weak fun _ _ _ q => andV_t q
theorem x_not {pos : Pos} (ha : PE X a (tO G W ma)) : PE X (.UnaryOp .Not a pos) (tO G W (xNotV ma)) := (pe_not ha).weak fun _ _ _ q => notV_t q
/-! ### argument lists, tuples, lists -/
def aNil : M (List D) := ret []
def aCons (m : M D) (ms : M (List D)) : M (List D) := bnd m fun d => bnd ms fun ds => ret (d :: ds)
@[simp] theorem aNil_app (s : S) : aNil s = .ok [] s := rfl
@[simp] theorem aCons_app (m : M D) (ms : M (List D)) (s : S) : aCons m ms s = (m s).bind fun d s1 => (ms s1).bind fun ds => ret (d :: ds) := rfl
theorem xa_nil : PA X [] (tAs G W aNil) := (pa_nil (X := X)).weak fun σ H Q q => by
  obtain ⟨c, st, rfl, r, h⟩ := q
  exact h [] c r (GoE.refl r) .nil
theorem cons_t {m : M D} {ms : M (List D)} {σ : L2.St} {H : Hp} {Q : List V → Hp → Prop} (q : tAs G W (aCons m ms) σ H Q) : tCons (tD G W m) (tAs G W ms) σ H Q := by
  show tD G W m σ H fun x H1 => tAs G W ms σ H1 fun xs H2 => Q (x :: xs) H2
  refine q.seq bkA _ (fun d v c c1 st1 r1 g1 p1 w => ?_)
  refine tG.seq1 bkA r1 w _ (fun ds vs c2 st2 r2 g2 p2 w2 => ?_)
  exact w2 (v :: vs) c2 r2 (GoE.refl r2) (.cons (p1.mo g2.mo) p2)
theorem xa_cons {m : M D} {ms : M (List D)} {es : List Expr} (ha : PE X e (tD G W m)) (hr : PA X es (tAs G W ms)) (hs : starEach (e :: es) X.env = (false, eval e X.env) :: starEach es X.env := by rfl) :
    PA X (e :: es) (tAs G W (aCons m ms)) := (pa_cons ha hr hs).weak fun _ _ _ q => cons_t q
theorem xk_nil : PK X [] (tAs G W aNil) := (pk_nil (X := X)).weak fun σ H Q q => by
  obtain ⟨c, st, rfl, r, h⟩ := q
  exact h [] c r (GoE.refl r) .nil
/-- what a display of n things gives -/
def dTup (ds : List D) : Option O := if ds.length ≤ 16777216 then some (.fz (.tup ds)) else none
def dLst (ds : List D) : Option O := if ds.length ≤ 16777216 then some (.lst ds) else none
def xTup (ms : M (List D)) : M O := bnd ms fun ds => ofO (dTup ds)
def xLst (ms : M (List D)) : M O := bnd ms fun ds => ofO (dLst ds)
@[simp] theorem xTup_app (ms : M (List D)) (s : S) : xTup ms s = (ms s).bind fun ds => ofO (dTup ds) := rfl
@[simp] theorem xLst_app (ms : M (List D)) (s : S) : xLst ms s = (ms s).bind fun ds => ofO (dLst ds) := rfl
/-- a new frozen object -/
theorem new_fz {st : S} {σ : L2.St} {c : Cf} {p : Addr} {o : HO} {d : D} (r : Rel G st σ c) (h : c.H p = none)
    (hp : Rp G (frzF (c.new p o) [p]) c.al (.ref p) d) : ∃ c', c'.H = upd c.H p o ∧ Rel G st σ c' ∧ GoE c c' ∧ PrO G (.fz d) c c' (.ref p) := by
  have r1 := r.new (o := o) h
  have f := Fresh.new (o := o) r h
  exact ⟨(c.new p o).frz [p], rfl, r1.freeze f, (GoE.new r h).freeze (New.new h) r1, [], .fz hp, Fresh.nil _, New.nil _⟩
theorem new_ow {st : S} {σ : L2.St} {c : Cf} {p : Addr} {o : HO} {t : O} (r : Rel G st σ c) (h : c.H p = none)
    (hp : OwnT G c.F c.al (upd c.H p o) t (.ref p) [p]) : ∃ c', c'.H = upd c.H p o ∧ Rel G st σ c' ∧ GoE c c' ∧ PrO G t c c' (.ref p) :=
  ⟨c.new p o, rfl, r.new h, GoE.new r h, [p], hp, Fresh.new r h, New.new h⟩
theorem frzF_same {c : Cf} {p : Addr} {o : HO} : frzF (c.new p o) [p] p = some o := by
  unfold frzF
  rw [if_pos (List.mem_singleton_self _)]
  exact upd_same
theorem mo_new {st : S} {σ : L2.St} {c : Cf} {p : Addr} {o : HO} (r : Rel G st σ c) (h : c.H p = none) : Mo c.F (frzF (c.new p o) [p]) c.al c.al :=
  .of (frz_sub (r.new (o := o) h)) fun _ _ h => h
theorem x_tup {es : List Expr} {ms : M (List D)} {x1 : Nat} {pos : Pos} (h : PA X es (tAs G W ms)) : PE X (.Tuple es x1 pos) (tO G W (xTup ms)) := (pe_tup h).weak fun σ H Q q => by
  show tAs G W ms σ H fun xs H1 => xs.length ≤ sizeLine ∧ ∀ p, H1 p = none → Q (.ref p) (upd H1 p (.tup xs))
  refine q.seq bkO _ (fun ds vs c c1 st1 r1 g1 p1 w => ?_)
  obtain ⟨o, eo, q3⟩ := wp_ofO.mp w
  unfold dTup at eo
  split at eo
  · rename_i hl
    cases eo
    have hl2 := p1.len
    refine ⟨by rw [szl]; omega, fun p hp => ?_⟩
    obtain ⟨c', e, r', g', p'⟩ := new_fz (G := G) (o := .tup vs) (d := .tup ds) r1 hp (.tup frzF_same (p1.mo (mo_new r1 hp)))
    rw [← e]
    exact q3 _ c' r' g' p'
  · cases eo
theorem x_lst {es : List Expr} {ms : M (List D)} {pos : Pos} (h : PA X es (tAs G W ms)) : PE X (.List es pos) (tO G W (xLst ms)) := (pe_lst h).weak fun σ H Q q => by
  show tAs G W ms σ H fun xs H1 => xs.length ≤ sizeLine ∧ ∀ p, H1 p = none → Q (.ref p) (upd H1 p (.lst xs))
  refine q.seq bkO _ (fun ds vs c c1 st1 r1 g1 p1 w => ?_)
  obtain ⟨o, eo, q3⟩ := wp_ofO.mp w
  unfold dLst at eo
  split at eo
  · rename_i hl
    cases eo
    have hl2 := p1.len
    refine ⟨by rw [szl]; omega, fun p hp => ?_⟩
    obtain ⟨c', e, r', g', p'⟩ := new_ow (G := G) (o := .lst vs) (t := .lst ds) r1 hp (.lst upd_same p1)
    rw [← e]
    exact q3 _ c' r' g' p'
  · cases eo
end
end L2.Tr
namespace L2.Tr
open PySem PySem.Spec PyProof.Rows L2 L2.Pc
/-! ### what a value is, by its tree -/
def Vi (G : Gi) (c : Cf) (v : V) : D → Prop
  | .non => v = .non
  | .bl b => v = .bl b
  | .int i => v = .int i
  | .str s => v = .str s
  | .tup ds => ∃ a xs, v = .ref a ∧ SqT G.K c.H a xs ∧ RpA G c.F c.al xs ds ∧ Rp G c.F c.al v (.tup ds)
  | .tuk ds => ∃ a xs, v = .ref a ∧ SqT G.K c.H a xs ∧ RpA G c.F c.al xs ds
  | .lst ds => ∃ a xs, v = .ref a ∧ c.H a = some (.lst xs) ∧ RpA G c.F c.al xs ds
  | .lsk ds => ∃ a xs, v = .ref a ∧ SqL G.K c.H a xs ∧ RpA G c.F c.al xs ds
  | .dct _ => ∃ a, v = .ref a
  | .dcu _ => ∃ a, v = .ref a
  | .ins _ _ => ∃ a, v = .ref a
  | .cel n => ∃ a, v = .ref a ∧ c.al[n]? = some a
  | .fn f => ∃ a, v = .ref a ∧ G.mg f = some (.ref a)
  | .ty n => v = .ty n
  | .xob _ _ => ∃ a, v = .ref a
  | .xok _ _ => ∃ a, v = .ref a
  | .tun ds => ∃ a xs, v = .ref a ∧ SqT G.K c.H a xs ∧ RpA G c.F c.al xs ds ∧ ∃ o, c.H a = some (.frz o (.tup xs)) ∧ o.dict = none
theorem rp_view {G : Gi} {st : S} {σ : L2.St} {c : Cf} {v : V} {d : D} (r : Rel G st σ c) (t : Rp G c.F c.al v d) : Vi G c v d := by
  cases t with
  | non => rfl
  | bl b => rfl
  | int i => rfl
  | str x => rfl
  | tup h hs => exact ⟨_, _, rfl, r.rdT (.inl (.inl h)), hs, .tup h hs⟩
  | tuk h hs => exact ⟨_, _, rfl, r.rdT h, hs⟩
  | lst h hs => exact ⟨_, _, rfl, r.sub _ _ h, hs⟩
  | lsk h hs => exact ⟨_, _, rfl, r.rdL h, hs⟩
  | dcK h q hs => exact ⟨_, rfl⟩
  | dcT h q hs => exact ⟨_, rfl⟩
  | ins h q n hs => exact ⟨_, rfl⟩
  | cel h => exact ⟨_, rfl, h⟩
  | fn h => exact ⟨_, rfl, h⟩
  | ty n => rfl
  | xob h q k n hs => exact ⟨_, rfl⟩
  | xob0 h q => exact ⟨_, rfl⟩
  | xok h q k n hs => exact ⟨_, rfl⟩
  | xok0 h q => exact ⟨_, rfl⟩
  | tun h k hs => exact ⟨_, _, rfl, sqT_fz (r.sub _ _ h), hs, _, r.sub _ _ h, k⟩
theorem own_view {G : Gi} {st : S} {σ : L2.St} {c : Cf} {v : V} {o : O} {fp : List Addr} (r : Rel G st σ c) (t : OwnT G c.F c.al c.H o v fp) : Vi G c v o.toD := by
  cases t with
  | fz h => rw [O.toD]; exact rp_view r h
  | lst h hs => rw [O.toD]; exact ⟨_, _, rfl, h, hs⟩
  | dcK h q hs => rw [O.toD]; exact ⟨_, rfl⟩
  | dcT h q hs => rw [O.toD]; exact ⟨_, rfl⟩
  | ins h q n hs => rw [O.toD]; exact ⟨_, rfl⟩
  | dcoK h q hs => rw [O.toD]; exact ⟨_, rfl⟩
  | dcoT h q hs => rw [O.toD]; exact ⟨_, rfl⟩
/-! data without own classes; b: dicts too -/
mutual
def D.py (b : Bool) : D → Option PyData
  | .non => some .none
  | .bl x => some (.bool x)
  | .int i => some (.int i)
  | .str s => some (.str s)
  | .tup xs => (D.pyA b xs).map .tuple
  | .tuk xs => (D.pyA b xs).map .tuple
  | .lst xs => (D.pyA b xs).map .list
  | .lsk xs => (D.pyA b xs).map .list
  | .dct kvs => if b then (D.pyK b kvs).map .dict else none
  | .dcu _ => none
  | .ins _ _ => none
  | .cel _ => none
  | .fn _ => none
  | .ty _ => none
  | .xob _ _ => none
  | .xok _ _ => none
  | .tun xs => (D.pyA b xs).map .tuple
def D.pyA (b : Bool) : List D → Option (List PyData)
  | [] => some []
  | x :: xs => (D.py b x).bind fun y => (D.pyA b xs).map (y :: ·)
def D.pyK (b : Bool) : List (D × D) → Option (List (PyData × PyData))
  | [] => some []
  | (k, x) :: xs => (D.py b k).bind fun j => (D.py b x).bind fun y => (D.pyK b xs).map ((j, y) :: ·)
end
theorem map_some {α β : Type} {f : α → β} {o : Option α} {b : β} (h : o.map f = some b) : ∃ a, o = some a ∧ b = f a := by
  cases o with
  | none => cases h
  | some a => cases h; exact ⟨a, rfl, rfl⟩
theorem bind_some {α β : Type} {f : α → Option β} {o : Option α} {b : β} (h : o.bind f = some b) : ∃ a, o = some a ∧ f a = some b := by
  cases o with
  | none => cases h
  | some a => exact ⟨a, rfl, h⟩
theorem py_key {b : Bool} {k : Key} : D.py b (kD k) = some (keyD k) := by cases k <;> rfl
theorem pyK_zip {b : Bool} {kvs : List (Key × V)} : ∀ {ds : List (D × D)} {l : List (PyData × PyData)}, D.pyK b ds = some l → ds.map (·.1) = kvs.map (fun p => kD p.1) →
    ∃ ps, D.pyA b (ds.map (·.2)) = some ps ∧ l = (kvs.map fun p => keyD p.1).zip ps := by
  intro ds
  induction ds generalizing kvs with
  | nil =>
    intro l h e
    cases kvs with
    | nil => cases h; exact ⟨[], rfl, rfl⟩
    | cons _ _ => cases e
  | cons p ds ih =>
    obtain ⟨k, x⟩ := p
    intro l h e
    cases kvs with
    | nil => cases e
    | cons q kvs =>
      rw [List.map_cons, List.map_cons] at e
      injection e with e1 e2
      rw [D.pyK] at h
      obtain ⟨j, h1, h⟩ := bind_some h
      obtain ⟨y, h2, h⟩ := bind_some h
      obtain ⟨l', h3, rfl⟩ := map_some h
      obtain ⟨ps, h4, rfl⟩ := ih h3 e2
      have e1 : k = kD q.1 := e1
      rw [e1, py_key] at h1
      cases h1
      refine ⟨y :: ps, ?_, rfl⟩
      rw [List.map_cons, D.pyA, h2]
      show (D.pyA b (ds.map (·.2))).map _ = _
      rw [h4]; rfl
mutual
theorem Rp.da {G : Gi} {F H : Hp} {al : List Addr} (e : ∀ a o, F a = some o → H a = some o) : ∀ {v : V} {d : D} {p : PyData}, Rp G F al v d → d.py true = some p → Da G.K H v p
  | _, _, _, .non, h => by cases h; exact .non
  | _, _, _, .bl b, h => by cases h; exact .bl b
  | _, _, _, .int i, h => by cases h; exact .int i
  | _, _, _, .str x, h => by cases h; exact .str x
  | _, _, _, .tup q hs, h => by rw [D.py] at h; obtain ⟨ps, h1, rfl⟩ := map_some h; exact .tup (.inl (.inl (e _ _ q))) (RpA.da e hs h1)
  | _, _, _, .tuk q hs, h => by rw [D.py] at h; obtain ⟨ps, h1, rfl⟩ := map_some h; exact .tup (sqT_mo e q) (RpA.da e hs h1)
  | _, _, _, .lst q hs, h => by rw [D.py] at h; obtain ⟨ps, h1, rfl⟩ := map_some h; exact .lst (.inl (.inl (e _ _ q))) (RpA.da e hs h1)
  | _, _, _, .lsk q hs, h => by rw [D.py] at h; obtain ⟨ps, h1, rfl⟩ := map_some h; exact .lst (sqL_mo e q) (RpA.da e hs h1)
  | _, _, _, @Rp.dcK _ _ _ a kvs ds q k hs, h => by
    rw [D.py, if_pos rfl] at h
    obtain ⟨ps, h1, rfl⟩ := map_some h
    obtain ⟨ps2, h2, rfl⟩ := pyK_zip h1 k
    exact .dct (rd_mo e q) (RpA.da e hs h2)
  | _, _, _, .dcT _ _ _, h => by rw [D.py] at h; cases h
  | _, _, _, .ins _ _ _ _, h => by rw [D.py] at h; cases h
  | _, _, _, .cel _, h => by rw [D.py] at h; cases h
  | _, _, _, .fn _, h => by rw [D.py] at h; cases h
  | _, _, _, .ty _, h => by rw [D.py] at h; cases h
  | _, _, _, .xob _ _ _ _ _, h => by rw [D.py] at h; cases h
  | _, _, _, .xob0 _ _, h => by rw [D.py] at h; cases h
  | _, _, _, .xok _ _ _ _ _, h => by rw [D.py] at h; cases h
  | _, _, _, .xok0 _ _, h => by rw [D.py] at h; cases h
  | _, _, _, .tun q _ hs, h => by rw [D.py] at h; obtain ⟨ps, h1, rfl⟩ := map_some h; exact .tup (sqT_mo e (sqT_fz q)) (RpA.da e hs h1)
theorem RpA.da {G : Gi} {F H : Hp} {al : List Addr} (e : ∀ a o, F a = some o → H a = some o) : ∀ {vs : List V} {ds : List D} {ps : List PyData}, RpA G F al vs ds → D.pyA true ds = some ps → DaAll G.K H vs ps
  | _, _, _, .nil, h => by cases h; exact .nil
  | _, _, _, .cons q hs, h => by
    rw [D.pyA] at h
    obtain ⟨y, h1, h⟩ := bind_some h
    obtain ⟨ys, h2, rfl⟩ := map_some h
    exact .cons (Rp.da e q h1) (RpA.da e hs h2)
end
mutual
theorem Rp.dp {G : Gi} {F H : Hp} {al : List Addr} (e : ∀ a o, F a = some o → H a = some o) : ∀ {v : V} {d : D} {p : PyData}, Rp G F al v d → d.py false = some p → Dp G.K H v p
  | _, _, _, .non, h => by cases h; exact .non
  | _, _, _, .bl b, h => by cases h; exact .bl b
  | _, _, _, .int i, h => by cases h; exact .int i
  | _, _, _, .str x, h => by cases h; exact .str x
  | _, _, _, .tup q hs, h => by rw [D.py] at h; obtain ⟨ps, h1, rfl⟩ := map_some h; exact .tup (.inl (.inl (e _ _ q))) (RpA.dp e hs h1)
  | _, _, _, .tuk q hs, h => by rw [D.py] at h; obtain ⟨ps, h1, rfl⟩ := map_some h; exact .tup (sqT_mo e q) (RpA.dp e hs h1)
  | _, _, _, .lst q hs, h => by rw [D.py] at h; obtain ⟨ps, h1, rfl⟩ := map_some h; exact .lst (.inl (.inl (e _ _ q))) (RpA.dp e hs h1)
  | _, _, _, .lsk q hs, h => by rw [D.py] at h; obtain ⟨ps, h1, rfl⟩ := map_some h; exact .lst (sqL_mo e q) (RpA.dp e hs h1)
  | _, _, _, .dcK _ _ _, h => by rw [D.py, if_neg (by decide)] at h; cases h
  | _, _, _, .dcT _ _ _, h => by rw [D.py] at h; cases h
  | _, _, _, .ins _ _ _ _, h => by rw [D.py] at h; cases h
  | _, _, _, .cel _, h => by rw [D.py] at h; cases h
  | _, _, _, .fn _, h => by rw [D.py] at h; cases h
  | _, _, _, .ty _, h => by rw [D.py] at h; cases h
  | _, _, _, .xob _ _ _ _ _, h => by rw [D.py] at h; cases h
  | _, _, _, .xob0 _ _, h => by rw [D.py] at h; cases h
  | _, _, _, .xok _ _ _ _ _, h => by rw [D.py] at h; cases h
  | _, _, _, .xok0 _ _, h => by rw [D.py] at h; cases h
  | _, _, _, .tun q _ hs, h => by rw [D.py] at h; obtain ⟨ps, h1, rfl⟩ := map_some h; exact .tup (sqT_mo e (sqT_fz q)) (RpA.dp e hs h1)
theorem RpA.dp {G : Gi} {F H : Hp} {al : List Addr} (e : ∀ a o, F a = some o → H a = some o) : ∀ {vs : List V} {ds : List D} {ps : List PyData}, RpA G F al vs ds → D.pyA false ds = some ps → DpAll G.K H vs ps
  | _, _, _, .nil, h => by cases h; exact .nil
  | _, _, _, .cons q hs, h => by
    rw [D.pyA] at h
    obtain ⟨y, h1, h⟩ := bind_some h
    obtain ⟨ys, h2, rfl⟩ := map_some h
    exact .cons (Rp.dp e q h1) (RpA.dp e hs h2)
end
theorem pyK_own {b : Bool} {kvs : List (Key × V)} {os : List (D × O)} {l : List (PyData × PyData)} (h : D.pyK b (O.toDk os) = some l) (e : os.map (·.1) = kvs.map (fun p => kD p.1)) :
    ∃ ps, D.pyA b ((os.map (·.2)).map O.toD) = some ps ∧ l = (kvs.map fun p => keyD p.1).zip ps := by
  rw [toDk_map] at h
  have := pyK_zip (kvs := kvs) h (by rw [List.map_map]; exact e)
  rw [List.map_map] at this ⊢
  exact this
mutual
theorem own_da {G : Gi} {F H : Hp} {al : List Addr} (e : ∀ a o, F a = some o → H a = some o) : ∀ {o : O} {v : V} {fp : List Addr} {p : PyData}, OwnT G F al H o v fp → o.toD.py true = some p → Da G.K H v p
  | _, _, _, _, .fz t, h => by rw [O.toD] at h; exact t.da e h
  | _, _, _, _, .lst t hs, h => by rw [O.toD, D.py] at h; obtain ⟨ps, h1, rfl⟩ := map_some h; exact .lst (.inl (.inl t)) (hs.da e h1)
  | _, _, _, _, .dcK t k hs, h => by
    rw [O.toD, D.py, if_pos rfl] at h
    obtain ⟨ps, h1, rfl⟩ := map_some h
    obtain ⟨ps2, h2, rfl⟩ := pyK_zip h1 k
    exact .dct (.inl t) (hs.da e h2)
  | _, _, _, _, .dcT t k hs, h => by rw [O.toD, D.py] at h; cases h
  | _, _, _, _, .ins t q n hs, h => by rw [O.toD, D.py] at h; cases h
  | _, _, _, _, .dcoK t q hs, h => by
    rw [O.toD, D.py, if_pos rfl] at h
    obtain ⟨ps, h1, rfl⟩ := map_some h
    obtain ⟨ps2, h2, rfl⟩ := pyK_own h1 q
    exact .dct (.inl t) (ownA_da e hs h2)
  | _, _, _, _, .dcoT t q hs, h => by rw [O.toD, D.py] at h; cases h
theorem ownA_da {G : Gi} {F H : Hp} {al : List Addr} (e : ∀ a o, F a = some o → H a = some o) : ∀ {os : List O} {vs : List V} {fp : List Addr} {ps : List PyData}, OwnA G F al H os vs fp →
    D.pyA true (os.map O.toD) = some ps → DaAll G.K H vs ps
  | _, _, _, _, .nil, h => by cases h; exact .nil
  | _, _, _, _, .cons q hs, h => by
    rw [List.map_cons, D.pyA] at h
    obtain ⟨y, h1, h⟩ := bind_some h
    obtain ⟨ys, h2, rfl⟩ := map_some h
    exact .cons (own_da e q h1) (ownA_da e hs h2)
end
section
variable {G : Gi} {st : S} {σ : L2.St} {c : Cf} {v : V} {o : O} {fp : List Addr}
theorem own_dp {p : PyData} (r : Rel G st σ c) (t : OwnT G c.F c.al c.H o v fp) (h : o.toD.py false = some p) : Dp G.K c.H v p := by
  cases t with
  | fz t => rw [O.toD] at h; exact t.dp r.sub h
  | lst t hs => rw [O.toD, D.py] at h; obtain ⟨ps, h1, rfl⟩ := map_some h; exact .lst (.inl (.inl t)) (hs.dp r.sub h1)
  | dcK t k hs => rw [O.toD, D.py, if_neg (by decide)] at h; cases h
  | dcT t k hs => rw [O.toD, D.py] at h; cases h
  | ins t q n hs => rw [O.toD, D.py] at h; cases h
  | dcoK t q hs => rw [O.toD, D.py, if_neg (by decide)] at h; cases h
  | dcoT t q hs => rw [O.toD, D.py] at h; cases h
/-! ### ends of rules -/
theorem fin {d : D} {Q : VK} (r : Rel G st σ c) (h : Rp G c.F c.al v d) (q : ∀ v c', Rel G st σ c' → GoE c c' → PrO G (.fz d) c c' v → Q v c'.H) : Q v c.H :=
  q v c r (GoE.refl r) (prO_fz h)
theorem finL {vs : List V} {ds : List D} {Q : VK} (r : Rel G st σ c) (h : RpA G c.F c.al vs ds) (q : ∀ v c', Rel G st σ c' → GoE c c' → PrO G (.lst ds) c c' v → Q v c'.H) :
    ∀ p, c.H p = none → Q (.ref p) (upd c.H p (.lst vs)) := fun p hp => by
  obtain ⟨c', e, r', g', p'⟩ := new_ow (G := G) (o := .lst vs) (t := .lst ds) r hp (.lst upd_same h)
  rw [← e]; exact q _ c' r' g' p'
theorem finT {vs : List V} {ds : List D} {Q : VK} (r : Rel G st σ c) (h : RpA G c.F c.al vs ds) (q : ∀ v c', Rel G st σ c' → GoE c c' → PrO G (.fz (.tup ds)) c c' v → Q v c'.H) :
    ∀ p, c.H p = none → Q (.ref p) (upd c.H p (.tup vs)) := fun p hp => by
  obtain ⟨c', e, r', g', p'⟩ := new_fz (G := G) (o := .tup vs) (d := .tup ds) r hp (.tup frzF_same (h.mo (mo_new r hp)))
  rw [← e]; exact q _ c' r' g' p'
end
/-! ### arithmetic -/
def addD (x y : D) : Option O := match x, y with
  | .int i, .int j => some (.fz (.int (i + j)))
  | .str a, .str b => if a.length + b.length ≤ 16777216 then some (.fz (.str (a ++ b))) else none
  | .lst xs, .lst ys => if xs.length + ys.length ≤ 16777216 then some (.lst (xs ++ ys)) else none
  | .tup xs, .tup ys => if xs.length + ys.length ≤ 16777216 then some (.fz (.tup (xs ++ ys))) else none
  | _, _ => none
def rAddA (K : PySem.W.Frag) : R2 := fun a b H Q =>
  rI0 (fun i j => .int (i + j)) a b H Q ∨ (∃ i j, a = .str i ∧ b = .str j ∧ i.length + j.length ≤ sizeLine ∧ Q (.str (i ++ j)) H) ∨
  rCat a b H Q ∨ rCatA K a b H Q
theorem op_addA {X : Cx} {K : PySem.W.Frag} (hK : X.K = K) : OpR X (binaryOp .Add) (rAddA K) := by
  subst hK
  intro pins s σ H a b v u Q I ra rb h
  rcases h with h | h | h | h
  · exact op_add pins s σ H a b v u Q I ra rb h
  · exact op_add_str pins s σ H a b v u Q I ra rb h
  · exact op_cat pins s σ H a b v u Q I ra rb h
  · exact op_catA pins s σ H a b v u Q I ra rb h
theorem d_add {G : Gi} : OpD G (rAddA G.K) addD := by
  intro st σ c x y ox oy fx fy o Q r tx ty e q
  have vx := own_view r tx
  have vy := own_view r ty
  generalize ox.toD = dx at *
  generalize oy.toD = dy at *
  unfold addD at e
  split at e
  · cases e
    obtain rfl : x = _ := vx
    obtain rfl : y = _ := vy
    exact .inl ⟨_, _, rfl, rfl, fin r (.int _) q⟩
  · split at e
    · rename_i hl
      cases e
      obtain rfl : x = _ := vx
      obtain rfl : y = _ := vy
      exact .inr (.inl ⟨_, _, rfl, rfl, by rw [szl]; exact hl, fin r (.str _) q⟩)
    · cases e
  · split at e
    · rename_i hl
      cases e
      obtain ⟨a, xs, rfl, hx, rx⟩ := vx
      obtain ⟨b, ys, rfl, hy, ry⟩ := vy
      exact .inr (.inr (.inl ⟨_, _, _, _, rfl, rfl, hx, hy, by rw [rx.len, ry.len, szl]; exact hl, finL r (rx.app ry) q⟩))
    · cases e
  · split at e
    · rename_i hl
      cases e
      obtain ⟨a, xs, rfl, hx, rx, rpx⟩ := vx
      obtain ⟨b, ys, rfl, hy, ry, rpy⟩ := vy
      refine .inr (.inr (.inr ⟨_, _, _, _, rfl, rfl, hx, hy, by rw [rx.len, ry.len, szl]; exact hl, fun h => ?_, fun _ h => ?_, fun _ _ => finT r (rx.app ry) q⟩))
      · subst h
        cases rx
        exact fin r rpy (by simpa using q)
      · subst h
        cases ry
        exact fin r rpx (by simpa using q)
    · cases e
  · cases e
/-- two ints -/
def iiD (C : Int → Int → Bool) (g : Int → Int → D) (x y : D) : Option O := match x, y with
  | .int i, .int j => if C i j = true then some (.fz (g i j)) else none
  | _, _ => none
theorem d_ii {G : Gi} {C : Int → Int → Bool} {C' : Int → Int → Prop} {g : Int → Int → D} {g' : Int → Int → V} (hC : ∀ i j, C i j = true → C' i j) (hg : ∀ i j F al, Rp G F al (g' i j) (g i j)) :
    OpD G (rI C' g') (iiD C g) := by
  intro st σ c x y ox oy fx fy o Q r tx ty e q
  have vx := own_view r tx
  have vy := own_view r ty
  generalize ox.toD = dx at *
  generalize oy.toD = dy at *
  unfold iiD at e
  split at e
  · split at e
    · rename_i hc
      cases e
      obtain rfl : x = _ := vx
      obtain rfl : y = _ := vy
      exact ⟨_, _, rfl, rfl, hC _ _ hc, fin r (hg _ _ _ _) q⟩
    · cases e
  · cases e
def ii0 (g : Int → Int → D) (x y : D) : Option O := match x, y with
  | .int i, .int j => some (.fz (g i j))
  | _, _ => none
theorem d_ii0 {G : Gi} {g : Int → Int → D} {g' : Int → Int → V} (hg : ∀ i j F al, Rp G F al (g' i j) (g i j)) : OpD G (rI0 g') (ii0 g) := by
  intro st σ c x y ox oy fx fy o Q r tx ty e q
  have vx := own_view r tx
  have vy := own_view r ty
  generalize ox.toD = dx at *
  generalize oy.toD = dy at *
  unfold ii0 at e
  split at e
  · cases e
    obtain rfl : x = _ := vx
    obtain rfl : y = _ := vy
    exact ⟨_, _, rfl, rfl, fin r (hg _ _ _ _) q⟩
  · cases e
def subD : D → D → Option O := ii0 fun i j => .int (i - j)
def ltD : D → D → Option O := ii0 fun i j => .bl (decide (i < j))
def leD : D → D → Option O := ii0 fun i j => .bl (decide (i ≤ j))
def gtD : D → D → Option O := ii0 fun i j => .bl (decide (j < i))
def geD : D → D → Option O := ii0 fun i j => .bl (decide (j ≤ i))
def divD : D → D → Option O := iiD (fun _ j => decide (0 < j) && decide (j < 1073741824)) fun i j => .int (i / j)
def modD : D → D → Option O := iiD (fun _ j => decide (0 < j)) fun i j => .int (i % j)
def powD : D → D → Option O := iiD (fun i j => decide (0 ≤ j) && decide (j ≤ 1000000) && decide (i.natAbs < 2 ^ 64)) fun i j => .int (i ^ j.toNat)
section
variable {G : Gi}
theorem d_sub : OpD G (rI0 fun i j => .int (i - j)) subD := d_ii0 fun _ _ _ _ => .int _
theorem d_lt : OpD G (rI0 fun i j => .bl (decide (i < j))) ltD := d_ii0 fun _ _ _ _ => .bl _
theorem d_le : OpD G (rI0 fun i j => .bl (decide (i ≤ j))) leD := d_ii0 fun _ _ _ _ => .bl _
theorem d_gt : OpD G (rI0 fun i j => .bl (decide (j < i))) gtD := d_ii0 fun _ _ _ _ => .bl _
theorem d_ge : OpD G (rI0 fun i j => .bl (decide (j ≤ i))) geD := d_ii0 fun _ _ _ _ => .bl _
theorem d_div : OpD G (rI CDiv fun i j => .int (i / j)) divD := d_ii (fun i j h => by simp at h; exact h) fun _ _ _ _ => .int _
theorem d_mod : OpD G (rI (fun _ j => 0 < j) fun i j => .int (i % j)) modD := d_ii (fun i j h => by simpa using h) fun _ _ _ _ => .int _
theorem d_pow : OpD G (rI CPow fun i j => .int (i ^ j.toNat)) powD := d_ii (fun i j h => by simp at h; exact ⟨h.1.1, h.1.2, h.2⟩) fun _ _ _ _ => .int _
end
/-- * : ints; a text, a list so often -/
def mulOkB (i j : Int) : Bool := (decide (-(2 ^ 64) < i) && decide (i < 2 ^ 64)) || (decide (-(2 ^ 64) < j) && decide (j < 2 ^ 64)) || decide (i.natAbs.log2 + j.natAbs.log2 < 1000000)
def mulD (x y : D) : Option O := match x, y with
  | .int i, .int j => if mulOkB i j = true then some (.fz (.int (i * j))) else none
  | .str a, .int n => if 0 ≤ n ∧ n ≤ 100000 ∧ a.length ≤ 100 then some (.fz (.str (Txt.mul a n))) else none
  | .lst xs, .int n => if 0 ≤ n ∧ n ≤ 10000 ∧ xs.length ≤ 1000 then some (.lst (List.replicate n.toNat xs).flatten) else none
  | _, _ => none
theorem mulOk_small {a : Str} {n : Int} (h0 : 0 ≤ n) (h1 : n ≤ 100000) (h2 : a.length ≤ 100) : MulOk a n := by
  refine ⟨by simp; omega, fun z1 z2 => ?_, fun z1 z2 => ?_⟩
  · have : (100 : Int) ≤ (2 ^ 63 - 1) / n := Int.le_ediv_of_mul_le (by omega) (by omega)
    omega
  · have : a.length * n.toNat ≤ 100 * 100000 := Nat.mul_le_mul h2 (by omega)
    unfold PySem.Builtin.Str.tooLong
    rw [sizeLine_eq]
    simp
    omega
theorem RpA.rep {G : Gi} {F : Hp} {al : List Addr} {vs : List V} {ds : List D} (h : RpA G F al vs ds) : ∀ n : Nat, RpA G F al (List.replicate n vs).flatten (List.replicate n ds).flatten
  | 0 => .nil
  | n + 1 => by rw [List.replicate_succ, List.replicate_succ, List.flatten_cons, List.flatten_cons]; exact h.app (RpA.rep h n)
theorem d_mul {G : Gi} : OpD G rMulM mulD := by
  intro st σ c x y ox oy fx fy o Q r tx ty e q
  have vx := own_view r tx
  have vy := own_view r ty
  generalize ox.toD = dx at *
  generalize oy.toD = dy at *
  unfold mulD at e
  split at e
  · split at e
    · rename_i hc
      cases e
      obtain rfl : x = _ := vx
      obtain rfl : y = _ := vy
      refine .inl ⟨_, _, rfl, rfl, ?_, fin r (.int _) q⟩
      unfold mulOkB at hc
      simp only [Bool.or_eq_true, Bool.and_eq_true, decide_eq_true_eq] at hc
      rcases hc with (h | h) | h
      · exact .inl (.inl h)
      · exact .inl (.inr h)
      · exact .inr h
    · cases e
  · split at e
    · rename_i hc
      cases e
      obtain rfl : x = _ := vx
      obtain rfl : y = _ := vy
      exact .inr (.inl ⟨_, _, rfl, rfl, mulOk_small hc.1 hc.2.1 hc.2.2, fin r (.str _) q⟩)
    · cases e
  · split at e
    · rename_i hc
      cases e
      obtain ⟨a, xs, rfl, hx, rx⟩ := vx
      obtain rfl : y = _ := vy
      refine .inr (.inr ⟨_, _, _, rfl, rfl, hx, by omega, by omega, ?_, finL r (rx.rep _) q⟩)
      have h1 := rx.len
      refine Nat.le_trans (Nat.mul_le_mul (show xs.length ≤ 1000 by omega) (show _ ≤ 10000 by omega)) ?_
      rw [szl]; decide
    · cases e
  · cases e
def negD : D → Option O
  | .int i => some (.fz (.int (-i)))
  | _ => none
theorem d_neg {G : Gi} : UnD G (rU fun i => .int (-i)) negD := by
  intro st σ c x ox fx o Q r tx e q
  have vx := own_view r tx
  generalize ox.toD = dx at *
  unfold negD at e
  split at e
  · cases e
    obtain rfl : x = _ := vx
    exact ⟨_, rfl, fin r (.int _) q⟩
  · cases e
/-! ### equal or not, None or not -/
/-- plain values: compared by themselves -/
def plainEq : D → D → Option Bool
  | .int i, .int j => some (decide (i = j))
  | .str a, .str b => some (decide (a = b))
  | .bl a, .bl b => some (decide (a = b))
  | .non, .non => some true
  | .non, .int _ => some false
  | .int _, .non => some false
  | .non, .str _ => some false
  | .str _, .non => some false
  | .str _, .int _ => some false
  | .int _, .str _ => some false
  | x, y => match D.py false x, D.py false y with
    | some p, some q => if SeqAt.shaped p = true ∧ SeqAt.shaped q = true then some (PyData.eqv p q) else none
    | _, _ => none
def eqD (x y : D) : Option O := (plainEq x y).map fun b => .fz (.bl b)
def neD (x y : D) : Option O := (plainEq x y).map fun b => .fz (.bl (!b))
theorem plain_ok {G : Gi} {st : S} {σ : L2.St} {c : Cf} {x y : V} {ox oy : O} {fx fy : List Addr} {b : Bool} (r : Rel G st σ c) (tx : OwnT G c.F c.al c.H ox x fx) (ty : OwnT G c.F c.al c.H oy y fy)
    (e : plainEq ox.toD oy.toD = some b) : (scal x y = true ∧ b = decide (x = y)) ∨ ∃ d e, Dp G.K c.H x d ∧ Dp G.K c.H y e ∧ SeqAt.shaped d = true ∧ SeqAt.shaped e = true ∧ b = PyData.eqv d e := by
  have vx := own_view r tx
  have vy := own_view r ty
  have dx := fun p h => own_dp (p := p) r tx h
  have dy := fun p h => own_dp (p := p) r ty h
  generalize ox.toD = tdx at *
  generalize oy.toD = tdy at *
  unfold plainEq at e
  split at e
  · cases e; obtain rfl : x = _ := vx; obtain rfl : y = _ := vy; exact .inl ⟨rfl, by simp⟩
  · cases e; obtain rfl : x = _ := vx; obtain rfl : y = _ := vy; exact .inl ⟨rfl, by simp⟩
  · cases e; obtain rfl : x = _ := vx; obtain rfl : y = _ := vy; exact .inl ⟨rfl, by simp⟩
  · cases e; obtain rfl : x = _ := vx; obtain rfl : y = _ := vy; exact .inl ⟨rfl, by simp⟩
  · cases e; obtain rfl : x = _ := vx; obtain rfl : y = _ := vy; exact .inl ⟨rfl, by simp⟩
  · cases e; obtain rfl : x = _ := vx; obtain rfl : y = _ := vy; exact .inl ⟨rfl, by simp⟩
  · cases e; obtain rfl : x = _ := vx; obtain rfl : y = _ := vy; exact .inl ⟨rfl, by simp⟩
  · cases e; obtain rfl : x = _ := vx; obtain rfl : y = _ := vy; exact .inl ⟨rfl, by simp⟩
  · cases e; obtain rfl : x = _ := vx; obtain rfl : y = _ := vy; exact .inl ⟨rfl, by simp⟩
  · cases e; obtain rfl : x = _ := vx; obtain rfl : y = _ := vy; exact .inl ⟨rfl, by simp⟩
  · split at e
    · rename_i p q h1 h2
      split at e
      · rename_i hs
        cases e
        exact .inr ⟨p, q, dx p h1, dy q h2, hs.1, hs.2, rfl⟩
      · cases e
    · cases e
theorem d_eq {G : Gi} : OpD G (rEqM G.K) eqD := by
  intro st σ c x y ox oy fx fy o Q r tx ty e q
  obtain ⟨b, eb, rfl⟩ := map_some e
  rcases plain_ok r tx ty eb with ⟨h1, h2⟩ | ⟨d, e', h1, h2, h3, h4, h5⟩
  · exact .inl ⟨h1, by rw [← h2]; exact fin r (.bl _) q⟩
  · exact .inr ⟨d, e', h1, h2, h3, h4, by rw [← h5]; exact fin r (.bl _) q⟩
theorem d_ne {G : Gi} : OpD G (rNeM G.K) neD := by
  intro st σ c x y ox oy fx fy o Q r tx ty e q
  obtain ⟨b, eb, rfl⟩ := map_some e
  rcases plain_ok r tx ty eb with ⟨h1, h2⟩ | ⟨d, e', h1, h2, h3, h4, h5⟩
  · exact .inl ⟨h1, by rw [← h2]; exact fin r (.bl _) q⟩
  · exact .inr ⟨d, e', h1, h2, h3, h4, by rw [← h5]; exact fin r (.bl _) q⟩
def isNon : D → Bool
  | .non => true
  | _ => false
theorem view_non {G : Gi} {c : Cf} {x : V} {d : D} (h : Vi G c x d) : decide (x = .non) = isNon d := by
  cases d with
  | non => obtain rfl : x = _ := h; rfl
  | bl b => obtain rfl : x = _ := h; rfl
  | int b => obtain rfl : x = _ := h; rfl
  | str b => obtain rfl : x = _ := h; rfl
  | ty b => obtain rfl : x = _ := h; rfl
  | tup ds => obtain ⟨a, _, rfl, _⟩ := h; rfl
  | tuk ds => obtain ⟨a, _, rfl, _⟩ := h; rfl
  | lst ds => obtain ⟨a, _, rfl, _⟩ := h; rfl
  | lsk ds => obtain ⟨a, _, rfl, _⟩ := h; rfl
  | dct ds => obtain ⟨a, rfl⟩ := h; rfl
  | dcu ds => obtain ⟨a, rfl⟩ := h; rfl
  | ins c fs => obtain ⟨a, rfl⟩ := h; rfl
  | cel n => obtain ⟨a, rfl, _⟩ := h; rfl
  | fn f => obtain ⟨a, rfl, _⟩ := h; rfl
  | xob c fs => obtain ⟨a, rfl⟩ := h; rfl
  | xok c fs => obtain ⟨a, rfl⟩ := h; rfl
  | tun ds => obtain ⟨a, _, rfl, _⟩ := h; rfl
def isD (x y : D) : Option O := if isNon y = true then some (.fz (.bl (isNon x))) else none
def isntD (x y : D) : Option O := if isNon y = true then some (.fz (.bl (!isNon x))) else none
theorem d_is {G : Gi} : OpD G rIsNo isD := by
  intro st σ c x y ox oy fx fy o Q r tx ty e q
  unfold isD at e
  split at e
  · rename_i hy
    cases e
    refine ⟨?_, ?_⟩
    · have := view_non (own_view r ty); rw [hy] at this; exact of_decide_eq_true this
    · rw [view_non (own_view r tx)]; exact fin r (.bl _) q
  · cases e
theorem d_isnt {G : Gi} : OpD G rNotNo isntD := by
  intro st σ c x y ox oy fx fy o Q r tx ty e q
  unfold isntD at e
  split at e
  · rename_i hy
    cases e
    refine ⟨?_, ?_⟩
    · have := view_non (own_view r ty); rw [hy] at this; exact of_decide_eq_true this
    · rw [view_non (own_view r tx)]; exact fin r (.bl _) q
  · cases e
end L2.Tr
namespace L2.Tr
open PySem PySem.Spec PyProof.Rows L2 L2.Pc
/-! ### statements -/
inductive Fl where
  | nx | bk | ct | rt (o : O)
section
variable (G : Gi) (W : WX)
def xs (c : Cf) : Exc → S → Prop := fun x st' => ∀ σ' v d c', Rel G st' σ' c' → Go c c' → XRp G c' x v d → W v d σ' c'.H
/-- what holds behind a statement -/
def Fw (D : Ends) (c : Cf) (f : Fl) (st' : S) : Prop := match f with
  | .nx => ∀ σ' c', Rel G st' σ' c' → Go c c' → D.nx σ' c'.H
  | .bk => ∀ σ' c', Rel G st' σ' c' → Go c c' → D.bk σ' c'.H
  | .ct => ∀ σ' c', Rel G st' σ' c' → Go c c' → D.ct σ' c'.H
  | .rt o => ∀ v c' fp, Rel G ⟨[], st'.mu⟩ [] c' → Go c c' → OwnT G c'.F c'.al c'.H o v fp → Fresh fp c' → New fp c → D.rt v c'.H
def tS (m : M Fl) : TS := fun D σ H => ∃ c st, c.H = H ∧ Rel G st σ c ∧ wp (m st) (Fw G D c) (xs G W c)
end
theorem _root_.L2.PS.weak {X : Cx} {e : Stmt} {t t' : TS} (h : PS X e t) (k : ∀ D σ H, t' D σ H → t D σ H) : PS X e t' := ⟨fun pins s σ H Q I q => h.run pins s σ H Q I (k _ _ _ q)⟩
theorem _root_.L2.PSs.weak {X : Cx} {e : List Stmt} {t t' : TS} (h : PSs X e t) (k : ∀ D σ H, t' D σ H → t D σ H) : PSs X e t' := ⟨fun pins s σ H Q I q => h.run pins s σ H Q I (k _ _ _ q)⟩
section
variable {X : Cx} {G : Gi} {W : WX} {e : Expr} {st : Stmt} {rest : List Stmt} {m m1 m2 : M Fl} {me : M O} {mt : M Bool} {pos pos' : Pos}
theorem xs.go {c c1 : Cf} (g : Go c c1) {x : Exc} {s : S} (h : xs G W c x s) : xs G W c1 x s := fun σ' v d c' r k q => h σ' v d c' r (g.trans k) q
theorem Fw.go {D : Ends} {c c1 : Cf} (g : Go c c1) {f : Fl} {s : S} (h : Fw G D c f s) : Fw G D c1 f s := by
  cases f with
  | nx => exact fun σ' c' r k => h σ' c' r (g.trans k)
  | bk => exact fun σ' c' r k => h σ' c' r (g.trans k)
  | ct => exact fun σ' c' r k => h σ' c' r (g.trans k)
  | rt o => exact fun v c' fp r k t f n => h v c' fp r (g.trans k) t f (n.go g)
/-- an expression within a statement -/
theorem tS.ex {α β : Type} {Pr : α → Cf → Cf → β → Prop} {D : Ends} {σ : L2.St} {H : Hp} {ma : M α} {f : α → M Fl} (h : tS G W (bnd ma f) D σ H) (R : β → Hp → Prop)
    (k : ∀ a v c c1 st1, Rel G st1 σ c1 → GoE c c1 → Pr a c c1 v → wp (f a st1) (Fw G D c) (xs G W c) → R v c1.H) : tG G W Pr ma σ H R := by
  obtain ⟨c, st, e, r, h⟩ := h
  exact ⟨c, st, e, r, wp_mono (wp_bind.mp h) (fun a st1 q v c1 r1 g p => k a v c c1 st1 r1 g p q) (fun x s q v d c' r' g' x' => q σ v d c' r' g'.toGo x')⟩
theorem tS.at {D : Ends} {σ : L2.St} {c : Cf} {st : S} (r : Rel G st σ c) (h : wp (m st) (Fw G D c) (xs G W c)) : tS G W m D σ c.H := ⟨c, st, rfl, r, h⟩
theorem wpS_go {D : Ends} {c c1 : Cf} (g : Go c c1) {r : R Fl} (h : wp r (Fw G D c) (xs G W c)) : wp r (Fw G D c1) (xs G W c1) := wp_mono h (fun _ _ q => q.go g) (fun _ _ q => q.go g)
def sNil : M Fl := ret .nx
def sSeq (m1 m2 : M Fl) : M Fl := bnd m1 fun f => match f with
  | .nx => m2
  | f => ret f
@[simp] theorem sNil_app (s : S) : sNil s = .ok .nx s := rfl
theorem ss_nil : PSs X [] (tS G W sNil) := (pss_nil (X := X)).weak fun D σ H q => by
  obtain ⟨c, st, rfl, r, h⟩ := q
  exact h σ c r Go.rfl'
theorem seq_t {D : Ends} {σ : L2.St} {H : Hp} (q : tS G W (sSeq m1 m2) D σ H) : tSeq (tS G W m1) (tS G W m2) D σ H := by
  obtain ⟨c, st, rfl, r, h⟩ := q
  refine ⟨c, st, rfl, r, wp_mono (wp_bind.mp h) (fun f st1 q => ?_) (fun _ _ q => q)⟩
  cases f with
  | nx => exact fun σ1 c1 r1 g1 => tS.at r1 (wpS_go g1 q)
  | bk => exact q
  | ct => exact q
  | rt o => exact q
theorem ss_cons (h1 : PS X st (tS G W m1)) (h2 : PSs X rest (tS G W m2)) : PSs X (st :: rest) (tS G W (sSeq m1 m2)) := (pss_cons h1 h2).weak fun _ _ _ q => seq_t q
theorem ss_one (h1 : PS X st (tS G W m1)) : PSs X [st] (tS G W m1) := pss_one h1
def sExpr (me : M O) : M Fl := bnd me fun _ => ret .nx
@[simp] theorem sExpr_app (me : M O) (s : S) : sExpr me s = (me s).bind fun _ => ret .nx := rfl
def sRet (me : M O) : M Fl := bnd me fun o => ret (.rt o)
@[simp] theorem sRet_app (me : M O) (s : S) : sRet me s = (me s).bind fun o => ret (.rt o) := rfl
/-- the slots dropped -/
theorem Rel.drop {st : S} {σ : L2.St} {c : Cf} (r : Rel G st σ c) : Rel G ⟨[], st.mu⟩ [] { c with fs := [] } :=
  ⟨r.sub, fun a h => r.own a (h.elim (fun h => nomatch h) .inr), List.nodup_nil, r.ndc, (fun a h => nomatch h), .nil, r.cells⟩
theorem Go.drop {c : Cf} : Go c { c with fs := [] } := ⟨Mo.refl _ _, fun _ _ _ _ => rfl, fun a h => h.elim (fun h => nomatch h) (fun h => .inr (.inl h)), fun a h => .inl h⟩
theorem Fresh.drop {c : Cf} {fp : List Addr} (f : Fresh fp c) : Fresh fp { c with fs := [] } := ⟨f.nd, f.nf, (fun a _ h => nomatch h), f.nc⟩
theorem s_ret (he : PE X e (tO G W me)) : PS X (.Return (some e) pos) (tS G W (sRet me)) := (ps_ret he).weak fun D σ H q => by
  show tO G W me σ H D.rt
  refine tS.ex q _ (fun o v c c1 st1 r1 g1 p1 w => ?_)
  obtain ⟨fp, t, f, n⟩ := p1
  exact w v { c1 with fs := [] } fp r1.drop (g1.toGo.trans Go.drop) t f.drop n
def sIf (mt : M Bool) (m1 m2 : M Fl) : M Fl := bnd mt fun b => if b = true then m1 else m2
@[simp] theorem sIf_app (mt : M Bool) (m1 m2 : M Fl) (s : S) : sIf mt m1 m2 s = (mt s).bind fun b => if b = true then m1 else m2 := rfl
theorem s_if {c : Expr} {a b : List Stmt} (hc : PT X c (tTs G W mt)) (ha : PSs X a (tS G W m1)) (hb : PSs X b (tS G W m2)) : PS X (.If c a b pos) (tS G W (sIf mt m1 m2)) := (ps_if hc ha hb).weak fun D σ H q => by
  show tTs G W mt σ H fun b H1 => if b = true then tS G W m1 D σ H1 else tS G W m2 D σ H1
  refine tS.ex q _ (fun o v c c1 st1 r1 g1 p1 w => ?_)
  obtain rfl : v = o := p1
  cases v with
  | true => exact tS.at r1 (wpS_go g1.toGo w)
  | false => exact tS.at r1 (wpS_go g1.toGo w)
/-! ### storing to names -/
theorem slots_len {F H : Hp} {al : List Addr} : ∀ {env : List (Option O)} {σ : L2.St} {fp : List Addr}, Slots G F al H env σ fp → env.length = σ.length
  | _, _, _, .nil => rfl
  | _, _, _, .un h => congrArg (· + 1) (slots_len h)
  | _, _, _, .so _ h => congrArg (· + 1) (slots_len h)
theorem setS_big : ∀ (env : List (Option O)) (i : Nat) (x : Option O), env.length ≤ i → setS env i x = env
  | [], _, _, _ => rfl
  | _ :: _, 0, _, h => absurd h (by simp)
  | a :: l, i + 1, x, h => by rw [setS, setS_big l i x (by simpa using h)]
/-- a slot stored to -/
theorem rel_put {st : S} {σ : L2.St} {c0 c : Cf} {i : Nat} {o : O} {v : V} {fp : List Addr} (r : Rel G st σ c) (t : OwnT G c.F c.al c.H o v fp) (f : Fresh fp c) (g : Go c0 c) (n : New fp c0) :
    ∃ c', c'.H = c.H ∧ Rel G ⟨setS st.env i (some o), st.mu⟩ (σ.set i (some v)) c' ∧ Go c0 c' ∧ c'.F = c.F ∧ c'.al = c.al ∧ (∀ a, a ∉ fp → a ∉ c.fs → a ∉ c'.fs) ∧ c'.fc = c.fc := by
  by_cases hi : i < st.env.length
  · obtain ⟨f1, f2, f3, e, _, q⟩ := slots_put i r.slots
    obtain ⟨n1, n2, n3⟩ := nd_ends (by rw [← e]; exact r.nds)
    have sub : ∀ a, a ∈ f1 ++ f3 → a ∈ c.fs := fun a h => by rw [e]; exact mem_ends h
    have sub' : ∀ a, a ∈ f1 ++ (fp ++ f3) → a ∈ fp ∨ a ∈ f1 ++ f3 := fun a h => by
      rcases List.mem_append.mp h with k | k
      · exact .inr (List.mem_append_left _ k)
      · rcases List.mem_append.mp k with k | k
        · exact .inl k
        · exact .inr (List.mem_append_right _ k)
    refine ⟨{ c with fs := f1 ++ (fp ++ f3) }, rfl, ⟨r.sub, fun a h => ?_, ?_, r.ndc, fun a h => ?_, (q c.F c.H c.al (Mo.refl _ _) fun _ _ => rfl).1 hi o v fp t, r.cells⟩,
      ⟨g.mo, g.fr, fun a h => ?_, g.nF⟩, rfl, rfl, fun a h1 h2 h3 => (sub' a h3).elim h1 (fun z => h2 (sub a z)), rfl⟩
    · rcases h with h | h
      · exact (sub' a h).elim (f.nf a) (fun z => r.own a (.inl (sub a z)))
      · exact r.own a (.inr h)
    · have h1 := List.nodup_append.mp n1
      refine List.nodup_append.mpr ⟨h1.1, List.nodup_append.mpr ⟨f.nd, h1.2.1, fun a ha b hb ab => ?_⟩, fun a ha b hb ab => ?_⟩
      · subst ab; exact f.ns a ha (sub a (List.mem_append_right _ hb))
      · subst ab
        rcases List.mem_append.mp hb with k | k
        · exact f.ns a k (sub a (List.mem_append_left _ ha))
        · exact h1.2.2 a ha a k rfl
    · exact (sub' a h).elim (f.nc a) (fun z => r.dis a (sub a z))
    · rcases h with h | h
      · exact (sub' a h).elim (n a) (fun z => g.fp a (.inl (sub a z)))
      · exact g.fp a (.inr h)
  · have hl := slots_len r.slots
    refine ⟨c, rfl, ?_, g, rfl, rfl, fun _ _ h => h, rfl⟩
    rw [setS_big _ _ _ (by omega), List.set_eq_of_length_le (by omega)]
    exact r
def sAsg (i : Nat) (me : M O) : M Fl := bnd me fun o s => .ok .nx ⟨setS s.env i (some o), s.mu⟩
@[simp] theorem sAsg_app (i : Nat) (me : M O) (s : S) : sAsg i me s = (me s).bind fun o s => .ok .nx ⟨setS s.env i (some o), s.mu⟩ := rfl
theorem asg_t {i : Nat} {D : Ends} {σ : L2.St} {H : Hp} (q : tS G W (sAsg i me) D σ H) : tAsg (tO G W me) (gName i) D σ H := by
  show tO G W me σ H fun v H1 => D.nx (σ.set i (some v)) H1
  refine tS.ex q _ (fun o v c c1 st1 r1 g1 p1 w => ?_)
  obtain ⟨fp, t, f, n⟩ := p1
  obtain ⟨c', e, r', g', _⟩ := rel_put (i := i) r1 t f g1.toGo n
  have w : Fw G D c .nx _ := w
  rw [← e]
  exact w _ c' r' g'
theorem s_asg {i : Nat} {x : Str} {pos' : Pos} (hN : X.N.Nodup) (hi : X.N[i]? = some x) (hx : Loc X.env.scope x) (he : PE X e (tO G W me)) (hs : swapsWith e (some (.Name x pos')) pos.line X.env = pure false := by rfl)
    (hf : X.fn x = true ∨ X.env.scope.names.lookup x = some .local := by first | exact .inl rfl | exact .inr rfl | assumption) : PS X (.Assign [.Name x pos'] e pos) (tS G W (sAsg i me)) :=
  (ps_set hN hi hx he hs hf).weak fun _ _ _ q => asg_t q
/-! ### targets: names, tuples of targets -/
/-- a target's store of a frozen value -/
abbrev MT := D → S → Option S
def gN (i : Nat) : MT := fun d s => some ⟨setS s.env i (some (.fz d)), s.mu⟩
def gsN : List MT → List D → S → Option S
  | [], [], s => some s
  | t :: ts, d :: ds, s => (t d s).bind (gsN ts ds)
  | _, _, _ => none
def seqOf : D → Option (List D)
  | .tup ds => some ds
  | .tuk ds => some ds
  | .tun ds => some ds
  | _ => none
def gT (ts : List MT) : MT := fun d s => (seqOf d).bind fun ds => gsN ts ds s
/-- the reading of a target, over trees -/
def TgOk (G : Gi) (g : TG) (t : MT) : Prop := ∀ (st st' : S) (σ : L2.St) (c : Cf) (v : V) (d : D) (Q : L2.St → Hp → Prop), Rel G st σ c → Rp G c.F c.al v d → t d st = some st' →
  (∀ σ' c', Rel G st' σ' c' → c'.H = c.H → c'.F = c.F → c'.al = c.al → c'.fc = c.fc → (∀ a ∈ c'.fs, a ∈ c.fs) → Q σ' c'.H) → g v σ c.H Q
def TgsOk (G : Gi) (g : TGs) (t : List MT) : Prop := ∀ (st st' : S) (σ : L2.St) (c : Cf) (vs : List V) (ds : List D) (Q : L2.St → Hp → Prop), Rel G st σ c → RpA G c.F c.al vs ds → gsN t ds st = some st' →
  (∀ σ' c', Rel G st' σ' c' → c'.H = c.H → c'.F = c.F → c'.al = c.al → c'.fc = c.fc → (∀ a ∈ c'.fs, a ∈ c.fs) → Q σ' c'.H) → g vs σ c.H Q
theorem tg_name {i : Nat} : TgOk G (gName i) (gN i) := by
  intro st st' σ c v d Q r h e q
  cases e
  obtain ⟨c', e, r', g', eF, eA, hs, hc⟩ := rel_put (i := i) r (.fz h) (Fresh.nil _) (Go.rfl' (c := c)) (New.nil _)
  show Q (σ.set i (some v)) c.H
  rw [← e]
  exact q _ c' r' e eF eA hc (fun a ha => Classical.byContradiction fun z => hs a (fun k => nomatch k) z ha)
theorem tgs_nil : TgsOk G gNil [] := by
  intro st st' σ c vs ds Q r h e q
  cases h with
  | nil => cases e; exact ⟨rfl, q σ c r rfl rfl rfl rfl fun _ h => h⟩
  | cons _ _ => cases e
theorem tgs_cons {g : TG} {gs : TGs} {t : MT} {ts : List MT} (h1 : TgOk G g t) (h2 : TgsOk G gs ts) : TgsOk G (gCons g gs) (t :: ts) := by
  intro st st' σ c vs ds Q r h e q
  cases h with
  | nil => cases e
  | @cons v vs d ds h hs =>
    obtain ⟨s1, e1, e2⟩ := bind_some (show (t d st).bind (gsN ts ds) = some st' from e)
    refine ⟨v, vs, rfl, h1 st s1 σ c v d _ r h e1 (fun σ1 c1 r1 k1 k2 k3 k4 k5 => ?_)⟩
    refine h2 s1 st' σ1 c1 vs ds Q r1 (by rw [k2, k3]; exact hs) e2 (fun σ' c' r' j1 j2 j3 j4 j5 => ?_)
    exact q σ' c' r' (j1.trans k1) (j2.trans k2) (j3.trans k3) (j4.trans k4) (fun a ha => k5 a (j5 a ha))
theorem tg_tup {gs : TGs} {ts : List MT} {n : Nat} (h : TgsOk G gs ts) (hn : ts.length = n) : TgOk G (gTup G.K n gs) (gT ts) := by
  intro st st' σ c v d Q r hv e q
  obtain ⟨ds, e1, e2⟩ := bind_some e
  have len : ∀ (ts : List MT) (ds : List D) (s s' : S), gsN ts ds s = some s' → ts.length = ds.length := by
    intro ts
    induction ts with
    | nil => intro ds s s' h; cases ds with
      | nil => rfl
      | cons _ _ => cases h
    | cons t ts ih => intro ds s s' h; cases ds with
      | nil => cases h
      | cons d ds =>
        obtain ⟨s1, _, h2⟩ := bind_some (show (t d s).bind (gsN ts ds) = some s' from h)
        rw [List.length_cons, List.length_cons, ih ds s1 s' h2]
  have hl := len _ _ _ _ e2
  have vv := rp_view r hv
  cases d with
  | tup ds' =>
    cases e1
    obtain ⟨a, xs, rfl, hx, rx, _⟩ := vv
    exact ⟨a, xs, rfl, hx, by rw [rx.len]; omega, h st st' σ c xs _ Q r rx e2 q⟩
  | tuk ds' =>
    cases e1
    obtain ⟨a, xs, rfl, hx, rx⟩ := vv
    exact ⟨a, xs, rfl, hx, by rw [rx.len]; omega, h st st' σ c xs _ Q r rx e2 q⟩
  | tun ds' =>
    cases e1
    obtain ⟨a, xs, rfl, hx, rx, _⟩ := vv
    exact ⟨a, xs, rfl, hx, by rw [rx.len]; omega, h st st' σ c xs _ Q r rx e2 q⟩
  | _ => cases e1
def sAsgT (t : MT) (me : M D) : M Fl := bnd me fun d s => match t d s with
  | some s' => .ok .nx s'
  | none => .no
@[simp] theorem sAsgT_app (t : MT) (me : M D) (s : S) : sAsgT t me s = (me s).bind fun d s => match t d s with
  | some s' => .ok .nx s'
  | none => .no := rfl
theorem go_tg {c c' : Cf} (k1 : c'.H = c.H) (k2 : c'.F = c.F) (k3 : c'.al = c.al) (k4 : c'.fc = c.fc) (k5 : ∀ a ∈ c'.fs, a ∈ c.fs) : Go c c' :=
  ⟨.of (fun a o h => by rw [k2]; exact h) (fun n a h => by rw [k3]; exact h), fun a _ _ _ => by rw [k1], fun a h => h.elim (fun h => .inl (k5 a h)) (fun h => .inr (.inl (by rw [← k4]; exact h))), fun a h => .inl (by rw [← k2]; exact h)⟩
theorem asgT_t {g : TG} {t : MT} {md : M D} (hg : TgOk G g t) {D : Ends} {σ : L2.St} {H : Hp} (q : tS G W (sAsgT t md) D σ H) : tAsg (tD G W md) g D σ H := by
  show tD G W md σ H fun v H1 => g v σ H1 D.nx
  refine tS.ex q _ (fun d v c c1 st1 r1 g1 p1 w => ?_)
  cases e : t d st1 with
  | none => rw [e] at w; exact w.elim
  | some s' =>
    rw [e] at w
    have w : Fw G D c .nx s' := w
    exact hg st1 s' σ c1 v d D.nx r1 p1 e (fun σ' c' r' k1 k2 k3 k4 k5 => w σ' c' r' (g1.toGo.trans (go_tg k1 k2 k3 k4 k5)))
theorem s_asgT {tg : Expr} {g : TG} {t : MT} {md : M D} (he : PE X e (tD G W md)) (hg : PG X tg g) (ht : TgOk G g t) (hs : swapsWithSole [tg] e pos.line X.env = pure false := by rfl) (hw : swappedStores [tg] e X.env = pure none := by rfl)
    (h1 : (assignEach [tg] X.env).map (·.2) = [assign tg X.env] := by rfl) : PS X (.Assign [tg] e pos) (tS G W (sAsgT t md)) := (ps_asg he hg hs hw h1).weak fun _ _ _ q => asgT_t ht q
end
end L2.Tr
namespace L2.Tr
open PySem PySem.Spec PyProof.Rows L2 L2.Pc
/-! ### defs -/
abbrev MF := List D → List O → R O
def SpM (G : Gi) (n : Nat) (m : MF) : Sp := fun vs H Q E => ∃ c ds mu, c.H = H ∧ c.fs = [] ∧ Rel G ⟨[], mu⟩ [] c ∧ RpA G c.F c.al vs ds ∧ vs.length = n ∧
  wp (m ds mu) (fun o s' => ∀ v c' fp, Rel G ⟨[], s'.mu⟩ [] c' → Go c c' → OwnT G c'.F c'.al c'.H o v fp → Fresh fp c' → New fp c → Q v c'.H)
    (fun x s' => ∀ v d c', Rel G ⟨[], s'.mu⟩ [] c' → Go c c' → XRp G c' x v d → E v d c'.H)
def env0 (N : Nat) (ds : List D) : List (Option O) := ds.map (fun d => some (.fz d)) ++ List.replicate (N - ds.length) none
/-- a def's body as a function of its arguments -/
def fnM (N : Nat) (body : M Fl) : MF := fun ds mu => match body ⟨env0 N ds, mu⟩ with
  | .ok (.rt o) s => .ok o ⟨[], s.mu⟩
  | .ok .nx s => .ok (.fz .non) ⟨[], s.mu⟩
  | .ok _ _ => .no
  | .exc x s => .exc x ⟨[], s.mu⟩
  | .no => .no
structure FnT (P : Program) (w : World) (G : Gi) (base : Heap) (gb : Bool) (k : Nat) (f : Addr) (fd : FuncData) (ps : List Str) (m : MF) : Prop where
  go : ∀ (A : Around) (outer : List Env) (s : Shared) (H : Hp) (args : Args) (us : List Value)
    (vs : List V) (Q : VK) (E : XK), (gb = true → A.guards = some []) → Room k A → Env0 P w G.K G.mg base A outer s H →
    BindsTo s fd args (ps.zip us) → Vals vs us → SpM G ps.length m vs H Q E →
    codeAny (model P w) A (.call (.ref f) args) (CR (L2.CX P w) outer P w H s Q E) s
section
variable {P : Program} {w : World} {G : Gi} {base : Heap} {gb : Bool} {k j : Nat} {f : Addr} {fd : FuncData} {N ps : List Str} {m m' : MF}
theorem FnT.mono (F : FnT P w G base gb j f fd ps m) (h : j ≤ k) : FnT P w G base gb k f fd ps m :=
  ⟨fun A o s H a us vs Q E g r => F.go A o s H a us vs Q E g (r.mono h)⟩
theorem slots_start {c : Cf} : ∀ {vs : List V} {ds : List D} (n : Nat), RpA G c.F c.al vs ds → Slots G c.F c.al c.H (ds.map (fun d => some (.fz d)) ++ List.replicate n none) (vs.map some ++ List.replicate n none) []
  | _, _, 0, .nil => .nil
  | _, _, n + 1, .nil => by rw [List.replicate_succ, List.replicate_succ]; exact .un (slots_start (vs := []) (ds := []) n .nil)
  | _, _, n, .cons h hs => .so (fp := []) (fq := []) (.fz h) (slots_start n hs)
/-- the def's body, as a term of rules -/
theorem Df.okT {x qual : Str} {st : Stmt} {body : M Fl} (F : Df G.K x qual st f fd) (S : FnScope N ps (defScope st))
    (hb : ∀ (cdv : Value) (A : Around) (outer : List Env) (s : Shared) (H : Hp) (E : XK),
      (gb = true → (A.deeper (envOfC qual (defScope st) s.heap.objs.size f cdv)).guards = some []) →
      Room k (A.deeper (envOfC qual (defScope st) s.heap.objs.size f cdv)) →
      PSs (cxOf (L2.CX P w) P w G.K G.mg base N qual (defScope st) f cdv A outer s H E) (defBody st) (tS G (fun v d _ H => E v d H) body)) :
    FnT P w G base gb (k + 1) f fd ps (fnM N.length body) := by
  obtain ⟨oc, od, dV, kV, doc, pm, an, cdv, ct, osl, rfl, lk, hc⟩ := F.ex
  refine ⟨fun A outer s H args us vs Q E hga hr e0 hbi r hsp => ?_⟩
  obtain ⟨c, ds, mu, rfl, hfs, rl, rp, hlen, h⟩ := hsp
  have kin : G.K.In s.heap := e0.mod.kin.keeps (fun b o e => (e0.bs b o e).1)
  have hlm : s.heap.NoLimit := e0.mod.nolimit.keeps (fun b o e => (e0.bs b o e).1)
  have kinds : ∀ y ∈ ps.zip us, (defScope st).names.lookup y.1 = some .local ∨
      ((defScope st).names.lookup y.1 = some .cell ∧
        ((cellsFrom (s.heap.objs.size + 1) (defScope st).names []).lookup y.1).isSome = true) := by
    rintro ⟨n, v⟩ hy
    rcases S.par n (List.of_mem_zip hy).1 with h1 | h1
    · left; exact h1
    · right; exact ⟨h1, PySem.W.cellsFrom_some _ _ _ (Or.inl h1)⟩
  apply codeAny_call_function hr.depth (kin _ _ lk) rfl S.co S.gen rfl (PySem.W.codeRec_of kin hc) (hbi _ _ _ _ ?_)
  apply wpAny_newFunctionEnv_cells S.kind kinds
  intro env he s1 hx
  subst he
  refine ⟨hlm.keeps hx.toInCall.keep, codeAny_func ?_⟩
  have ht := hb cdv A outer s c.H E (fun z => guards_deep (hga z)) (hr.deeper _)
  have I0 : Inv (cxOf (L2.CX P w) P w G.K G.mg base N qual (defScope st) f cdv A outer s c.H E) [] (start N vs) c.H s1 :=
    inv_start S hr.hd e0 hlen r hx
  have hq : tS G (fun v d _ H => E v d H) body { nx := fun _ H' => Q .non H', rt := Q } (start N vs) c.H := by
    refine ⟨c, ⟨env0 N.length ds, mu⟩, rfl, ⟨rl.sub, rl.own, rl.nds, rl.ndc, rl.dis, ?_, rl.cells⟩, ?_⟩
    · rw [hfs]
      unfold env0 start
      rw [← rp.len]
      exact slots_start _ rp
    · unfold fnM at h
      cases e : body ⟨env0 N.length ds, mu⟩ with
      | no => rw [e] at h; exact h
      | exc x s' =>
        rw [e] at h
        exact fun σ' v d c' r' g' x' => h v d { c' with fs := [] } r'.drop (g'.trans Go.drop) x'
      | ok fl s' =>
        rw [e] at h
        cases fl with
        | rt o => exact fun v c' fp r' g' t f n => h v c' fp r' g' t f n
        | nx => exact fun σ' c' r' g' => h .non { c' with fs := [] } [] r'.drop (g'.trans Go.drop) (.fz .non) (Fresh.nil _) (New.nil _)
        | bk => exact h.elim
        | ct => exact h.elim
  refine wpAny_mono (ht.run [] s1 (start N vs) c.H _ I0 hq) ?_ (fun e s' hs => hs)
  intro fl s' hs
  cases fl with
  | ret u =>
    obtain ⟨v, σ', H', J, rv, q⟩ := hs
    exact ⟨v, H', J.os, J.bare, J.base, J.hok, rv, q⟩
  | next =>
    obtain ⟨σ', H', J, q⟩ := hs
    exact ⟨V.non, H', J.os, J.bare, J.base, J.hok, rfl, q⟩
  | brk => obtain ⟨_, _, _, q⟩ := hs; exact q.elim
  | cont => obtain ⟨_, _, _, q⟩ := hs; exact q.elim
end
/-! ### calls of defs -/
/-- how the written arguments and keywords become the parameters' values -/
structure BdD (K : PySem.W.Frag) (fd : FuncData) (ps : List Str) (n : Nat) (ks : List Str) (gD : List D → List D → List D) : Prop where
  ex : ∃ (g : List Value → List Value → List Value) (gV : List V → List V → List V), KBn K fd ps n ks g gV ∧
    (∀ vs zs, vs.length = n → zs.length = ks.length → (gV vs zs).length = ps.length) ∧
    ∀ (G : Gi) (F : Hp) (al : List Addr) vs zs ds es, RpA G F al vs ds → RpA G F al zs es → vs.length = n → zs.length = ks.length → RpA G F al (gV vs zs) (gD ds es)
structure KnT (P : Program) (w : World) (G : Gi) (base : Heap) (gb : Bool) (x : Str) (k n : Nat) (ks : List Str) (gD : List D → List D → List D) (m : MF) : Prop where
  ex : ∃ (f : Addr) (fd : FuncData) (ps : List Str), FnT P w G base gb k f fd ps m ∧ G.mg x = some (.ref f) ∧ PySem.W.keepIn G.K (.ref f) = true ∧ BdD G.K fd ps n ks gD
/-- a def's function run on trees -/
def runF (m : MF) (ds : List D) : M O := fun s => match m ds s.mu with
  | .ok o s' => .ok o ⟨s.env, s'.mu⟩
  | .exc x s' => .exc x ⟨s.env, s'.mu⟩
  | .no => .no
theorem rel_lift {G : Gi} {st : S} {σ : L2.St} {c c2 : Cf} {mu' : List O} (r : Rel G st σ c) (r2 : Rel G ⟨[], mu'⟩ [] c2) (g : Go { c with fs := [] } c2) :
    Rel G ⟨st.env, mu'⟩ σ { c2 with fs := c.fs } ∧ GoE c { c2 with fs := c.fs } := by
  have there : ∀ a ∈ c.fs, c.H a ≠ none := fun a h => r.there (.inl h)
  have kp : ∀ a ∈ c.fs, c2.H a = c.H a ∧ a ∉ c2.fc := fun a h => by
    obtain ⟨e, _, n⟩ := g.keep (c := { c with fs := [] }) (there a h) (fun z => nomatch z) (r.dis a h)
    exact ⟨e, n⟩
  refine ⟨⟨r2.sub, fun a h => ?_, r.nds, r2.ndc, fun a h => (kp a h).2, r.slots.mo g.mo fun a h => (kp a h).1, r2.cells⟩, ?_⟩
  · rcases h with h | h
    · cases e : c2.F a with
      | none => rfl
      | some o =>
        rcases g.nF a (by rw [e]; exact Option.some_ne_none _) with z | z | z | z
        · exact absurd (r.own a (.inl h)) z
        · cases z
        · exact absurd z (r.dis a h)
        · exact absurd z (r.noNT (.inl h))
    · exact r2.own a (.inr h)
  · exact { mo := g.mo, fr := fun a h h1 h2 => g.fr a h (fun z => nomatch z) h2,
            fp := fun a h => h.elim .inl fun h => (g.fp a (.inr h)).elim (fun z => nomatch z) .inr,
            nF := fun a h => (g.nF a h).elim .inl fun z => z.elim (fun z => nomatch z) fun z => .inr (.inr z),
            hs := fun a h _ => (kp a h).1, sf := fun _ h => h, cf := fun a h k => absurd h (kp a k).2 }
theorem call_t {G : Gi} {W : WX} {m : MF} {st : S} {σ : L2.St} {c : Cf} {vs : List V} {ds : List D} {Q : VK} {n : Nat} (r : Rel G st σ c) (rp : RpA G c.F c.al vs ds) (hn : vs.length = n)
    (h : wp (runF m ds st) (fun o st' => ∀ v c', Rel G st' σ c' → GoE c c' → PrO G o c c' v → Q v c'.H) (xw G W σ c)) : SpM G n m vs c.H Q (WE W σ) := by
  refine ⟨{ c with fs := [] }, ds, st.mu, rfl, rfl, r.drop, rp, hn, ?_⟩
  unfold runF at h
  cases e : m ds st.mu with
  | no => rw [e] at h; exact h
  | exc x s' =>
    rw [e] at h
    intro v d c2 r2 g x2
    obtain ⟨r3, g3⟩ := rel_lift r r2 g
    exact h v d { c2 with fs := c.fs } r3 g3 x2
  | ok o s' =>
    rw [e] at h
    intro v c2 fp r2 g t f nw
    obtain ⟨r3, g3⟩ := rel_lift r r2 g
    refine h v { c2 with fs := c.fs } r3 g3 ⟨fp, t, ⟨f.nd, f.nf, fun a ha hs => ?_, f.nc⟩, fun a ha => ?_⟩
    · rcases nw a ha with z | z | z
      · cases z
      · exact r.dis a hs z
      · exact r.there (.inl hs) z
    · rcases nw a ha with z | z | z
      · cases z
      · exact .inr (.inl z)
      · exact .inr (.inr z)
section
variable {X : Cx} {G : Gi} {W : WX} {gb : Bool} {k n : Nat} {ks : List Str} {gD : List D → List D → List D} {m : MF} {x : Str} {p pos : Pos} {e : Expr} {es : List Expr} {kws : List Keyword} {ma mk : M (List D)}
def xCall (m : MF) (gD : List D → List D → List D) (n k : Nat) (ma mk : M (List D)) : M O := bnd ma fun ds => bnd mk fun es => if ds.length = n ∧ es.length = k then runF m (gD ds es) else fun _ => .no
@[simp] theorem xCall_app (m : MF) (gD : List D → List D → List D) (n k : Nat) (ma mk : M (List D)) (s : S) :
    xCall m gD n k ma mk s = (ma s).bind fun ds s1 => (mk s1).bind fun es => if ds.length = n ∧ es.length = k then runF m (gD ds es) else fun _ => .no := rfl
theorem runT {pins : List (Addr × Obj)} {σ : L2.St} {H : Hp} {s : Shared} {Q : VK} {us ws : List Value} {vs zs : List V}
    {f : Addr} {fd : FuncData} {ps : List Str} {g : List Value → List Value → List Value} {gV : List V → List V → List V} (hK : X.K = G.K) (hM : X.mg = G.mg)
    (F : FnT X.prog X.w G X.base gb k f fd ps m) (hga : gb = true → X.A.guards = some []) (hr : Room k X.A)
    (hb : KBn G.K fd ps n ks g gV) (hx : ∀ σ, PassesAt (L2.CX X.prog X.w) X σ (WE W σ)) (I : Inv X pins σ H s) (r : Vals vs us) (rz : Vals zs ws)
    (hn : vs.length = n) (hm : zs.length = ks.length) (h : SpM G ps.length m (gV vs zs) H Q (WE W σ)) :
    wpAny (model X.prog X.w) X.A (call (.ref f) us (ks.zip ws)) (EP X pins σ Q) X.xe s := by
  have hu : us.length = n := by rw [← r.length]; exact hn
  have hw : ws.length = ks.length := by rw [← rz.length]; exact hm
  apply wpAny_call
  have kin := I.kIn
  rw [hK] at kin
  have env := I.env0
  rw [hK, hM] at env
  refine codeAny_mono (F.go X.A X.stack s H _ (g us ws) (gV vs zs) Q (WE W σ) hga hr env (hb.to s us ws kin hu hw) (hb.rel r rz) h) ?_
  intro res s' hq
  cases res with
  | error er => exact hx σ pins H s er s' I hq
  | ok fl =>
    cases fl with
    | ret u => exact I.after hq
    | next => exact hq.elim
    | brk => exact hq.elim
    | cont => exact hq.elim
/-- the reading of a call -/
theorem call_rd {vs : List V} {ds es' : List D} {zs : List V} {σ : L2.St} {c : Cf} {st : S} {Q : VK} {gV : List V → List V → List V} {ps : List Str}
    (hl : ∀ vs zs, vs.length = n → zs.length = ks.length → (gV vs zs).length = ps.length)
    (hd : ∀ (G : Gi) (F : Hp) (al : List Addr) vs zs ds es, RpA G F al vs ds → RpA G F al zs es → vs.length = n → zs.length = ks.length → RpA G F al (gV vs zs) (gD ds es))
    (r : Rel G st σ c) (r1 : RpA G c.F c.al vs ds) (r2 : RpA G c.F c.al zs es')
    (h : wp ((if ds.length = n ∧ es'.length = ks.length then runF m (gD ds es') else fun _ => .no) st) (fun o st' => ∀ v c', Rel G st' σ c' → GoE c c' → PrO G o c c' v → Q v c'.H) (xw G W σ c)) :
    vs.length = n ∧ zs.length = ks.length ∧ SpM G ps.length m (gV vs zs) c.H Q (WE W σ) := by
  split at h
  · rename_i hc
    have h1 : vs.length = n := by rw [r1.len]; exact hc.1
    have h2 : zs.length = ks.length := by rw [r2.len]; exact hc.2
    exact ⟨h1, h2, call_t r (hd _ _ _ _ _ _ _ r1 r2 h1 h2) (hl _ _ h1 h2) h⟩
  · exact h.elim
theorem x_call (hK : X.K = G.K) (hM : X.mg = G.mg) (F : KnT X.prog X.w G X.base gb x k n ks gD m) (hga : gb = true → X.A.guards = some []) (hr : Room k X.A)
    (hg : Gl X x) (hx : ∀ σ, PassesAt (L2.CX X.prog X.w) X σ (WE W σ)) (ha : PA X (e :: es) (tAs G W ma)) (hkw : PK X kws (tAs G W mk))
    (hall : (backToKw pos (keywordEach kws X.env)).all (·.1.isSome) = true := by rfl)
    (hks : (backToKw pos (keywordEach kws X.env)).filterMap (·.1) = ks := by rfl)
    (hdb : (x == ("__debug__" : Str)) = false := by decide)
    (he : starEach (e :: es) X.env = (false, eval e X.env) :: starEach es X.env := by rfl)
    (hpl : ((backTo pos (starEach (e :: es) X.env)).any (·.1) || (backToKw pos (keywordEach kws X.env)).any (·.1.isNone)) = false := by rfl) :
    PE X (.Call (.Name x p) (e :: es) kws pos) (tO G W (xCall m gD n ks.length ma mk)) := by
  obtain ⟨f, fd, ps, FT, hm, hk, g, gV, hb, hl, hd⟩ := F.ex
  refine ⟨fun pins s σ H Q I q => wpAny_Call_Name_kw (ld_glob I hg (by rw [hM]; exact hm) ?_ hdb)⟩
  apply PySem.W.callWith_KW (h₀ := X.base) I.ok.mod.kin (by rw [hK]; exact hk) hall ?_ hpl he
  refine thn (ha.run pos pins s σ H (fun vs H1 => tAs G W mk σ H1 fun zs H2 => vs.length = n ∧ zs.length = ks.length ∧ SpM G ps.length m (gV vs zs) H2 Q (WE W σ)) I ?_) ?_
  · refine q.seq bkO _ (fun ds vs c c1 st1 r1 g1 p1 w => ?_)
    refine tG.seq1 bkO r1 w _ (fun es' zs c2 st2 r2 g2 p2 w2 => ?_)
    exact call_rd hl hd r2 (p1.mo g2.mo) p2 w2
  · rintro us s1 ⟨vs, H1, I1, r, q⟩
    refine thn (hkw.run pos pins s1 σ H1 _ I1 q) ?_
    rintro ws s2 ⟨zs, H2, I2, rz, q1, q2, q3⟩
    refine ⟨I2.kIn, ?_⟩
    rw [hks]
    exact runT hK hM FT hga hr hb hx I2 r rz q1 q2 q3
end
end L2.Tr
namespace L2.Tr
open PySem PySem.Spec PyProof.Rows L2 L2.Pc
/-! ### what is walked -/
/-- the iterator gives these, whatever the code between does -/
def Srcs (G : Gi) (J : It) (ds : List D) (c0 : Cf) : Prop := ∀ (st : S) (σ : L2.St) (c : Cf), Rel G st σ c → Go c0 c →
  (∀ i d, ds[i]? = some d → J.go i c.H ∧ ∀ x H', J.yld i c.H x H' → ∃ c', c'.H = H' ∧ Rel G st σ c' ∧ GoE c c' ∧ Rp G c'.F c'.al x d) ∧ J.stop ds.length c.H
def PrI (G : Gi) : List D → Cf → Cf → It → Prop := fun ds _ c' J => Srcs G J ds c'
abbrev tI (G : Gi) (W : WX) (mi : M (List D)) : TI := tG G W (PrI G) mi
theorem _root_.L2.PI.weak {X : Cx} {tg e : Expr} {t t' : TI} (h : PI X tg e t) (k : ∀ σ H Q, t' σ H Q → t σ H Q) : PI X tg e t' := ⟨fun pins s σ H Q I q => h.run pins s σ H Q I (k _ _ _ q)⟩
/-- things that may be walked by their places -/
def seqI : D → Option (List D)
  | .lst ds => some ds
  | .lsk ds => some ds
  | .tup ds => some ds
  | .tuk ds => some ds
  | .tun ds => some ds
  | .str s => some (s.cps.toList.map fun c => .str ⟨#[c]⟩)
  | _ => none
def iAny (K : PySem.W.Frag) (te : TE) : TI := fun σ H R => te σ H fun x H1 =>
  (∃ a, x = .ref a ∧ (∃ xs, SqL K H1 a xs) ∧ R (Itl K a) H1) ∨ (∃ a, x = .ref a ∧ (∃ xs, SqT K H1 a xs) ∧ R (Itt K a) H1) ∨ ∃ z, x = .str z ∧ R (Its z) H1
theorem pi_any {X : Cx} {tg l : Expr} {tl : TE} {K : PySem.W.Frag} (hK : X.K = K) (hl : PE X l tl) : PI X tg l (iAny K tl) := by
  subst hK
  refine ⟨fun pins s σ H R I h => ?_⟩
  refine thn (hl.run pins s σ H _ I h) fun v s1 ⟨x, H1, I1, r1, q1⟩ => ?_
  rcases q1 with ⟨a, e, ⟨xs, hq⟩, q⟩ | ⟨a, e, ⟨xs, hq⟩, q⟩ | ⟨z, e, q⟩
  · subst e
    cases r1
    obtain ⟨its, rv, p, hz⟩ := I1.list hq
    refine wpAny_pyIter_list p.isList ?_
    refine ⟨s1.heap.objs.size, [s1.heap.objs.size], _, _, H1, rfl, I1.kept (t' := s1.toks) fun b o e => Heap.get?_push_of_some _ e, turn_list a _, ⟨_, Heap.get?_push_size _ rfl, rfl, rfl⟩, fun b hb => ?_, q⟩
    have e : b = s1.heap.objs.size := by simpa using hb
    subst e
    exact I1.fpOk (Nat.le_refl _) (I1.hok.fresh (Nat.le_refl _))
  · subst e
    cases r1
    obtain ⟨its, rv, p, hz⟩ := I1.tuple hq
    refine wpAny_pyIter_tuple (show s1.heap.IsTuple a its.toArray from p) ?_
    refine ⟨s1.heap.objs.size, [s1.heap.objs.size], _, _, H1, rfl, I1.kept (t' := s1.toks) fun b o e => Heap.get?_push_of_some _ e, turn_tuple a _, ⟨_, Heap.get?_push_size _ rfl, rfl, rfl⟩, fun b hb => ?_, q⟩
    have e : b = s1.heap.objs.size := by simpa using hb
    subst e
    exact I1.fpOk (Nat.le_refl _) (I1.hok.fresh (Nat.le_refl _))
  · subst e
    obtain ⟨t, rfl⟩ := r1
    cases ha : z.cps.all (· < 128)
    · exact wpAny_pyIter_wide ha (pi_one (tk := s1.toks) I1 _ (turn_str _ z t "str_iterator" (.inr rfl)) ⟨_, Heap.get?_push_size _ rfl, rfl, rfl⟩ q)
    · exact wpAny_pyIter_ascii ha (pi_one (tk := s1.toks) I1 _ (turn_str _ z t "str_ascii_iterator" (.inl rfl)) ⟨_, Heap.get?_push_size _ rfl, rfl, rfl⟩ q)
theorem srcs_seq {G : Gi} {st : S} {σ : L2.St} {c : Cf} {v : V} {d : D} {ds : List D} (r : Rel G st σ c) (t : Rp G c.F c.al v d) (e : seqI d = some ds) :
    (∃ a, v = .ref a ∧ (∃ xs, SqL G.K c.H a xs) ∧ Srcs G (Itl G.K a) ds c) ∨ (∃ a, v = .ref a ∧ (∃ xs, SqT G.K c.H a xs) ∧ Srcs G (Itt G.K a) ds c) ∨ ∃ z, v = .str z ∧ Srcs G (Its z) ds c := by
  have lst : ∀ {a : Addr} {xs : List V}, SqL G.K c.F a xs → RpA G c.F c.al xs ds → Srcs G (Itl G.K a) ds c := fun {a xs} h hs st' σ' c2 r2 g2 => by
    have h2 := r2.rdL (sqL_mr g2.mo.mR h)
    refine ⟨fun i d hd => ?_, xs, h2, by rw [hs.len]; exact Nat.le_refl _⟩
    obtain ⟨x, hx, rx⟩ := (hs.mo g2.mo).get hd
    refine ⟨⟨xs, x, h2, hx⟩, fun y H' hy => ?_⟩
    obtain ⟨rfl, hy⟩ := hy
    have := hy xs h2
    rw [hx] at this
    cases this
    exact ⟨c2, rfl, r2, GoE.refl r2, rx⟩
  have tup : ∀ {a : Addr} {xs : List V}, SqT G.K c.F a xs → RpA G c.F c.al xs ds → Srcs G (Itt G.K a) ds c := fun {a xs} h hs st' σ' c2 r2 g2 => by
    have h2 := r2.rdT (sqT_mr g2.mo.mR h)
    refine ⟨fun i d hd => ?_, xs, h2, by rw [hs.len]; exact Nat.le_refl _⟩
    obtain ⟨x, hx, rx⟩ := (hs.mo g2.mo).get hd
    refine ⟨⟨xs, x, h2, hx⟩, fun y H' hy => ?_⟩
    obtain ⟨rfl, hy⟩ := hy
    have := hy xs h2
    rw [hx] at this
    cases this
    exact ⟨c2, rfl, r2, GoE.refl r2, rx⟩
  cases t with
  | lst h hs => cases e; exact .inl ⟨_, rfl, ⟨_, r.rdL (.inl (.inl h))⟩, lst (.inl (.inl h)) hs⟩
  | lsk h hs => cases e; exact .inl ⟨_, rfl, ⟨_, r.rdL h⟩, lst h hs⟩
  | tup h hs => cases e; exact .inr (.inl ⟨_, rfl, ⟨_, r.rdT (.inl (.inl h))⟩, tup (.inl (.inl h)) hs⟩)
  | tuk h hs => cases e; exact .inr (.inl ⟨_, rfl, ⟨_, r.rdT h⟩, tup h hs⟩)
  | tun h k hs => cases e; exact .inr (.inl ⟨_, rfl, ⟨_, r.rdT (sqT_fz h)⟩, tup (sqT_fz h) hs⟩)
  | str s =>
    cases e
    refine .inr (.inr ⟨s, rfl, fun st' σ' c2 r2 g2 => ⟨fun i d hd => ?_, ?_⟩⟩)
    · rw [List.getElem?_map] at hd
      obtain ⟨ch, hc, rfl⟩ := map_some hd
      have hc' : s.cps[i]? = some ch := by rw [← Array.getElem?_toList]; exact hc
      refine ⟨(Array.getElem?_eq_some_iff.mp hc').1, fun y H' hy => ?_⟩
      obtain ⟨rfl, ch', h1, rfl⟩ := hy
      rw [hc'] at h1
      cases h1
      exact ⟨c2, rfl, r2, GoE.refl r2, .str _⟩
    · show s.cps.size ≤ _
      simp
  | _ => cases e
section
variable {X : Cx} {G : Gi} {W : WX} {tg e : Expr} {md : M D} {ma : M (List D)} {p pos : Pos}
def mSeq (md : M D) : M (List D) := bnd md fun d => ofO (seqI d)
@[simp] theorem mSeq_app (md : M D) (s : S) : mSeq md s = (md s).bind fun d => ofO (seqI d) := rfl
theorem xi_any (hK : X.K = G.K) (he : PE X e (tD G W md)) : PI X tg e (tI G W (mSeq md)) := (pi_any hK he).weak fun σ H R q => by
  unfold iAny
  refine q.seq0 _ (fun d v c c1 st1 r1 g1 p1 w => ?_)
  obtain ⟨ds, e1, q⟩ := wp_ofO.mp w
  rcases srcs_seq r1 p1 e1 with ⟨a, rfl, h1, h2⟩ | ⟨a, rfl, h1, h2⟩ | ⟨z, rfl, h2⟩
  · exact .inl ⟨a, rfl, h1, q _ c1 r1 g1 h2⟩
  · exact .inr (.inl ⟨a, rfl, h1, q _ c1 r1 g1 h2⟩)
  · exact .inr (.inr ⟨z, rfl, q _ c1 r1 g1 h2⟩)
/-- range -/
def rngL (i : Int) (n : Nat) : List D := (List.range n).map fun k : Nat => .int (i + (k : Int))
def rng1 : List D → Option (List D)
  | [.int j] => if j < 2 ^ 62 ∧ -(2 ^ 62) ≤ j then some (rngL 0 j.toNat) else none
  | _ => none
def rng2 : List D → Option (List D)
  | [.int i, .int j] => if (-(2 ^ 62) ≤ i ∧ i < 2 ^ 62) ∧ -(2 ^ 62) ≤ j ∧ j < 2 ^ 62 then some (rngL i (j - i).toNat) else none
  | _ => none
theorem srcs_rng {c : Cf} {i : Int} {n : Nat} : Srcs G (Itr i n) (rngL i n) c := fun st σ c2 r2 g2 => by
  refine ⟨fun k d hd => ?_, by unfold rngL; rw [List.length_map, List.length_range]; exact Nat.le_refl _⟩
  unfold rngL at hd
  rw [List.getElem?_map] at hd
  obtain ⟨j, hj, rfl⟩ := map_some hd
  obtain ⟨hk, rfl⟩ : k < n ∧ k = j := by
    have h1 := (List.getElem?_eq_some_iff.mp hj)
    obtain ⟨h1, h2⟩ := h1
    rw [List.length_range] at h1
    rw [List.getElem_range] at h2
    exact ⟨h1, h2⟩
  refine ⟨hk, fun y H' hy => ?_⟩
  obtain ⟨rfl, rfl⟩ := hy
  exact ⟨c2, rfl, r2, GoE.refl r2, .int _⟩
theorem rp_ints1 {F : Hp} {al : List Addr} {vs : List V} {i : Int} (h : RpA G F al vs [.int i]) : vs = [.int i] := by
  cases h with
  | cons h hs => cases h; cases hs; rfl
def mRng1 (ma : M (List D)) : M (List D) := bnd ma fun ds => ofO (rng1 ds)
def mRng2 (ma : M (List D)) : M (List D) := bnd ma fun ds => ofO (rng2 ds)
@[simp] theorem mRng1_app (ma : M (List D)) (s : S) : mRng1 ma s = (ma s).bind fun ds => ofO (rng1 ds) := rfl
@[simp] theorem mRng2_app (ma : M (List D)) (s : S) : mRng2 ma s = (ma s).bind fun ds => ofO (rng2 ds) := rfl
theorem xi_range1 {a : Expr} (hg : Gl X "range") (hm : X.mg "range" = none) (ha : PA X [a] (tAs G W ma)) (hs : starEach [a] X.env = [(false, eval a X.env)] := by rfl) :
    PI X tg (.Call (.Name "range" p) [a] [] pos) (tI G W (mRng1 ma)) := (pi_range1 hg hm ha hs).weak fun σ H R q => by
  unfold iRng1
  refine q.seq0 _ (fun ds vs c c1 st1 r1 g1 p1 w => ?_)
  obtain ⟨l, e1, q⟩ := wp_ofO.mp w
  unfold rng1 at e1
  split at e1
  · split at e1
    · rename_i h
      cases e1
      exact ⟨_, rp_ints1 p1, h.2, h.1, q _ c1 r1 g1 srcs_rng⟩
    · cases e1
  · cases e1
end
/-! ### for -/
def forL (t : MT) (mb : M Fl) : List D → M Fl
  | [] => ret .nx
  | d :: ds => fun s => match t d s with
    | none => .no
    | some s1 => (mb s1).bind fun f => match f with
      | .nx => forL t mb ds
      | .ct => forL t mb ds
      | .bk => ret .nx
      | .rt o => ret (.rt o)
def sFor (mi : M (List D)) (t : MT) (mb : M Fl) : M Fl := bnd mi fun ds => forL t mb ds
@[simp] theorem sFor_app (mi : M (List D)) (t : MT) (mb : M Fl) (s : S) : sFor mi t mb s = (mi s).bind fun ds => forL t mb ds := rfl
section
variable {X : Cx} {G : Gi} {W : WX} {tg iter : Expr} {body : List Stmt} {mi : M (List D)} {t : MT} {mb : M Fl} {g : TG} {pos : Pos}
theorem for_t (ht : TgOk G g t) {D' : Ends} {σ : L2.St} {H : Hp} (q : tS G W (sFor mi t mb) D' σ H) : tFor (tI G W mi) g (tS G W mb) D' σ H := by
  show tI G W mi σ H fun J H1 => ∃ W' : Nat → Nat → L2.St → Hp → Prop, (∃ m, W' 0 m σ H1) ∧ ∀ i m σ H, W' i m σ H →
    (J.stop i H ∧ D'.nx σ H) ∨ (J.go i H ∧ ∃ N : L2.St → Hp → Prop, (∀ σ' H', N σ' H' → ∃ m', m' < m ∧ W' (i + 1) m' σ' H') ∧ ∀ x H', J.yld i H x H' → g x σ H' fun σ2 H2 => tS G W mb { D' with nx := N, ct := N, bk := D'.nx } σ2 H2)
  refine tS.ex q _ (fun ds J c c1 st1 r1 g1 src w => ?_)
  have w := wpS_go g1.toGo w
  refine ⟨fun i m σ' H' => m = ds.length - i ∧ i ≤ ds.length ∧ ∃ c2 st2, c2.H = H' ∧ Rel G st2 σ' c2 ∧ Go c1 c2 ∧ wp (forL t mb (ds.drop i) st2) (Fw G D' c1) (xs G W c1),
    ⟨ds.length, rfl, Nat.zero_le _, c1, st1, rfl, r1, Go.rfl', w⟩, ?_⟩
  rintro i m σ' H' ⟨rfl, hi, c2, st2, rfl, r2, g2, w2⟩
  obtain ⟨s1, s2⟩ := src st2 σ' c2 r2 g2
  rcases Nat.lt_or_ge i ds.length with hl | hl
  · refine .inr ?_
    have hd := List.getElem?_eq_getElem hl
    obtain ⟨go, yl⟩ := s1 i _ hd
    refine ⟨go, fun σ'' H'' => ∃ c3 st3, c3.H = H'' ∧ Rel G st3 σ'' c3 ∧ Go c1 c3 ∧ wp (forL t mb (ds.drop (i + 1)) st3) (Fw G D' c1) (xs G W c1),
      fun σ'' H'' ⟨c3, st3, e, r, g, w⟩ => ⟨ds.length - (i + 1), by omega, rfl, hl, c3, st3, e, r, g, w⟩, fun x H'' hy => ?_⟩
    obtain ⟨c3, rfl, r3, g3, rx⟩ := yl x H'' hy
    rw [List.drop_eq_getElem_cons hl] at w2
    rw [forL] at w2
    dsimp only at w2
    cases e : t ds[i] st2 with
    | none => rw [e] at w2; exact w2.elim
    | some st3 =>
      rw [e] at w2
      refine ht st2 st3 σ' c3 x ds[i] _ r3 rx e (fun σ4 c4 r4 k1 k2 k3 k4 k5 => ?_)
      have g4 : Go c1 c4 := (g2.trans g3.toGo).trans (go_tg k1 k2 k3 k4 k5)
      refine tS.at r4 (wpS_go g4 (wp_mono (wp_bind.mp w2) (fun f st5 w5 => ?_) (fun _ _ h => h)))
      cases f with
      | nx => exact fun σ5 c5 r5 g5 => ⟨c5, st5, rfl, r5, g5, w5⟩
      | ct => exact fun σ5 c5 r5 g5 => ⟨c5, st5, rfl, r5, g5, w5⟩
      | bk => exact w5
      | rt o => exact w5
  · have e : i = ds.length := by omega
    subst e
    refine .inl ⟨s2, ?_⟩
    rw [List.drop_length] at w2
    exact w2 σ' c2 r2 g2
theorem s_for (hp : PassesOwn (model X.prog X.w) X.A X.env X.xe) (hc : X.calm = true) (hi : PI X tg iter (tI G W mi)) (hg : PG X tg g) (ht : TgOk G g t) (hb : PSs X body (tS G W mb))
    (hs : ∀ x, foldedSetIterable iter X.env x = pure x := by intro _; rfl) : PS X (.For tg iter body [] pos) (tS G W (sFor mi t mb)) := (ps_for hp hc hi hg hb hs).weak fun _ _ _ q => for_t ht q
end
/-! ### while, with so many turns at most -/
end L2.Tr
namespace L2.Tr
open PySem PySem.Spec PyProof.Rows L2 L2.Pc
/-! ### list comprehensions -/
/-- the comprehension's own slots forgotten -/
def wipeE (env : List (Option O)) : List Nat → List (Option O)
  | [] => env
  | v :: vs => setS (wipeE env vs) v none
/-- .. put back as they were -/
def backE (old new : List (Option O)) : List Nat → List (Option O)
  | [] => new
  | v :: vs => backE old (setS new v (getS old v)) vs
/-- nothing is owned there -/
def freeE (env : List (Option O)) : List Nat → Bool
  | [] => true
  | v :: vs => (match getS env v with
    | some o => isFz o
    | none => true) && freeE env vs
/-- the turns of a comprehension -/
def lcL (vs : List Nat) (t : MT) (mt : M Bool) (me : M D) : List D → M (List D)
  | [] => ret []
  | d :: ds => fun s => match t d s with
    | none => .no
    | some s1 => (mt s1).bind fun b s2 =>
      if b = true then (me s2).bind (fun y s3 => if freeE s3.env vs = true then (lcL vs t mt me ds ⟨wipeE s3.env vs, s3.mu⟩).bind fun ys => ret (y :: ys) else .no)
      else if freeE s2.env vs = true then lcL vs t mt me ds ⟨wipeE s2.env vs, s2.mu⟩ else .no
def noExc {α : Type} (r : R α) : R α := match r with
  | .exc _ _ => .no
  | r => r
def xLc (vs : List Nat) (mi : M (List D)) (t : MT) (mt : M Bool) (me : M D) : M O := bnd mi fun ds s => if freeE s.env vs = true ∧ ds.length ≤ 16777216 then
  (noExc (lcL vs t mt me ds ⟨wipeE s.env vs, s.mu⟩)).bind fun ys s2 => .ok (.lst ys) ⟨backE s.env s2.env vs, s2.mu⟩ else .no
@[simp] theorem xLc_app (vs : List Nat) (mi : M (List D)) (t : MT) (mt : M Bool) (me : M D) (s : S) : xLc vs mi t mt me s = (mi s).bind fun ds s => if freeE s.env vs = true ∧ ds.length ≤ 16777216 then
  (noExc (lcL vs t mt me ds ⟨wipeE s.env vs, s.mu⟩)).bind fun ys s2 => .ok (.lst ys) ⟨backE s.env s2.env vs, s2.mu⟩ else .no := rfl
def noW : WX := fun _ _ _ _ => False
section
variable {G : Gi}
/-- a slot that owns nothing set to nothing -/
theorem slots_clear {F H : Hp} {al : List Addr} : ∀ {env : List (Option O)} {σ : L2.St} {fp : List Addr} (i : Nat), Slots G F al H env σ fp →
    (match getS env i with
      | some o => isFz o = true
      | none => True) → ∀ x, Slots G F al H (setS env i none) (σ.set i x) fp
  | _, _, _, i, .nil, _, x => by cases i <;> exact .nil
  | _, _, _, 0, .un h, _, x => .un h
  | _, _, _, i + 1, .un h, k, x => .un (slots_clear i h k x)
  | _, _, _, 0, .so (fp := fp) h hs, k, x => by
    obtain ⟨rfl, _⟩ := own_fz h k
    exact .un hs
  | _, _, _, i + 1, .so h hs, k, x => .so h (slots_clear i hs k x)
theorem getS_set_ne : ∀ {env : List (Option O)} {i j : Nat} {x : Option O}, i ≠ j → getS (setS env i x) j = getS env j
  | [], _, _, _, _ => rfl
  | _ :: _, 0, 0, _, h => absurd rfl h
  | _ :: _, 0, _ + 1, _, _ => rfl
  | _ :: _, _ + 1, 0, _, _ => rfl
  | _ :: l, i + 1, j + 1, x, h => getS_set_ne (env := l) (fun e => h (by rw [e]))
theorem getS_set_none : ∀ {env : List (Option O)} {i : Nat}, getS (setS env i none) i = none
  | [], i => by cases i <;> rfl
  | _ :: _, 0 => rfl
  | _ :: l, i + 1 => getS_set_none (env := l)
theorem wipe_get {env : List (Option O)} : ∀ {vs : List Nat} {i : Nat}, getS (wipeE env vs) i = none ∨ getS (wipeE env vs) i = getS env i
  | [], _ => .inr rfl
  | v :: vs, i => by
    by_cases h : v = i
    · subst h; exact .inl getS_set_none
    · show getS (setS (wipeE env vs) v none) i = none ∨ getS (setS (wipeE env vs) v none) i = _
      rw [getS_set_ne h]; exact wipe_get
theorem slots_wipe {F H : Hp} {al : List Addr} {env : List (Option O)} {σ : L2.St} {fp : List Addr} (h : Slots G F al H env σ fp) : ∀ {vs : List Nat}, freeE env vs = true → Slots G F al H (wipeE env vs) (wipe σ vs) fp
  | [], _ => h
  | v :: vs, k => by
    unfold freeE at k
    rw [Bool.and_eq_true] at k
    refine slots_clear v (slots_wipe h k.2) ?_ none
    rcases wipe_get (env := env) (vs := vs) (i := v) with e | e
    · rw [e]; trivial
    · rw [e]
      have k1 := k.1
      cases e2 : getS env v with
      | none => trivial
      | some o => rw [e2] at k1; exact k1
theorem wipe_none {env : List (Option O)} : ∀ {vs : List Nat} {i : Nat}, i ∈ vs → getS (wipeE env vs) i = none
  | v :: vs, i, h => by
    by_cases e : v = i
    · subst e; exact getS_set_none
    · show getS (setS (wipeE env vs) v none) i = none
      rw [getS_set_ne e]
      exact wipe_none ((List.mem_cons.mp h).resolve_left fun z => e z.symm)
def BackOk (G : Gi) (F : Hp) (al : List Addr) (H : Hp) (τ : L2.St) (v : Nat) : Option O → Prop
  | some o => ∃ x, τ[v]? = some (some x) ∧ OwnT G F al H o x []
  | none => True
theorem slots_back {F H : Hp} {al : List Addr} : ∀ {env : List (Option O)} {τ : L2.St} {fp : List Addr} (v : Nat) (o : Option O), Slots G F al H env (τ.set v none) fp → getS env v = none →
    BackOk G F al H τ v o → Slots G F al H (setS env v o) τ fp
  | [], τ, _, v, o, h, _, k => by
    cases τ with
    | nil => cases h; exact .nil
    | cons x τ => cases v <;> cases h
  | e :: env, τ, _, 0, o, h, e0, k => by
    cases τ with
    | nil => cases h
    | cons x τ =>
      obtain rfl : e = none := e0
      cases h with
      | un h =>
        cases o with
        | none => exact .un h
        | some o =>
          obtain ⟨y, e2, t⟩ := k
          obtain rfl : x = some y := by simpa using e2
          exact .so (fp := []) t h
  | e :: env, τ, _, v + 1, o, h, e0, k => by
    cases τ with
    | nil => cases h
    | cons x τ =>
      have k' : BackOk G F al H τ v o := by
        cases o with
        | none => trivial
        | some o => obtain ⟨y, e2, t⟩ := k; exact ⟨y, by simpa using e2, t⟩
      cases h with
      | un h => exact .un (slots_back v o h e0 k')
      | so h hs => exact .so h (slots_back v o hs e0 k')
theorem wipe_at {σ : L2.St} : ∀ {vs : List Nat} {v : Nat}, v ∉ vs → (wipe σ vs)[v]? = σ[v]?
  | [], _, _ => rfl
  | u :: vs, v, h => by
    rw [List.mem_cons, not_or] at h
    show ((wipe σ vs).set u none)[v]? = _
    rw [List.getElem?_set_ne (fun e => h.1 e.symm)]
    exact wipe_at h.2
/-- the def's slots put back behind a comprehension -/
theorem slots_home {F0 H0 F H : Hp} {al0 al : List Addr} {env : List (Option O)} {σ : L2.St} {f0 fp : List Addr} (h0 : Slots G F0 al0 H0 env σ f0) (m : Mo F0 F al0 al) :
    ∀ {vs : List Nat} {env2 : List (Option O)}, vs.Nodup → freeE env vs = true → (∀ v ∈ vs, getS env2 v = none) → Slots G F al H env2 (wipe σ vs) fp → Slots G F al H (backE env env2 vs) σ fp
  | [], _, _, _, _, h => h
  | v :: vs, env2, nd, fr, hn, h => by
    obtain ⟨n1, n2⟩ := List.nodup_cons.mp nd
    unfold freeE at fr
    rw [Bool.and_eq_true] at fr
    refine slots_home h0 m (vs := vs) n2 fr.2 (fun u hu => ?_) (slots_back v (getS env v) h (hn v List.mem_cons_self) ?_)
    · rw [getS_set_ne (fun e => n1 (by rw [e]; exact hu))]
      exact hn u (List.mem_cons_of_mem _ hu)
    · cases e : getS env v with
      | none => trivial
      | some o =>
        have f1 := fr.1
        rw [e] at f1
        obtain ⟨x, g1, g2, g3, q1, q2, q3⟩ := slots_get h0 e
        obtain ⟨rfl, rp⟩ := own_fz q2 f1
        refine ⟨x, by rw [wipe_at n1]; exact q1, ?_⟩
        cases o with
        | fz d => rw [O.toD] at rp; exact .fz (rp.mo m)
        | _ => cases f1
/-- an object of our own written -/
theorem rel_own {st : S} {σ : L2.St} {c : Cf} {p : Addr} {o : HO} (r : Rel G st σ c) (f : Fresh [p] c) : Rel G st σ (c.new p o) := by
  have m := List.mem_singleton_self p
  have ne : ∀ a, a ≠ p → upd c.H p o a = c.H a := fun a n => upd_ne n
  refine ⟨fun a u e => ?_, r.own, r.nds, r.ndc, r.dis, r.slots.mo (Mo.refl _ _) fun a ha => ne a (fun e => f.ns p m (e ▸ ha)), r.cells.mo (Mo.refl _ _) fun a ha => ne a (fun e => f.nc p m (e ▸ ha))⟩
  show upd c.H p o a = some u
  rw [ne a (fun z => by subst z; have e : c.F a = some u := e; rw [f.nf a m] at e; cases e)]
  exact r.sub a u e
theorem goE_own {c0 c : Cf} {p : Addr} {o : HO} (g : GoE c0 c) (h : c0.H p = none) : GoE c0 (c.new p o) where
  mo := g.mo
  fr := fun a n h1 h2 => (upd_ne (fun e => n (by rw [e]; exact h))).trans (g.fr a n h1 h2)
  fp := g.fp
  nF := g.nF
  hs := fun a h1 n => (upd_ne (fun e => n (by rw [e]; exact h))).trans (g.hs a h1 n)
  sf := g.sf
  cf := g.cf
theorem goE_tg {st : S} {σ : L2.St} {c c' : Cf} (r : Rel G st σ c) (k1 : c'.H = c.H) (k2 : c'.F = c.F) (k3 : c'.al = c.al) (k4 : c'.fc = c.fc) (k5 : ∀ a ∈ c'.fs, a ∈ c.fs) : GoE c c' :=
  { go_tg k1 k2 k3 k4 k5 with hs := fun a _ _ => by rw [k1], sf := k5, cf := fun a h k => absurd (by rw [← k4]; exact h) (r.dis a k) }
/-- a target that fills the comprehension's own slots alone -/
def TgW (G : Gi) (g : TG) (t : MT) (vs : List Nat) : Prop := ∀ (st st' : S) (σ : L2.St) (c : Cf) (v : V) (d : D) (Q : L2.St → Hp → Prop), Rel G st σ c → Rp G c.F c.al v d → t d st = some st' →
  (∀ σ' c', wipe σ' vs = wipe σ vs → Rel G st' σ' c' → c'.H = c.H → c'.F = c.F → c'.al = c.al → c'.fc = c.fc → (∀ a ∈ c'.fs, a ∈ c.fs) → Q σ' c'.H) → g v σ c.H Q
theorem wipe_set {σ : L2.St} {i : Nat} {x : Option V} : ∀ {vs : List Nat}, i ∈ vs → wipe (σ.set i x) vs = wipe σ vs
  | v :: vs, h => by
    show (wipe (σ.set i x) vs).set v none = (wipe σ vs).set v none
    by_cases e : i ∈ vs
    · rw [wipe_set e]
    · obtain rfl : i = v := (List.mem_cons.mp h).resolve_right e
      have : ∀ (vs : List Nat) (τ : L2.St), i ∉ vs → wipe (τ.set i x) vs = (wipe τ vs).set i x := by
        intro vs
        induction vs with
        | nil => intro _ _; rfl
        | cons u vs ih =>
          intro τ hn
          rw [List.mem_cons, not_or] at hn
          show (wipe (τ.set i x) vs).set u none = ((wipe τ vs).set u none).set i x
          rw [ih τ hn.2, List.set_comm _ _ hn.1]
      rw [this vs σ e, List.set_set]
theorem tw_name {i : Nat} {vs : List Nat} (hi : i ∈ vs) : TgW G (gName i) (gN i) vs := by
  intro st st' σ c v d Q r h e q
  cases e
  obtain ⟨c', e, r', g', eF, eA, hs, hc⟩ := rel_put (i := i) r (.fz h) (Fresh.nil _) (Go.rfl' (c := c)) (New.nil _)
  show Q (σ.set i (some v)) c.H
  rw [← e]
  exact q _ c' (wipe_set hi) r' e eF eA hc (fun a ha => Classical.byContradiction fun z => hs a (fun k => nomatch k) z ha)
theorem gsN_len : ∀ {ts : List MT} {ds : List D} {s s' : S}, gsN ts ds s = some s' → ts.length = ds.length
  | [], [], _, _, _ => rfl
  | [], _ :: _, _, _, h => by cases h
  | _ :: _, [], _, _, h => by cases h
  | t :: ts, d :: ds, s, s', h => by
    obtain ⟨s1, _, h2⟩ := bind_some (show (t d s).bind (gsN ts ds) = some s' from h)
    rw [List.length_cons, List.length_cons, gsN_len h2]
theorem wp_noExc {α : Type} {r : R α} {Q : α → S → Prop} {E : Exc → S → Prop} (h : wp (noExc r) Q E) : wp r Q (fun _ _ => False) := by
  cases r with
  | ok a s => exact h
  | exc x s => exact h.elim
  | no => exact h
theorem lc_t {W : WX} {vs : List Nat} {mi : M (List D)} {t : MT} {mt : M Bool} {me : M D} {g : TG} (nd : vs.Nodup) (ht : TgW G g t vs) {σ : L2.St} {H : Hp} {Q : VK} (q : tO G W (xLc vs mi t mt me) σ H Q) :
    tLc (tI G W mi) g (tTs G noW mt) (tD G noW me) vs σ H Q := by
  show tI G W mi σ H fun J H1 => ∀ L, H1 L = none → ∃ W' : Nat → Nat → Hp → Prop, (∃ m, W' 0 m (upd H1 L (.lst []))) ∧ ∀ i m H, W' i m H →
    (J.stop i H ∧ Q (.ref L) H) ∨ (J.go i H ∧ ∃ Nx : Hp → Prop, (∀ H', Nx H' → ∃ m', m' < m ∧ W' (i + 1) m' H') ∧ ∀ x H', J.yld i H x H' → g x (wipe σ vs) H' fun σ2 H2 => wipe σ2 vs = wipe σ vs ∧ tTs G noW mt σ2 H2 fun b H3 =>
    if b = true then tD G noW me σ2 H3 fun y H4 => ∃ acc, H4 L = some (.lst acc) ∧ acc.length < sizeLine ∧ Nx (upd H4 L (.lst (acc ++ [y]))) else Nx H3)
  refine q.seq bkO _ (fun ds J c0 c1 st1 r1 g1 src w => ?_)
  split at w
  · rename_i hfr
    obtain ⟨hfr, hlen⟩ := hfr
    have w := wp_noExc (wp_bind.mp w |> fun h => h)
    intro L hL
    -- the state within
    have rw1 : Rel G ⟨wipeE st1.env vs, st1.mu⟩ (wipe σ vs) c1 := ⟨r1.sub, r1.own, r1.nds, r1.ndc, r1.dis, slots_wipe r1.slots hfr, r1.cells⟩
    have rn := rw1.new (o := .lst []) hL
    refine ⟨fun i m H' => m = ds.length - i ∧ i ≤ ds.length ∧ ∃ c2 st2 accV accD, c2.H = H' ∧ Rel G st2 (wipe σ vs) c2 ∧ (∃ e, st2.env = wipeE e vs) ∧ GoE c1 c2 ∧ Fresh [L] c2 ∧ c2.H L = some (.lst accV) ∧
        RpA G c2.F c2.al accV accD ∧ accV.length ≤ i ∧ wp (lcL vs t mt me (ds.drop i) st2) (fun ys s2 => ∀ u c', Rel G ⟨backE st1.env s2.env vs, s2.mu⟩ σ c' → GoE c1 c' → PrO G (.lst (accD ++ ys)) c1 c' u → Q u c'.H) (fun _ _ => False),
      ⟨ds.length, rfl, Nat.zero_le _, c1.new L (.lst []), _, [], [], rfl, rn, ⟨_, rfl⟩, GoE.new rw1 hL, Fresh.new rw1 hL, upd_same, .nil, Nat.le_refl _, w⟩, ?_⟩
    rintro i m H' ⟨rfl, hi, c2, st2, accV, accD, rfl, r2, ⟨env2, he2⟩, g2, f2, hL2, ra, hacc, w2⟩
    obtain ⟨s1, s2⟩ := src st2 (wipe σ vs) c2 r2 g2.toGo
    rcases Nat.lt_or_ge i ds.length with hl | hl
    · refine .inr ?_
      have hd := List.getElem?_eq_getElem hl
      obtain ⟨go, yl⟩ := s1 i _ hd
      have mL := List.mem_singleton_self L
      -- the next turn
      refine ⟨go, fun H'' => ∃ c3 st3 accV3 accD3, c3.H = H'' ∧ Rel G st3 (wipe σ vs) c3 ∧ (∃ e, st3.env = wipeE e vs) ∧ GoE c1 c3 ∧ Fresh [L] c3 ∧ c3.H L = some (.lst accV3) ∧
          RpA G c3.F c3.al accV3 accD3 ∧ accV3.length ≤ i + 1 ∧ wp (lcL vs t mt me (ds.drop (i + 1)) st3) (fun ys s2 => ∀ u c', Rel G ⟨backE st1.env s2.env vs, s2.mu⟩ σ c' → GoE c1 c' → PrO G (.lst (accD3 ++ ys)) c1 c' u → Q u c'.H) (fun _ _ => False),
        fun H'' ⟨c3, st3, a3, d3, q⟩ => ⟨ds.length - (i + 1), by omega, rfl, hl, c3, st3, a3, d3, q⟩, fun x H'' hy => ?_⟩
      obtain ⟨c3, rfl, r3, g3, rx⟩ := yl x H'' hy
      rw [List.drop_eq_getElem_cons hl, lcL] at w2
      dsimp only at w2
      cases e : t ds[i] st2 with
      | none => rw [e] at w2; exact w2.elim
      | some st4 =>
        rw [e] at w2
        refine ht st2 st4 (wipe σ vs) c3 x ds[i] _ r3 rx e (fun σ4 c4 hw r4 k1 k2 k3 k4 k5 => ?_)
        have wid : wipe (wipe σ vs) vs = wipe σ vs := by
          have : ∀ vs' : List Nat, (∀ v ∈ vs', v ∈ vs) → wipe (wipe σ vs') vs = wipe σ vs := by
            intro vs'
            induction vs' with
            | nil => intro _; rfl
            | cons u vs' ih => intro h; show wipe ((wipe σ vs').set u none) vs = _; rw [wipe_set (h u List.mem_cons_self)]; exact ih fun v hv => h v (List.mem_cons_of_mem _ hv)
          exact this vs fun _ h => h
        rw [wid] at hw
        have g4 : GoE c2 c4 := g3.trans (goE_tg r3 k1 k2 k3 k4 k5)
        have noe : ∀ {c' : Cf} (x : Exc) (s : S), False → xw G noW σ4 c' x s := fun _ _ z => z.elim
        refine ⟨hw, tG.at r4 (wp_mono (wp_bind.mp w2) (fun b st5 w5 v c5 r5 g5 p5 => ?_) (fun x s z => z.elim))⟩
        obtain rfl : v = b := p5
        -- the list is as it was
        have keepL : ∀ {c' : Cf}, GoE c2 c' → Fresh [L] c' ∧ c'.H L = some (.lst accV) := fun {c'} gg => by
          obtain ⟨fa, fb⟩ := f2.go (fun a ha => by rw [List.mem_singleton.mp ha, hL2]; rintro (z | ⟨_, z⟩) <;> cases z) gg.toGo
          exact ⟨fa, (fb L mL).trans hL2⟩
        cases v with
        | false =>
          rw [if_neg (by decide)] at w5 ⊢
          split at w5
          · rename_i hf5
            have gg := g4.trans g5
            obtain ⟨fa, fb⟩ := keepL gg
            have rw5 : Rel G ⟨wipeE st5.env vs, st5.mu⟩ (wipe σ vs) c5 := by
              rw [← hw]
              exact ⟨r5.sub, r5.own, r5.nds, r5.ndc, r5.dis, slots_wipe r5.slots hf5, r5.cells⟩
            exact ⟨c5, _, accV, accD, rfl, rw5, ⟨_, rfl⟩, g2.trans gg, fa, fb, ra.mo gg.mo, by omega, w5⟩
          · exact w5.elim
        | true =>
          rw [if_pos rfl] at w5 ⊢
          refine tG.at r5 (wp_mono (wp_bind.mp w5) (fun y st6 w6 u c6 r6 g6 p6 => ?_) (fun x s z => z.elim))
          split at w6
          · rename_i hf6
            have gg := (g4.trans g5).trans g6
            obtain ⟨fa, fb⟩ := keepL gg
            have rw6 : Rel G ⟨wipeE st6.env vs, st6.mu⟩ (wipe σ vs) c6 := by
              rw [← hw]
              exact ⟨r6.sub, r6.own, r6.nds, r6.ndc, r6.dis, slots_wipe r6.slots hf6, r6.cells⟩
            refine ⟨accV, fb, by rw [szl]; omega, c6.new L (.lst (accV ++ [u])), _, accV ++ [u], accD ++ [y], rfl, rel_own rw6 fa, ⟨_, rfl⟩, goE_own (g2.trans gg) hL, ⟨fa.nd, fa.nf, fa.ns, fa.nc⟩, upd_same,
              (ra.mo gg.mo).app (.cons p6 .nil), by rw [List.length_append, List.length_singleton]; omega, ?_⟩
            refine wp_mono (wp_bind.mp w6) (fun ys s7 w7 => ?_) (fun x s z => z.elim)
            have w7 : ∀ u c', Rel G ⟨backE st1.env s7.env vs, s7.mu⟩ σ c' → GoE c1 c' → PrO G (.lst (accD ++ (y :: ys))) c1 c' u → Q u c'.H := w7
            rw [List.append_assoc]
            exact w7
          · exact w6.elim
    · have e : i = ds.length := by omega
      subst e
      refine .inl ⟨s2, ?_⟩
      rw [List.drop_length] at w2
      have w2 : ∀ u c', Rel G ⟨backE st1.env st2.env vs, st2.mu⟩ σ c' → GoE c1 c' → PrO G (.lst (accD ++ [])) c1 c' u → Q u c'.H := w2
      rw [List.append_nil] at w2
      refine w2 _ c2 ⟨r2.sub, r2.own, r2.nds, r2.ndc, r2.dis, ?_, r2.cells⟩ g2 ⟨[L], .lst hL2 ra, f2, New.new hL⟩
      exact slots_home r1.slots g2.mo nd hfr (fun v hv => by rw [he2]; exact wipe_none hv) r2.slots
  · exact w.elim
section
variable {X : Cx} {W : WX} {elt tg iter : Expr} {ifs : List Expr} {scope : Scope} {own : List (Str × Nat)} {vs : List Nat} {pos : Pos} {mi : M (List D)} {t : MT} {mt : M Bool} {me : M D} {g : TG}
theorem xts_nil : PTs X [] (tTs G W (ret true)) := by
  refine ⟨fun pins s σ H Q I q => (pts_nil (X := X)).run pins s σ H Q I ?_⟩
  obtain ⟨c, st, rfl, r, h⟩ := q
  exact h true c r (GoE.refl r) rfl
theorem x_lc (hv : own.map (·.2) = vs) (nd : vs.Nodup) (hc : X.calm = true) (hN : X.N.Nodup) (hi : PI X tg iter (tI G W mi)) (ok : BlkOk X.N X.env.scope scope own) (htg : TgW G g t vs)
    (hg : ∀ (s : Shared) (H : Hp) (C : Addr) (cl : List (Str × Addr)) (fp : List Addr), PG (X.blk s H scope (compEnvC scope cl C X.env) fp) tg g) (ht : ∀ (s : Shared) (H : Hp) (C : Addr) (cl : List (Str × Addr)) (fp : List Addr), PTs (X.blk s H scope (compEnvC scope cl C X.env) fp) ifs (tTs G noW mt))
    (he : ∀ (s : Shared) (H : Hp) (C : Addr) (cl : List (Str × Addr)) (fp : List Addr), PE (X.blk s H scope (compEnvC scope cl C X.env) fp) elt (tD G noW me)) (hs : ∀ x, foldedSetIterable iter X.env x = pure x := by intro _; rfl) :
    PE X (.ListComp elt [⟨tg, iter, ifs, 0⟩] scope pos) (tO G W (xLc vs mi t mt me)) := (pe_lcM hv hc hN hi ok hg ht he hs).weak fun _ _ _ q => lc_t nd htg q
theorem s_setLc {i : Nat} {y : Str} {py spos : Pos} (hv : own.map (·.2) = vs) (nd : vs.Nodup) (hc : X.calm = true) (hN : X.N.Nodup) (hy : X.N[i]? = some y) (hyl : X.env.scope.names.lookup y = some .local)
    (hsw : swapsWith (.ListComp elt [⟨tg, iter, ifs, 0⟩] scope pos) (some (.Name y py)) spos.line X.env = pure true) (hi : PI X tg iter (tI G W mi)) (ok : BlkOk X.N X.env.scope scope own) (htg : TgW G g t vs)
    (hg : ∀ (s : Shared) (H : Hp) (C : Addr) (cl : List (Str × Addr)) (fp : List Addr), PG (X.blk s H scope (compEnvC scope cl C X.env) fp) tg g) (ht : ∀ (s : Shared) (H : Hp) (C : Addr) (cl : List (Str × Addr)) (fp : List Addr), PTs (X.blk s H scope (compEnvC scope cl C X.env) fp) ifs (tTs G noW mt))
    (he : ∀ (s : Shared) (H : Hp) (C : Addr) (cl : List (Str × Addr)) (fp : List Addr), PE (X.blk s H scope (compEnvC scope cl C X.env) fp) elt (tD G noW me)) (hs : ∀ x, foldedSetIterable iter X.env x = pure x := by intro _; rfl) :
    PS X (.Assign [.Name y py] (.ListComp elt [⟨tg, iter, ifs, 0⟩] scope pos) spos) (tS G W (sAsg i (xLc vs mi t mt me))) :=
  (ps_setLcM hv hc hN hy hyl hsw hi ok hg ht he hs).weak fun D' σ H q => by
    have q2 := asg_t (G := G) (W := W) q
    exact lc_t nd htg q2
end
end
end L2.Tr
namespace L2.Tr
open PySem PySem.Spec PyProof.Rows L2 L2.Pc
/-! ### what a slot owns, or the cell it names -/
def getM : List O → Nat → Option O
  | [], _ => none
  | x :: _, 0 => some x
  | _ :: l, n + 1 => getM l n
def setM : List O → Nat → O → List O
  | [], _, _ => []
  | _ :: l, 0, o => o :: l
  | x :: l, n + 1, o => x :: setM l n o
/-- the root that the slot i stands for: itself, or a cell -/
def getP (s : S) (i : Nat) : Option O := match getS s.env i with
  | some (.fz (.cel n)) => getM s.mu n
  | some (.fz _) => none
  | x => x
def putP (s : S) (i : Nat) (o : O) : S := match getS s.env i with
  | some (.fz (.cel n)) => ⟨s.env, setM s.mu n o⟩
  | some (.fz _) => s
  | some _ => ⟨setS s.env i (some o), s.mu⟩
  | none => s
section
variable {G : Gi}
theorem ownA_set {F H : Hp} {al : List Addr} : ∀ {os : List O} {vs : List V} {fp : List Addr} {i : Nat} {o : O}, OwnA G F al H os vs fp → getM os i = some o →
    ∃ v f1 f2 f3, vs[i]? = some v ∧ OwnT G F al H o v f2 ∧ fp = f1 ++ (f2 ++ f3) ∧ ∀ (F' H' : Hp) (al' : List Addr), Mo F F' al al' → (∀ a ∈ f1 ++ f3, H' a = H a) →
      ∀ o' f', OwnT G F' al' H' o' v f' → OwnA G F' al' H' (setM os i o') vs (f1 ++ (f' ++ f3))
  | _, _, _, i, o, .nil, e => by cases i <;> cases e
  | _, _, _, 0, o, .cons (fp := fp) (fq := fq) h hs, e => by
    cases e
    exact ⟨_, [], fp, fq, rfl, h, rfl, fun F' H' al' m k o' f' t => .cons (fp := f') t (hs.mo m k)⟩
  | _, _, _, i + 1, o, .cons (fp := fp) h hs, e => by
    obtain ⟨v, f1, f2, f3, q1, q2, q3, q4⟩ := ownA_set (i := i) hs e
    refine ⟨v, fp ++ f1, f2, f3, by simpa using q1, q2, by rw [q3, List.append_assoc], fun F' H' al' m k o' f' t => ?_⟩
    have k1 : ∀ a ∈ fp, H' a = H a := fun a ha => k a (List.mem_append_left _ (List.mem_append_left _ ha))
    have k2 : ∀ a ∈ f1 ++ f3, H' a = H a := fun a ha => k a (by rw [List.append_assoc]; exact List.mem_append_right _ ha)
    show OwnA G F' al' H' (_ :: setM _ i o') _ _
    rw [List.append_assoc]
    exact .cons (h.mo m k1) (q4 F' H' al' m k2 o' f' t)
/-- the root at slot i: where it stands, and how it is written -/
theorem place {st : S} {σ : L2.St} {c : Cf} {i : Nat} {o : O} (r : Rel G st σ c) (e : getP st i = some o) : ∃ v f2, σ[i]? = some (some v) ∧ OwnT G c.F c.al c.H o v f2 ∧
    ∀ (H' : Hp) (o' : O), (∀ a, a ∉ f2 → H' a = c.H a) → OwnT G c.F c.al H' o' v f2 → Rel G (putP st i o') σ { c with H := H' } ∧ Go c { c with H := H' } := by
  have go : ∀ {f2 : List Addr} {H' : Hp}, (∀ a ∈ f2, a ∈ c.fs ∨ a ∈ c.fc) → (∀ a, a ∉ f2 → H' a = c.H a) → Go c { c with H := H' } := fun {f2 H'} sub k =>
    ⟨Mo.refl _ _, fun a _ h1 h2 => k a fun z => (sub a z).elim h1 h2, fun a h => h.elim .inl fun h => .inr (.inl h), fun a h => .inl h⟩
  have sb : ∀ {f2 : List Addr} {H' : Hp}, (∀ a ∈ f2, a ∈ c.fs ∨ a ∈ c.fc) → (∀ a, a ∉ f2 → H' a = c.H a) → ∀ a u, c.F a = some u → H' a = some u := fun {f2 H'} sub k a u z => by
    rw [k a (fun y => by have := r.own a (sub a y); rw [z] at this; cases this)]
    exact r.sub a u z
  -- a cell
  have cell : ∀ n, getS st.env i = some (.fz (.cel n)) → getM st.mu n = some o → putP st i = (fun o' => ⟨st.env, setM st.mu n o'⟩) → ∃ v f2, σ[i]? = some (some v) ∧ OwnT G c.F c.al c.H o v f2 ∧
      ∀ (H' : Hp) (o' : O), (∀ a, a ∉ f2 → H' a = c.H a) → OwnT G c.F c.al H' o' v f2 → Rel G (putP st i o') σ { c with H := H' } ∧ Go c { c with H := H' } := by
    intro n e1 e2 e3
    obtain ⟨v, g1, g2, g3, q1, q2, _⟩ := slots_get r.slots e1
    obtain ⟨v', f1, f2, f3, p1, p2, p3, p4⟩ := ownA_set r.cells e2
    have ev : v = v' := by
      cases q2 with
      | fz t =>
        cases t with
        | cel h =>
          rw [List.getElem?_map, h] at p1
          exact Option.some.inj p1
    subst ev
    have nd := r.ndc
    rw [p3] at nd
    obtain ⟨n1, n2, n3⟩ := nd_ends nd
    have sub : ∀ a ∈ f2, a ∈ c.fs ∨ a ∈ c.fc := fun a h => .inr (by rw [p3]; exact mem_mid h)
    refine ⟨v, f2, q1, p2, fun H' o' k t => ⟨?_, go sub k⟩⟩
    rw [e3]
    refine ⟨sb sub k, r.own, r.nds, r.ndc, r.dis, r.slots.mo (Mo.refl _ _) fun a ha => k a fun z => r.dis a ha (by rw [p3]; exact mem_mid z), ?_⟩
    have := p4 c.F H' c.al (Mo.refl _ _) (fun a ha => k a fun z => n3 a z ha) o' f2 t
    rw [← p3] at this
    exact this
  unfold getP at e
  split at e
  · rename_i n h
    exact cell n h e (by funext o'; unfold putP; rw [h])
  · cases e
  · rename_i h1 h2
    obtain ⟨v, f1, f2, f3, q1, q2, q3, q4⟩ := slots_set r.slots e
    have nd := r.nds
    rw [q3] at nd
    obtain ⟨n1, n2, n3⟩ := nd_ends nd
    have sub : ∀ a ∈ f2, a ∈ c.fs ∨ a ∈ c.fc := fun a h => .inl (by rw [q3]; exact mem_mid h)
    refine ⟨v, f2, q1, q2, fun H' o' k t => ⟨?_, go sub k⟩⟩
    have hp : putP st i o' = ⟨setS st.env i (some o'), st.mu⟩ := by
      unfold putP
      cases o with
      | fz d =>
        cases d with
        | cel n => exact absurd e (h1 n)
        | _ => exact absurd e (h2 _)
      | _ => rw [e]
    rw [hp]
    refine ⟨sb sub k, r.own, r.nds, r.ndc, r.dis, ?_, r.cells.mo (Mo.refl _ _) fun a ha => k a fun z => r.dis a (by rw [q3]; exact mem_mid z) ha⟩
    have := (q4 c.F H' c.al (Mo.refl _ _) (fun a ha => k a fun z => n3 a z ha)).1 o' f2 t
    rw [← q3] at this
    exact this
end
section
variable {X : Cx} {G : Gi} {W : WX} {e k value : Expr} {me mk : M O} {md mkd : M D} {pos pos' apos cpos : Pos} {i : Nat}
/-! ### x.append(e), x.extend(e) -/
def sApp (i : Nat) (md : M D) : M Fl := fun s => match getP s i with
  | some (.lst _) => (md s).bind fun d s1 => match getP s1 i with
    | some (.lst xs) => if xs.length < 16777216 then .ok .nx (putP s1 i (.lst (xs ++ [d]))) else .no
    | _ => .no
  | _ => .no
theorem own_lst {F H : Hp} {al : List Addr} {ds : List D} {v : V} {fp : List Addr} (h : OwnT G F al H (.lst ds) v fp) : ∃ a vs, v = .ref a ∧ fp = [a] ∧ H a = some (.lst vs) ∧ RpA G F al vs ds := by
  cases h with
  | lst h hs => exact ⟨_, _, rfl, rfl, h, hs⟩
/-- a tracked list's content exchanged -/
theorem put_lst {st : S} {σ : L2.St} {c : Cf} {ds' : List D} {o : O} {a : Addr} {vs' : List V} (hp : ∀ (H' : Hp) (o' : O), (∀ b, b ∉ [a] → H' b = c.H b) → OwnT G c.F c.al H' o' (.ref a) [a] → Rel G (putP st i o') σ { c with H := H' } ∧ Go c { c with H := H' })
    (h : RpA G c.F c.al vs' ds') : Rel G (putP st i (.lst ds')) σ { c with H := upd c.H a (.lst vs') } ∧ Go c { c with H := upd c.H a (.lst vs') } :=
  hp _ _ (fun b hb => upd_ne fun e => hb (by rw [e]; exact List.mem_singleton_self _)) (.lst upd_same h)
theorem app_t {D' : Ends} {σ : L2.St} {H : Hp} (q : tS G W (sApp i md) D' σ H) : tDrop (tBM G.K "list" rAppend (tVar i) (tCons (tD G W md) tNil)) D' σ H := by
  obtain ⟨c, st, rfl, r, w⟩ := q
  unfold sApp at w
  split at w
  · rename_i xs0 e0
    obtain ⟨v, f2, q1, q2, _⟩ := place r e0
    obtain ⟨a, vs, rfl, rfl, hv, rv⟩ := own_lst q2
    refine ⟨.ref a, q1, .inl ⟨rfl, _, .inl (.inl hv)⟩, ?_⟩
    show tD G W md σ c.H fun x H1 => rAppend (.ref a) [x] H1 fun _ H2 => D'.nx σ H2
    refine ⟨c, st, rfl, r, wp_mono (wp_bind.mp w) (fun d st1 w1 v c1 r1 g1 p1 => ?_) (fun x s q v d c' r' g' x' => q σ v d c' r' g'.toGo x')⟩
    split at w1
    · rename_i xs e1
      split at w1
      · rename_i hl
        obtain ⟨v', f2', q1', q2', hp⟩ := place r1 e1
        rw [q1] at q1'
        cases q1'
        obtain ⟨a', vs', ea, rfl, hv', rv'⟩ := own_lst q2'
        cases ea
        obtain ⟨r2, g2⟩ := put_lst (o := .lst xs) hp (rv'.app (.cons p1 .nil))
        exact ⟨a, vs', v, rfl, rfl, hv', by rw [szl, rv'.len]; exact hl, w1 σ _ r2 (g1.toGo.trans g2)⟩
      · exact w1.elim
    · exact w1.elim
  · exact w.elim
theorem s_app {x : Str} {px : Pos} (hK : X.K = G.K) (hN : X.N[i]? = some x) (hv : Vis X.env.scope x) (he : PE X e (tD G W md)) (hd : (x == ("__debug__" : Str)) = false := by decide) (hcd : (x == ("__classdict__" : Str)) = false := by decide)
    (hs : swapsWith (.Call (.Attribute (.Name x px) "append" apos) [e] [] cpos) none pos.line X.env = pure false := by rfl)
    (hbase : attributeBase (.Name x px) "append" X.env (eval (.Name x px) X.env) = eval (.Name x px) X.env := by rfl)
    (hfew : ((backTo cpos (starEach [e] X.env)).all (fun x => !x.1) && (backToKw cpos (keywordEach [] X.env)).all (fun x => x.1.isSome)
      && decide (([e] : List Expr).length + ([] : List Keyword).length + (if ([] : List Keyword).isEmpty then 0 else 1) < 30)) = true := by rfl)
    (hline : (apos.endLine == cpos.line) = true := by rfl) (hst : starEach [e] X.env = (false, eval e X.env) :: starEach [] X.env := by rfl) (hplain : (backTo cpos (starEach [] X.env)).any (·.1) = false := by rfl) :
    PS X (.Expr (.Call (.Attribute (.Name x px) "append" apos) [e] [] cpos) pos) (tS G W (sApp i md)) :=
  (ps_expr (pe_bm PySem.F.plainAttrs_list PySem.F.slot_list_append PySem.F.type_list_append mt_append (pe_var hN hv hd hcd) (pa_cons he pa_nil hst) hbase hfew hline hst hplain) hs).weak fun D' σ H q => by
    rw [hK]; exact app_t q
/-! ### x[k] = e -/
def putAt (i : Nat) (d k : D) : M Fl := fun s => match getP s i, k with
  | some (.lst xs), .int j => match ixN xs.length j with
    | some q => .ok .nx (putP s i (.lst (xs.set q d)))
    | none => .no
  | _, _ => .no
def sPutL (i : Nat) (mk md : M D) : M Fl := bnd md fun d s1 => match getP s1 i with
  | none => .no
  | some _ => (mk s1).bind fun k => putAt i d k
theorem putL_t {D' : Ends} {σ : L2.St} {H : Hp} (q : tS G W (sPutL i mkd md) D' σ H) : tAsg (tD G W md) (gSub (tVar i) (tD G W mkd) rSetL) D' σ H := by
  show tD G W md σ H fun v H1 => tVar i σ H1 fun o H1 => tD G W mkd σ H1 fun k H2 => rSetL o k v H2 fun H3 => D'.nx σ H3
  refine tS.ex q _ (fun d v c c1 st1 r1 g1 p1 w => ?_)
  split at w
  · exact w.elim
  · rename_i o0 e0
    obtain ⟨x, f0, hx, _⟩ := place r1 e0
    refine ⟨x, hx, c1, st1, rfl, r1, wp_mono (wp_bind.mp w) (fun k st2 w2 u c2 r2 g2 p2 => ?_) (fun x s q v d c' r' g' x' => q σ v d c' r' (g1.toGo.trans g'.toGo) x')⟩
    unfold putAt at w2
    split at w2
    · rename_i xs j e1
      split at w2
      · rename_i q' eq'
        obtain ⟨v', f2', q1', q2', hp⟩ := place r2 e1
        rw [hx] at q1'
        cases q1'
        obtain ⟨a', vs', rfl, rfl, hv', rv'⟩ := own_lst q2'
        cases p2
        obtain ⟨r3, g3⟩ := put_lst (o := .lst xs) hp (RpA.set (p1.mo g2.mo) q' rv')
        exact ⟨a', vs', j, q', rfl, rfl, hv', by rw [rv'.len]; exact eq', w2 σ _ r3 ((g1.toGo.trans g2.toGo).trans g3)⟩
      · exact w2.elim
    · exact w2.elim
theorem s_putL {x : Str} {px : Pos} (hN : X.N[i]? = some x) (hv : Vis X.env.scope x) (hk : PE X k (tD G W mkd)) (he : PE X e (tD G W md)) (hd : (x == ("__debug__" : Str)) = false := by decide) (hcd : (x == ("__classdict__" : Str)) = false := by decide)
    (hs : swapsWithSole [.Subscript (.Name x px) k pos'] e pos.line X.env = pure false := by rfl) (hw : swappedStores [.Subscript (.Name x px) k pos'] e X.env = pure none := by rfl)
    (h1 : (assignEach [.Subscript (.Name x px) k pos'] X.env).map (·.2) = [assign (.Subscript (.Name x px) k pos') X.env] := by rfl)
    (ha : ∀ v, assign (.Subscript (.Name x px) k pos') X.env v = (do
      let ov ← holding [v] (eval (.Name x px) X.env)
      let iv ← holding [v, ov] (eval k X.env)
      standAt pos'
      holding [v, ov, iv] (setItem ov iv v)
      release [v, ov, iv] []) := by intro _; rfl) :
    PS X (.Assign [.Subscript (.Name x px) k pos'] e pos) (tS G W (sPutL i mkd md)) :=
  (ps_asg he (pg_sub (pe_var hN hv hd hcd) hk set_list ha) hs hw h1).weak fun _ _ _ q => putL_t q
/-! ### a new cell -/
def cellO : O → Bool
  | .fz _ => false
  | _ => true
def sAsgC (i : Nat) (me : M O) : M Fl := bnd me fun o s => if cellO o = true then .ok .nx ⟨setS s.env i (some (.fz (.cel s.mu.length))), s.mu ++ [o]⟩ else .no
@[simp] theorem sAsgC_app (i : Nat) (me : M O) (s : S) : sAsgC i me s = (me s).bind fun o s => if cellO o = true then .ok .nx ⟨setS s.env i (some (.fz (.cel s.mu.length))), s.mu ++ [o]⟩ else .no := rfl
theorem own_ref {F H : Hp} {al : List Addr} {o : O} {v : V} {fp : List Addr} (h : OwnT G F al H o v fp) (k : cellO o = true) : ∃ a, v = .ref a := by
  cases h with
  | fz _ => cases k
  | _ => exact ⟨_, rfl⟩
theorem ownA_snoc {F H : Hp} {al : List Addr} : ∀ {os : List O} {vs : List V} {fp : List Addr} {o : O} {v : V} {fq : List Addr}, OwnA G F al H os vs fp → OwnT G F al H o v fq → OwnA G F al H (os ++ [o]) (vs ++ [v]) (fp ++ fq)
  | _, _, _, _, _, _, .nil, t => by
    have := OwnA.cons t (.nil (G := G) (F := F) (al := al) (H := H))
    rw [List.append_nil] at this
    exact this
  | _, _, _, _, _, _, .cons h hs, t => by
    rw [List.append_assoc]
    exact .cons h (ownA_snoc hs t)
theorem ownA_len {F H : Hp} {al : List Addr} : ∀ {os : List O} {vs : List V} {fp : List Addr}, OwnA G F al H os vs fp → os.length = vs.length
  | _, _, _, .nil => rfl
  | _, _, _, .cons _ hs => congrArg (· + 1) (ownA_len hs)
/-- an owned thing becomes a cell -/
theorem rel_cell {st : S} {σ : L2.St} {c0 c : Cf} {o : O} {a : Addr} {fp : List Addr} (r : Rel G st σ c) (t : OwnT G c.F c.al c.H o (.ref a) fp) (f : Fresh fp c) (g : Go c0 c) (n : New fp c0) :
    Rel G ⟨st.env, st.mu ++ [o]⟩ σ { c with al := c.al ++ [a], fc := c.fc ++ fp } ∧ Go c0 { c with al := c.al ++ [a], fc := c.fc ++ fp } ∧ (c.al ++ [a])[st.mu.length]? = some a := by
  have mo : Mo c.F c.F c.al (c.al ++ [a]) := .of (fun _ _ h => h) fun n b h => by
    have hl := (List.getElem?_eq_some_iff.mp h).1
    rw [List.getElem?_append_left hl]; exact h
  have hl : st.mu.length = c.al.length := by rw [ownA_len r.cells, List.length_map]
  refine ⟨⟨r.sub, fun b h => ?_, r.nds, ?_, fun b h k => ?_, r.slots.mo mo fun _ _ => rfl, ?_⟩, ⟨g.mo.trans mo, g.fr, fun b h => ?_, g.nF⟩, ?_⟩
  · rcases h with h | h
    · exact r.own b (.inl h)
    · exact (List.mem_append.mp h).elim (fun h => r.own b (.inr h)) (f.nf b)
  · exact List.nodup_append.mpr ⟨r.ndc, f.nd, fun x hx y hy e => by subst e; exact f.nc x hy hx⟩
  · exact (List.mem_append.mp k).elim (r.dis b h) (fun z => f.ns b z h)
  · show OwnA G c.F (c.al ++ [a]) c.H (st.mu ++ [o]) ((c.al ++ [a]).map V.ref) (c.fc ++ fp)
    rw [List.map_append]
    exact ownA_snoc (r.cells.mo mo fun _ _ => rfl) (t.mo mo fun _ _ => rfl)
  · rcases h with h | h
    · exact g.fp b (.inl h)
    · exact (List.mem_append.mp h).elim (fun h => g.fp b (.inr h)) (n b)
  · rw [hl, List.getElem?_append_right (Nat.le_refl _), Nat.sub_self]; rfl
theorem asgC_t {D' : Ends} {σ : L2.St} {H : Hp} (q : tS G W (sAsgC i me) D' σ H) : tAsg (tO G W me) (gName i) D' σ H := by
  show tO G W me σ H fun v H1 => D'.nx (σ.set i (some v)) H1
  refine tS.ex q _ (fun o v c c1 st1 r1 g1 p1 w => ?_)
  obtain ⟨fp, t, f, n⟩ := p1
  split at w
  · rename_i hc
    obtain ⟨a, rfl⟩ := own_ref t hc
    obtain ⟨r2, g2, e2⟩ := rel_cell r1 t f g1.toGo n
    obtain ⟨c', e, r', g', _⟩ := rel_put (i := i) (o := .fz (.cel st1.mu.length)) r2 (.fz (.cel e2)) (Fresh.nil _) g2 (New.nil _)
    have w : Fw G D' c .nx _ := w
    have e : c'.H = c1.H := e
    rw [← e]
    exact w _ c' r' g'
  · exact w.elim
theorem s_asgC {x : Str} (hN : X.N.Nodup) (hi : X.N[i]? = some x) (hx : Loc X.env.scope x) (he : PE X e (tO G W me)) (hs : swapsWith e (some (.Name x pos')) pos.line X.env = pure false := by rfl)
    (hf : X.fn x = true ∨ X.env.scope.names.lookup x = some .local := by first | exact .inl rfl | exact .inr rfl | assumption) : PS X (.Assign [.Name x pos'] e pos) (tS G W (sAsgC i me)) :=
  (ps_set hN hi hx he hs hf).weak fun _ _ _ q => asgC_t q
/-! ### reading that changes nothing -/
/-- a quiet expression -/
def tQ (G : Gi) (f : S → Option D) : TE := fun σ H Q => ∃ c st d, c.H = H ∧ Rel G st σ c ∧ f st = some d ∧ ∀ v, Rp G c.F c.al v d → Q v c.H
def qVar (i : Nat) : S → Option D := fun s => match getS s.env i with
  | some (.fz d) => some d
  | _ => none
theorem xq_var {x : Str} (hN : X.N[i]? = some x) (hv : Vis X.env.scope x) (hd : (x == ("__debug__" : Str)) = false := by decide) (hcd : (x == ("__classdict__" : Str)) = false := by decide) : PE X (.Name x pos) (tQ G (qVar i)) :=
  (pe_var hN hv hd hcd).weak fun σ H Q q => by
    obtain ⟨c, st, d, rfl, r, e, k⟩ := q
    unfold qVar at e
    split at e
    · rename_i d' h
      cases e
      obtain ⟨v, g1, g2, g3, q1, q2, _⟩ := slots_get r.slots h
      cases q2 with
      | fz t => exact ⟨v, q1, k v t⟩
    · cases e
theorem xq_c {v : V} {d : D} (h : PE X e (tC v)) (hr : ∀ F al, Rp G F al v d) : PE X e (tQ G (fun _ => some d)) := h.weak fun σ H Q q => by
  obtain ⟨c, st, d', rfl, r, e, k⟩ := q
  cases e
  exact k v (hr _ _)
/-- an operator whose second operand is quiet -/
def xOpQ (g : D → D → Option O) (ma : M O) (f : S → Option D) : M O := bnd ma fun x s => match f s with
  | some y => ofO (g x.toD y) s
  | none => .no
theorem opq_t {r : R2} {g : D → D → Option O} {ma : M O} {f : S → Option D} (hr : OpD G r g) {σ : L2.St} {H : Hp} {Q : VK} (q : tO G W (xOpQ g ma f) σ H Q) : tOp r (tLa G W ma) (tQ G f) σ H Q := by
  show tLa G W ma σ H fun x H1 => tQ G f σ H1 fun y H2 => r x y H2 Q
  refine q.seq bkO _ (fun ox x c c1 st1 r1 g1 p1 w => ?_)
  obtain ⟨fx, tx⟩ := p1
  split at w
  · rename_i d hd
    obtain ⟨o, eo, q3⟩ := wp_ofO.mp w
    exact ⟨c1, st1, d, rfl, r1, hd, fun v hv => hr st1 σ c1 x v ox (.fz d) fx [] o Q r1 tx (.fz hv) (by rw [O.toD]; exact eo) q3⟩
  · exact w.elim
theorem x_ixQ {a b : Expr} {r : R2} {g : D → D → Option O} {ma : M O} {f : S → Option D} (ho : IxR X r) (hr : OpD G r g) (ha : PE X a (tLa G W ma)) (hb : PE X b (tQ G f)) (hs : PlainIx b) :
    PE X (.Subscript a b pos) (tO G W (xOpQ g ma f)) := (pe_ix ho ha hb hs).weak fun σ H Q q => opq_t hr q
end
/-! ### subscripts -/
def ixD (x y : D) : Option O := match x, y with
  | .lst ds, .int i => (atI ds i).map .fz
  | .lsk ds, .int i => (atI ds i).map .fz
  | .tup ds, .int i => (atI ds i).map .fz
  | .tuk ds, .int i => (atI ds i).map .fz
  | .tun ds, .int i => (atI ds i).map .fz
  | .str s, .int i => if s.length ≤ 16777216 then (atI s.cps.toList i).map fun c => .fz (.str ⟨#[c]⟩) else none
  | _, _ => none
theorem rp_at {G : Gi} {F : Hp} {al : List Addr} {vs : List V} {ds : List D} {i : Int} {d : D} (h : RpA G F al vs ds) (e : atI ds i = some d) : ∃ v, atI vs i = some v ∧ Rp G F al v d := by
  unfold atI at e ⊢
  rw [h.len]
  obtain ⟨j, e1, e2⟩ := bind_some e
  obtain ⟨v, h1, h2⟩ := h.get e2
  exact ⟨v, by rw [e1]; exact h1, h2⟩
theorem d_ix {G : Gi} : OpD G (rIxM G.K) ixD := by
  intro st σ c x y ox oy fx fy o Q r tx ty e q
  have vx := own_view r tx
  have vy := own_view r ty
  generalize ox.toD = dx at *
  generalize oy.toD = dy at *
  unfold ixD at e
  split at e
  · obtain ⟨d, h1, rfl⟩ := map_some e
    obtain ⟨a, xs, rfl, hx, rx⟩ := vx
    obtain rfl : y = _ := vy
    obtain ⟨v, h2, h3⟩ := rp_at rx h1
    exact .inl ⟨a, xs, _, v, rfl, rfl, .inl (.inl hx), h2, fin r h3 q⟩
  · obtain ⟨d, h1, rfl⟩ := map_some e
    obtain ⟨a, xs, rfl, hx, rx⟩ := vx
    obtain rfl : y = _ := vy
    obtain ⟨v, h2, h3⟩ := rp_at rx h1
    exact .inl ⟨a, xs, _, v, rfl, rfl, hx, h2, fin r h3 q⟩
  · obtain ⟨d, h1, rfl⟩ := map_some e
    obtain ⟨a, xs, rfl, hx, rx, _⟩ := vx
    obtain rfl : y = _ := vy
    obtain ⟨v, h2, h3⟩ := rp_at rx h1
    exact .inr (.inl ⟨a, xs, _, v, rfl, rfl, hx, h2, fin r h3 q⟩)
  · obtain ⟨d, h1, rfl⟩ := map_some e
    obtain ⟨a, xs, rfl, hx, rx⟩ := vx
    obtain rfl : y = _ := vy
    obtain ⟨v, h2, h3⟩ := rp_at rx h1
    exact .inr (.inl ⟨a, xs, _, v, rfl, rfl, hx, h2, fin r h3 q⟩)
  · obtain ⟨d, h1, rfl⟩ := map_some e
    obtain ⟨a, xs, rfl, hx, rx, _⟩ := vx
    obtain rfl : y = _ := vy
    obtain ⟨v, h2, h3⟩ := rp_at rx h1
    exact .inr (.inl ⟨a, xs, _, v, rfl, rfl, hx, h2, fin r h3 q⟩)
  · split at e
    · rename_i hl
      obtain ⟨ch, h1, rfl⟩ := map_some e
      obtain rfl : x = _ := vx
      obtain rfl : y = _ := vy
      exact .inr (.inr ⟨_, _, ch, rfl, rfl, by rw [szl]; exact hl, h1, fin r (.str _) q⟩)
    · cases e
  · cases e
/-- slices -/
def cutD (ds : List D) (lo hi : Option Int) : List D := (ds.drop (HT.sIx ds.length 0 lo)).take (HT.sIx ds.length ds.length hi - HT.sIx ds.length 0 lo)
theorem rp_cut {G : Gi} {F : Hp} {al : List Addr} {vs : List V} {ds : List D} (lo hi : Option Int) (h : RpA G F al vs ds) : RpA G F al (cutV vs lo hi) (cutD ds lo hi) := by
  unfold cutV cutD
  rw [h.len]
  exact RpA.take _ (RpA.drop _ h)
def slD (x : D) (lo hi : Option Int) : Option O := match x with
  | .lst ds => some (.lst (cutD ds lo hi))
  | .lsk ds => some (.lst (cutD ds lo hi))
  | .str s => if s.length ≤ 16777216 then some (.fz (.str (cutS s lo hi))) else none
  | .tup ds => some (.fz (.tup (cutD ds lo hi)))
  | _ => none
def rSlX (K : PySem.W.Frag) : V → Option Int → Option Int → Hp → VK → Prop := fun a lo hi H Q => rSlL K a lo hi H Q ∨ rSlS a lo hi H Q ∨ rSlA K a lo hi H Q
theorem slX {X : Cx} {K : PySem.W.Frag} (hK : X.K = K) : SlR X (rSlX K) := hK ▸ SlR.or sl_list (SlR.or sl_str sl_tupA)
def mPart (md : M O) : M (Option Int) := bnd md fun o => match o with
  | .fz (.int i) => ret (some i)
  | _ => fun _ => .no
section
variable {X : Cx} {G : Gi} {W : WX} {e : Expr} {me ma : M O} {pos : Pos} {lo hi : Option Expr} {ml mh : M (Option Int)}
theorem xp_none : PO X none (tG G W (fun (i : Option Int) _ _ (v : Option Int) => v = i) (ret none)) := by
  refine ⟨fun pins s σ H Q I q => (po_none (X := X)).run pins s σ H Q I ?_⟩
  obtain ⟨c, st, rfl, r, w⟩ := q
  exact w none c r (GoE.refl r) rfl
theorem xp_some (h : PE X e (tO G W me)) : PO X (some e) (tG G W (fun (i : Option Int) _ _ (v : Option Int) => v = i) (mPart me)) := by
  refine ⟨fun pins s σ H Q I q => (po_some h).run pins s σ H Q I ?_⟩
  show tO G W me σ H fun x H1 => ∃ i, x = .int i ∧ Q (some i) H1
  refine q.seq0 _ (fun o v c c1 st1 r1 g1 p1 w => ?_)
  obtain ⟨fp, t, _⟩ := p1
  split at w
  · rename_i i
    cases t with
    | fz t => cases t; exact ⟨i, rfl, w _ c1 r1 g1 rfl⟩
  · exact w.elim
def xSl (ma : M O) (ml mh : M (Option Int)) : M O := bnd ma fun x => bnd ml fun l => bnd mh fun h => ofO (slD x.toD l h)
@[simp] theorem xSl_app (ma : M O) (ml mh : M (Option Int)) (s : S) : xSl ma ml mh s = (ma s).bind fun x s1 => (ml s1).bind fun l s2 => (mh s2).bind fun h => ofO (slD x.toD l h) := rfl
theorem finS {st : S} {σ : L2.St} {c : Cf} {x : V} {ox : O} {fx : List Addr} {o : O} {l h : Option Int} {Q : VK} (r : Rel G st σ c) (tx : OwnT G c.F c.al c.H ox x fx) (e : slD ox.toD l h = some o)
    (q : ∀ v c', Rel G st σ c' → GoE c c' → PrO G o c c' v → Q v c'.H) : rSlX G.K x l h c.H Q := by
  have vx := own_view r tx
  generalize ox.toD = dx at *
  unfold slD at e
  split at e
  · cases e
    obtain ⟨a, xs, rfl, hx, rx⟩ := vx
    exact .inl ⟨a, xs, rfl, .inl (.inl hx), finL r (rp_cut l h rx) q⟩
  · cases e
    obtain ⟨a, xs, rfl, hx, rx⟩ := vx
    exact .inl ⟨a, xs, rfl, hx, finL r (rp_cut l h rx) q⟩
  · split at e
    · rename_i hl
      cases e
      obtain rfl : x = _ := vx
      exact .inr (.inl ⟨_, rfl, by rw [szl]; exact hl, fin r (.str _) q⟩)
    · cases e
  · cases e
    obtain ⟨a, xs, rfl, hx, rx, rp⟩ := vx
    refine .inr (.inr ⟨a, xs, rfl, hx, fun hw => ?_, fun _ => finT r (rp_cut l h rx) q⟩)
    rename_i ds
    have e1 : cutD ds l h = ds := by
      unfold cutD
      rw [rx.len] at hw
      rw [hw.1, hw.2, Nat.sub_zero, List.drop_zero, List.take_length]
    rw [e1] at q
    exact fin r rp q
  · cases e
theorem x_sl {p2 : Pos} (hK : X.K = G.K) (he : PE X e (tBr G W ma)) (hl : PO X lo (tG G W (fun (i : Option Int) _ _ (v : Option Int) => v = i) ml)) (hu : PO X hi (tG G W (fun (i : Option Int) _ _ (v : Option Int) => v = i) mh)) :
    PE X (.Subscript e (.Slice lo hi none p2) pos) (tO G W (xSl ma ml mh)) := (pe_slice (slX hK) he hl hu).weak fun σ H Q q => by
  show tBr G W ma σ H fun x H1 => tG G W _ ml σ H1 fun l H2 => tG G W _ mh σ H2 fun h H3 => rSlX G.K x l h H3 Q
  refine q.seq bkO _ (fun ox x c c1 st1 r1 g1 p1 w => ?_)
  obtain ⟨fx, tx, kx⟩ := p1
  refine tG.seq1 bkO r1 w _ (fun l' l c2 st2 r2 g2 p2 w2 => ?_)
  obtain rfl : l = l' := p2
  refine tG.seq1 bkO r2 w2 _ (fun h' h c3 st3 r3 g3 p3 w3 => ?_)
  obtain rfl : h = h' := p3
  obtain ⟨o, eo, q3⟩ := wp_ofO.mp w3
  exact finS r3 (kx.go tx (g2.trans g3)) eo q3
end
end L2.Tr
namespace L2.Tr
open PySem PySem.Spec PyProof.Rows L2 L2.Pc
/-! ### calls of built-ins -/
def CnD (G : Gi) (r : List V → Hp → VK → Prop) (g : List D → Option O) : Prop := ∀ (st : S) (σ : L2.St) (c : Cf) (vs : List V) (ds : List D) (o : O) (Q : VK), Rel G st σ c →
  RpA G c.F c.al vs ds → g ds = some o → (∀ v c', Rel G st σ c' → GoE c c' → PrO G o c c' v → Q v c'.H) → r vs c.H Q
section
variable {X : Cx} {G : Gi} {W : WX} {e o : Expr} {es : List Expr} {m : M O} {ma : M (List D)} {x : Str} {p pos apos cpos : Pos} {id T : String} {r : List V → Hp → VK → Prop}
def xCn (g : List D → Option O) (ma : M (List D)) : M O := bnd ma fun ds => ofO (g ds)
@[simp] theorem xCn_app (g : List D → Option O) (ma : M (List D)) (s : S) : xCn g ma s = (ma s).bind fun ds => ofO (g ds) := rfl
theorem cn_t {g : List D → Option O} (hr : CnD G r g) {σ : L2.St} {H : Hp} {Q : VK} (q : tO G W (xCn g ma) σ H Q) : tCB r (tAs G W ma) σ H Q := by
  show tAs G W ma σ H fun vs H1 => r vs H1 Q
  refine q.seq bkO _ (fun ds vs c c1 st1 r1 g1 p1 w => ?_)
  obtain ⟨o, eo, q3⟩ := wp_ofO.mp w
  exact hr st1 σ c1 vs ds o Q r1 p1 eo q3
theorem c1_t {g : D → Option O} (hr : UnD G (fun x => r [x]) g) {σ : L2.St} {H : Hp} {Q : VK} (q : tO G W (xUn g m) σ H Q) : tCB r (tCons (tLa G W m) tNil) σ H Q := by
  show tLa G W m σ H fun x H1 => r [x] H1 Q
  exact un_t hr q
theorem x_b1 {g : D → Option O} (hc : CallR X (.builtin id) r) (hr : UnD G (fun x => r [x]) g) (hg : Gl X x) (hm : X.mg x = none) (hv : bootBuiltins x = some (.builtin id)) (ha : PE X e (tLa G W m)) (hn : x ≠ "__name__" := by decide) (hdb : (x == ("__debug__" : Str)) = false := by decide)
    (he : starEach [e] X.env = (false, eval e X.env) :: starEach [] X.env := by rfl) (hpl : (backTo pos (starEach [] X.env)).any (·.1) = false := by rfl) : PE X (.Call (.Name x p) [e] [] pos) (tO G W (xUn g m)) :=
  (pe_callB hc hg hm hv (pa_cons ha pa_nil he) hn hdb he hpl).weak fun _ _ _ q => c1_t hr q
theorem x_bn {g : List D → Option O} (hc : CallR X (.builtin id) r) (hr : CnD G r g) (hg : Gl X x) (hm : X.mg x = none) (hv : bootBuiltins x = some (.builtin id)) (ha : PA X (e :: es) (tAs G W ma)) (hn : x ≠ "__name__" := by decide) (hdb : (x == ("__debug__" : Str)) = false := by decide)
    (he : starEach (e :: es) X.env = (false, eval e X.env) :: starEach es X.env := by rfl) (hpl : (backTo pos (starEach es X.env)).any (·.1) = false := by rfl) : PE X (.Call (.Name x p) (e :: es) [] pos) (tO G W (xCn g ma)) :=
  (pe_callB hc hg hm hv ha hn hdb he hpl).weak fun _ _ _ q => cn_t hr q
theorem x_t1 {g : D → Option O} (hc : CallR X (.type T) r) (hr : UnD G (fun x => r [x]) g) (hg : Gl X x) (hm : X.mg x = none) (hv : bootBuiltins x = some (.type T)) (ha : PE X e (tLa G W m)) (hn : x ≠ "__name__" := by decide) (hdb : (x == ("__debug__" : Str)) = false := by decide)
    (he : starEach [e] X.env = (false, eval e X.env) :: starEach [] X.env := by rfl) (hpl : (backTo pos (starEach [] X.env)).any (·.1) = false := by rfl) : PE X (.Call (.Name x p) [e] [] pos) (tO G W (xUn g m)) :=
  (pe_callTy hc hg hm hv (pa_cons ha pa_nil he) hn hdb he hpl).weak fun _ _ _ q => c1_t hr q
/-- a built-in type as a value -/
theorem x_ty {n : String} (hg : Gl X x) (hm : X.mg x = none) (hv : bootBuiltins x = some (.type n)) (hn : x ≠ "__name__" := by decide) (hd : (x == ("__debug__" : Str)) = false := by decide) : PE X (.Name x pos) (tD G W (ret (.ty n))) :=
  (pe_bltn (v := .ty n) hg hm hv rfl hn hd).weak fun σ H Q q => by
    obtain ⟨c, st, rfl, r, h⟩ := q
    exact h _ c r (GoE.refl r) (.ty n)
/-! ### methods of texts -/
def MnD (G : Gi) (r : V → List V → Hp → VK → Prop) (g : D → List D → Option O) : Prop := ∀ (st : S) (σ : L2.St) (c : Cf) (x : V) (vs : List V) (ox : O) (fx : List Addr) (ds : List D) (o : O) (Q : VK), Rel G st σ c →
  OwnT G c.F c.al c.H ox x fx → RpA G c.F c.al vs ds → g ox.toD ds = some o → (∀ v c', Rel G st σ c' → GoE c c' → PrO G o c c' v → Q v c'.H) → r x vs c.H Q
def isS : D → Bool
  | .str _ => true
  | _ => false
def xM1 (g : D → List D → Option O) (m : M O) (md : M D) : M O := bnd m fun x => if isS x.toD = true then bnd md fun d => ofO (g x.toD [d]) else fun _ => .no
def xM0 (g : D → List D → Option O) (m : M O) : M O := bnd m fun x => if isS x.toD = true then ofO (g x.toD []) else fun _ => .no
@[simp] theorem xM1_app (g : D → List D → Option O) (m : M O) (md : M D) (s : S) : xM1 g m md s = (m s).bind fun x => if isS x.toD = true then bnd md fun d => ofO (g x.toD [d]) else fun _ => .no := rfl
@[simp] theorem xM0_app (g : D → List D → Option O) (m : M O) (s : S) : xM0 g m s = (m s).bind fun x => if isS x.toD = true then ofO (g x.toD []) else fun _ => .no := rfl
theorem view_str {c : Cf} {v : V} {d : D} (h : Vi G c v d) (k : isS d = true) : ∃ a, v = .str a := by
  cases d with
  | str s => exact ⟨s, h⟩
  | _ => cases k
theorem m1_t {r : V → List V → Hp → VK → Prop} {g : D → List D → Option O} {md : M D} (hr : MnD G r g) {σ : L2.St} {H : Hp} {Q : VK} (q : tO G W (xM1 g m md) σ H Q) : tM1 r (tBr G W m) (tD G W md) σ H Q := by
  show tBr G W m σ H fun x H1 => (∃ a, x = .str a) ∧ tD G W md σ H1 fun y H2 => r x [y] H2 Q
  refine q.seq bkO _ (fun ox x c c1 st1 r1 g1 p1 w => ?_)
  obtain ⟨fx, tx, kx⟩ := p1
  split at w
  · rename_i hs
    refine ⟨view_str (own_view r1 tx) hs, ?_⟩
    refine tG.seq1 bkO r1 w _ (fun d y c2 st2 r2 g2 p2 w2 => ?_)
    obtain ⟨o, eo, q3⟩ := wp_ofO.mp w2
    exact hr st2 σ c2 x [y] ox fx [d] o Q r2 (kx.go tx g2) (.cons p2 .nil) eo q3
  · exact w.elim
theorem m0_t {r : V → List V → Hp → VK → Prop} {g : D → List D → Option O} (hr : MnD G r g) {σ : L2.St} {H : Hp} {Q : VK} (q : tO G W (xM0 g m) σ H Q) : tM0 r (tBr G W m) σ H Q := by
  show tBr G W m σ H fun x H1 => (∃ a, x = .str a) ∧ r x [] H1 Q
  refine q.seq bkO _ (fun ox x c c1 st1 r1 g1 p1 w => ?_)
  obtain ⟨fx, tx, kx⟩ := p1
  split at w
  · rename_i hs
    obtain ⟨o, eo, q3⟩ := wp_ofO.mp w
    exact ⟨view_str (own_view r1 tx) hs, hr st1 σ c1 x [] ox fx [] o Q r1 tx .nil eo q3⟩
  · exact w.elim
end
/-! ### built-ins by their values -/
section
variable {G : Gi}
def lenD : D → Option O
  | .str s => if s.length ≤ 16777216 then some (.fz (.int s.length)) else none
  | .lst ds => some (.fz (.int ds.length))
  | .lsk ds => some (.fz (.int ds.length))
  | .tup ds => some (.fz (.int ds.length))
  | .tuk ds => some (.fz (.int ds.length))
  | .tun ds => some (.fz (.int ds.length))
  | _ => none
theorem d_len : UnD G (fun x => L2.Pc.rLen G.K [x]) lenD := by
  intro st σ c x ox fx o Q r tx e q
  have vx := own_view r tx
  generalize ox.toD = dx at *
  unfold lenD at e
  split at e
  · split at e
    · rename_i hl
      cases e
      obtain rfl : x = _ := vx
      exact ⟨_, _, rfl, ⟨by rw [szl]; exact hl, rfl⟩, fin r (.int _) q⟩
    · cases e
  · cases e
    obtain ⟨a, xs, rfl, hx, rx⟩ := vx
    exact ⟨_, _, rfl, .inl ⟨xs, .inl (.inl hx), rx.len.symm⟩, fin r (.int _) q⟩
  · cases e
    obtain ⟨a, xs, rfl, hx, rx⟩ := vx
    exact ⟨_, _, rfl, .inl ⟨xs, hx, rx.len.symm⟩, fin r (.int _) q⟩
  · cases e
    obtain ⟨a, xs, rfl, hx, rx, _⟩ := vx
    exact ⟨_, _, rfl, .inr ⟨xs, hx, rx.len.symm⟩, fin r (.int _) q⟩
  · cases e
    obtain ⟨a, xs, rfl, hx, rx⟩ := vx
    exact ⟨_, _, rfl, .inr ⟨xs, hx, rx.len.symm⟩, fin r (.int _) q⟩
  · cases e
    obtain ⟨a, xs, rfl, hx, rx, _⟩ := vx
    exact ⟨_, _, rfl, .inr ⟨xs, hx, rx.len.symm⟩, fin r (.int _) q⟩
  · cases e
def absD : D → Option O
  | .int i => some (.fz (.int (if i < 0 then -i else i)))
  | _ => none
theorem d_abs : UnD G (fun x => rAbs [x]) absD := by
  intro st σ c x ox fx o Q r tx e q
  have vx := own_view r tx
  generalize ox.toD = dx at *
  unfold absD at e
  split at e
  · cases e
    obtain rfl : x = _ := vx
    exact ⟨_, rfl, fin r (.int _) q⟩
  · cases e
def intD : D → Option O
  | .int i => some (.fz (.int i))
  | .bl b => some (.fz (.int (if b then 1 else 0)))
  | .str s => if s.length ≤ 640 then (PySem.intText? s).map fun n => .fz (.int n) else none
  | _ => none
theorem d_int : UnD G (fun x => rIntM [x]) intD := by
  intro st σ c x ox fx o Q r tx e q
  have vx := own_view r tx
  generalize ox.toD = dx at *
  unfold intD at e
  split at e
  · cases e
    obtain rfl : x = _ := vx
    exact .inl ⟨_, rfl, fin r (.int _) q⟩
  · cases e
    obtain rfl : x = _ := vx
    exact .inr (.inl ⟨_, rfl, fin r (.int _) q⟩)
  · split at e
    · rename_i hl
      obtain ⟨n, h1, rfl⟩ := map_some e
      obtain rfl : x = _ := vx
      exact .inr (.inr ⟨_, n, rfl, h1, hl, fin r (.int _) q⟩)
    · cases e
  · cases e
def strD : D → Option O
  | .int i => if i.natAbs.log2 < 1920 then some (.fz (.str (toString i))) else none
  | .str s => some (.fz (.str s))
  | _ => none
theorem d_str : UnD G (fun x => rStrM [x]) strD := by
  intro st σ c x ox fx o Q r tx e q
  have vx := own_view r tx
  generalize ox.toD = dx at *
  unfold strD at e
  split at e
  · split at e
    · rename_i hl
      cases e
      obtain rfl : x = _ := vx
      exact .inl ⟨_, rfl, hl, fin r (.str _) q⟩
    · cases e
  · cases e
    obtain rfl : x = _ := vx
    exact .inr ⟨_, rfl, fin r (.str _) q⟩
  · cases e
/-- repr of data without own classes -/
def reprD (d : D) : Option O := (D.py true d).bind fun p => if p.showable = true ∧ p.depth ≤ 60 ∧ p.shown.length ≤ 16777216 then some (.fz (.str p.shown)) else none
theorem d_repr : UnD G (fun x => rRepr G.K [x]) reprD := by
  intro st σ c x ox fx o Q r tx e q
  unfold reprD at e
  obtain ⟨p, h1, h2⟩ := bind_some e
  split at h2
  · rename_i h
    cases h2
    exact ⟨x, p, rfl, own_da r.sub tx h1, h.1, h.2.1, by rw [szl]; exact h.2.2, fin r (.str _) q⟩
  · cases h2
/-- truths in a list -/
def blsD : List D → Option (List Bool)
  | [] => some []
  | .bl b :: ds => (blsD ds).map (b :: ·)
  | _ => none
theorem rp_bls {F : Hp} {al : List Addr} : ∀ {ds : List D} {vs : List V} {bs : List Bool}, RpA G F al vs ds → blsD ds = some bs → vs = bs.map V.bl
  | _, _, _, .nil, h => by cases h; rfl
  | d :: ds, _, _, .cons h hs, e => by
    unfold blsD at e
    split at e
    · rename_i h0; cases h0
    · rename_i b ds' h0
      cases h0
      obtain ⟨bs', h1, rfl⟩ := map_some e
      cases h
      rw [rp_bls hs h1]; rfl
    · cases e
def allD : D → Option O
  | .lst ds => (blsD ds).map fun bs => .fz (.bl (bs.all id))
  | _ => none
theorem d_all : UnD G (fun x => L2.rAll G.K [x]) allD := by
  intro st σ c x ox fx o Q r tx e q
  have vx := own_view r tx
  generalize ox.toD = dx at *
  unfold allD at e
  split at e
  · obtain ⟨bs, h1, rfl⟩ := map_some e
    obtain ⟨a, xs, rfl, hx, rx⟩ := vx
    rw [rp_bls rx h1] at hx
    exact ⟨a, bs, rfl, .inl (.inl hx), fin r (.bl _) q⟩
  · cases e
/-- tuple(x), list(x) of what is walked by places -/
def tupleD : D → Option O
  | .lst ds => some (.fz (.tup ds))
  | .lsk ds => some (.fz (.tup ds))
  | .tup ds => some (.fz (.tup ds))
  | _ => none
def listD : D → Option O
  | .lst ds => some (.lst ds)
  | .lsk ds => some (.lst ds)
  | .tup ds => some (.lst ds)
  | .tuk ds => some (.lst ds)
  | .tun ds => some (.lst ds)
  | _ => none
/-! ### in -/
def flatD : D → Bool
  | .non => true
  | .bl _ => true
  | .int _ => true
  | .str _ => true
  | _ => false
def eqF : D → D → Bool
  | .non, .non => true
  | .bl a, .bl b => a == b
  | .bl a, .int b => (if a then 1 else 0) == b
  | .int a, .bl b => a == (if b then 1 else 0)
  | .int a, .int b => a == b
  | .str a, .str b => a == b
  | _, _ => false
theorem flat_view {c : Cf} {v : V} {d : D} (h : Vi G c v d) (k : flatD d = true) : flatV v = true := by
  cases d with
  | non => obtain rfl : v = _ := h; rfl
  | bl _ => obtain rfl : v = _ := h; rfl
  | int _ => obtain rfl : v = _ := h; rfl
  | str _ => obtain rfl : v = _ := h; rfl
  | _ => cases k
theorem eqF_view {c : Cf} {v u : V} {d e : D} (h : Vi G c v d) (h2 : Vi G c u e) (k : flatD d = true) (k2 : flatD e = true) : eqV v u = eqF d e := by
  cases d with
  | non => cases e <;> first | (obtain rfl : v = _ := h; obtain rfl : u = _ := h2; rfl) | cases k2
  | bl _ => cases e <;> first | (obtain rfl : v = _ := h; obtain rfl : u = _ := h2; rfl) | cases k2
  | int _ => cases e <;> first | (obtain rfl : v = _ := h; obtain rfl : u = _ := h2; rfl) | cases k2
  | str _ => cases e <;> first | (obtain rfl : v = _ := h; obtain rfl : u = _ := h2; rfl) | cases k2
  | _ => cases k
theorem in_flat {st : S} {σ : L2.St} {c : Cf} {x : V} {d : D} (r : Rel G st σ c) (hx : Vi G c x d) (k : flatD d = true) : ∀ {vs : List V} {ds : List D}, RpA G c.F c.al vs ds → ds.all flatD = true →
    vs.all flatV = true ∧ inV x vs = ds.any fun y => eqF y d
  | _, _, .nil, _ => ⟨rfl, rfl⟩
  | _, _, .cons h hs, e => by
    rw [List.all_cons, Bool.and_eq_true] at e
    obtain ⟨i1, i2⟩ := in_flat r hx k hs e.2
    have vv := rp_view r h
    refine ⟨by rw [List.all_cons, flat_view vv e.1, i1]; rfl, ?_⟩
    show (eqV _ x || inV x _) = _
    rw [i2, eqF_view vv hx e.1 k, List.any_cons]
def itemsD : D → Option (List D)
  | .lst ds => some ds
  | .lsk ds => some ds
  | .tup ds => some ds
  | .tuk ds => some ds
  | .tun ds => some ds
  | _ => none
theorem items_view {c : Cf} {v : V} {d : D} {es : List D} (h : Vi G c v d) (hi : itemsD d = some es) : ∃ p xs, v = .ref p ∧ (SqL G.K c.H p xs ∨ SqT G.K c.H p xs) ∧ RpA G c.F c.al xs es := by
  cases d with
  | lst _ => cases hi; obtain ⟨a, xs, rfl, hx, rx⟩ := h; exact ⟨a, xs, rfl, .inl (.inl (.inl hx)), rx⟩
  | lsk _ => cases hi; obtain ⟨a, xs, rfl, hx, rx⟩ := h; exact ⟨a, xs, rfl, .inl hx, rx⟩
  | tup _ => cases hi; obtain ⟨a, xs, rfl, hx, rx, _⟩ := h; exact ⟨a, xs, rfl, .inr hx, rx⟩
  | tuk _ => cases hi; obtain ⟨a, xs, rfl, hx, rx⟩ := h; exact ⟨a, xs, rfl, .inr hx, rx⟩
  | tun _ => cases hi; obtain ⟨a, xs, rfl, hx, rx, _⟩ := h; exact ⟨a, xs, rfl, .inr hx, rx⟩
  | _ => cases hi
def inB (x y : D) : Option Bool := match x, y with
  | .str a, .str z => if a.length = 1 then some (decide (a.cps.toList.getD 0 0 ∈ z.cps.toList)) else none
  | x, y => match itemsD y with
    | some ds => if flatD x = true ∧ ds.all flatD = true then some (ds.any fun y => eqF y x) else none
    | none => none
def inD (x y : D) : Option O := (inB x y).map fun b => .fz (.bl b)
def ninD (x y : D) : Option O := (inB x y).map fun b => .fz (.bl (!b))
theorem in_ok {st : S} {σ : L2.St} {c : Cf} {x y : V} {ox oy : O} {fx fy : List Addr} {b : Bool} (r : Rel G st σ c) (tx : OwnT G c.F c.al c.H ox x fx) (ty : OwnT G c.F c.al c.H oy y fy) (e : inB ox.toD oy.toD = some b) :
    (∃ (n : Nat) (z : Str), x = .str ⟨#[n]⟩ ∧ y = .str z ∧ b = decide (n ∈ z.cps.toList)) ∨ ∃ p xs, y = .ref p ∧ (SqL G.K c.H p xs ∨ SqT G.K c.H p xs) ∧ flatV x = true ∧ xs.all flatV = true ∧ b = inV x xs := by
  have vx := own_view r tx
  have vy := own_view r ty
  generalize ox.toD = dx at *
  generalize oy.toD = dy at *
  unfold inB at e
  split at e
  · rename_i a z
    split at e
    · rename_i hl
      cases e
      obtain rfl : x = _ := vx
      obtain rfl : y = _ := vy
      obtain ⟨n, hn⟩ : ∃ n, a.cps.toList = [n] := by
        have : a.cps.toList.length = 1 := by rw [← L2.Pc.len_list]; exact hl
        cases h : a.cps.toList with
        | nil => rw [h] at this; cases this
        | cons n l => cases l with
          | nil => exact ⟨n, rfl⟩
          | cons _ _ => rw [h] at this; simp at this
      refine .inl ⟨n, z, ?_, rfl, by rw [hn]; rfl⟩
      rw [show a = (⟨#[n]⟩ : Str) from str_ext hn]
    · cases e
  · split at e
    · rename_i ds hi
      split at e
      · rename_i hf
        cases e
        obtain ⟨p, xs, rfl, hs, rx⟩ := items_view vy hi
        obtain ⟨i1, i2⟩ := in_flat r vx hf.1 rx hf.2
        exact .inr ⟨p, xs, rfl, hs, flat_view vx hf.1, i1, i2.symm⟩
      · cases e
    · cases e
theorem d_in : OpD G (rInM G.K false) inD := by
  intro st σ c x y ox oy fx fy o Q r tx ty e q
  obtain ⟨b, h1, rfl⟩ := map_some e
  rcases in_ok r tx ty h1 with ⟨n, z, rfl, rfl, rfl⟩ | ⟨p, xs, rfl, h2, h3, h4, rfl⟩
  · exact .inl ⟨n, z, rfl, rfl, fin r (.bl _) q⟩
  · exact .inr ⟨p, xs, rfl, h2, h3, h4, fin r (.bl _) q⟩
theorem d_nin : OpD G (rInM G.K true) ninD := by
  intro st σ c x y ox oy fx fy o Q r tx ty e q
  obtain ⟨b, h1, rfl⟩ := map_some e
  rcases in_ok r tx ty h1 with ⟨n, z, rfl, rfl, rfl⟩ | ⟨p, xs, rfl, h2, h3, h4, rfl⟩
  · exact .inl ⟨n, z, rfl, rfl, fin r (.bl _) q⟩
  · exact .inr ⟨p, xs, rfl, h2, h3, h4, fin r (.bl _) q⟩
/-! ### methods of texts, by their values -/
def strsD : List D → Option (List Str)
  | [] => some []
  | .str b :: ds => (strsD ds).map (b :: ·)
  | _ => none
theorem rp_strs {F : Hp} {al : List Addr} : ∀ {ds : List D} {vs : List V} {bs : List Str}, RpA G F al vs ds → strsD ds = some bs → vs = bs.map V.str
  | _, _, _, .nil, h => by cases h; rfl
  | d :: ds, _, _, .cons h hs, e => by
    unfold strsD at e
    split at e
    · rename_i h0; cases h0
    · rename_i b ds' h0
      cases h0
      obtain ⟨bs', h1, rfl⟩ := map_some e
      cases h
      rw [rp_strs hs h1]; rfl
    · cases e
def joinD (x : D) (ds : List D) : Option O := match x, ds with
  | .str a, [d] => match itemsD d with
    | some es => (strsD es).bind fun ys => if (ys.map (·.length)).sum + ys.length * a.length ≤ 16777216 then some (.fz (.str (Txt.join a ys))) else none
    | none => none
  | _, _ => none
theorem d_join : MnD G (L2.Pc.rJoin G.K) joinD := by
  intro st σ c x vs ox fx ds o Q r tx rv e q
  have vx := own_view r tx
  generalize ox.toD = dx at *
  unfold joinD at e
  split at e
  · rename_i a d
    split at e
    · rename_i es hi
      obtain ⟨ys, h1, h2⟩ := bind_some e
      split at h2
      · rename_i hl
        cases h2
        obtain rfl : x = _ := vx
        cases rv with
        | cons h hs =>
          cases hs
          have vd := rp_view r h
          obtain ⟨p, xs, rfl, hsq, rx⟩ := items_view vd hi
          rw [rp_strs rx h1] at hsq
          exact ⟨a, p, ys, rfl, rfl, hsq, hl, fin r (.str _) q⟩
      · cases h2
    · cases e
  · cases e
def stripD (x : D) (ds : List D) : Option O := match x, ds with
  | .str a, [.str b] => if a.length ≤ 16777216 then some (.fz (.str (Txt.stripChars a b))) else none
  | _, _ => none
theorem d_strip : MnD G rStrip stripD := by
  intro st σ c x vs ox fx ds o Q r tx rv e q
  have vx := own_view r tx
  generalize ox.toD = dx at *
  unfold stripD at e
  split at e
  · split at e
    · rename_i hl
      cases e
      obtain rfl : x = _ := vx
      cases rv with
      | cons h hs => cases h; cases hs; exact ⟨_, _, rfl, rfl, by rw [szl]; exact hl, fin r (.str _) q⟩
    · cases e
  · cases e
def zfillD (x : D) (ds : List D) : Option O := match x, ds with
  | .str a, [.int i] => if PadOk i = true then some (.fz (.str (Txt.zfill a i))) else none
  | _, _ => none
theorem d_zfill : MnD G rZfill zfillD := by
  intro st σ c x vs ox fx ds o Q r tx rv e q
  have vx := own_view r tx
  generalize ox.toD = dx at *
  unfold zfillD at e
  split at e
  · split at e
    · rename_i hl
      cases e
      obtain rfl : x = _ := vx
      cases rv with
      | cons h hs => cases h; cases hs; exact ⟨_, _, rfl, rfl, hl, fin r (.str _) q⟩
    · cases e
  · cases e
def upperD (x : D) (ds : List D) : Option O := match x, ds with
  | .str a, [] => if a.length ≤ 5592405 then some (.fz (.str (Txt.upper a))) else none
  | _, _ => none
theorem d_upper : MnD G rUpper upperD := by
  intro st σ c x vs ox fx ds o Q r tx rv e q
  have vx := own_view r tx
  generalize ox.toD = dx at *
  unfold upperD at e
  split at e
  · split at e
    · rename_i hl
      cases e
      obtain rfl : x = _ := vx
      cases rv
      exact ⟨_, rfl, rfl, hl, fin r (.str _) q⟩
    · cases e
  · cases e
def partD (x : D) (ds : List D) : Option O := match x, ds with
  | .str a, [.str b] => if b.length ≠ 0 ∧ a.length ≤ 16777216 then some (.fz (.tup [.str (Txt.partition a b).1, .str (Txt.partition a b).2.1, .str (Txt.partition a b).2.2])) else none
  | _, _ => none
theorem d_part : MnD G rPart partD := by
  intro st σ c x vs ox fx ds o Q r tx rv e q
  have vx := own_view r tx
  generalize ox.toD = dx at *
  unfold partD at e
  split at e
  · split at e
    · rename_i hl
      cases e
      obtain rfl : x = _ := vx
      cases rv with
      | cons h hs =>
        cases h; cases hs
        exact ⟨_, _, rfl, rfl, by simpa using hl.1, by rw [szl]; exact hl.2, finT r (.cons (.str _) (.cons (.str _) (.cons (.str _) .nil))) q⟩
    · cases e
  · cases e
/-! ### isinstance of data -/
def clsName : D → Option String
  | .non => some "NoneType"
  | .bl _ => some "bool"
  | .int _ => some "int"
  | .str _ => some "str"
  | .tup _ => some "tuple"
  | .tuk _ => some "tuple"
  | .tun _ => some "tuple"
  | .lst _ => some "list"
  | .lsk _ => some "list"
  | .dct _ => some "dict"
  | _ => none
theorem rd_ty {K : PySem.W.Frag} {H : Hp} {a : Addr} {kvs : List (Key × V)} (h : Rd H a (.dK kvs)) : TyX K H (.ref a) (.type "dict") := by
  rcases h with h | ⟨o, h⟩
  · exact .base (.dK h)
  · exact .fDict h
theorem sqL_ty {K : PySem.W.Frag} {H : Hp} {a : Addr} {xs : List V} (h : SqL K H a xs) : TyX K H (.ref a) (.type "list") := by
  rcases h with (h | ⟨o, h⟩) | ⟨o, its, n, h, hc, _⟩
  · exact .base (.lst h)
  · exact .base (.frz h)
  · exact .kList h hc
theorem sqT_ty {K : PySem.W.Frag} {H : Hp} {a : Addr} {xs : List V} (h : SqT K H a xs) : TyX K H (.ref a) (.type "tuple") := by
  rcases h with (h | ⟨o, h⟩) | ⟨o, its, n, h, hc, _⟩
  · exact .base (.tup h)
  · exact .fTuple h
  · exact .kTuple h hc
theorem rp_ty {st : S} {σ : L2.St} {c : Cf} {v : V} {d : D} {k : String} (r : Rel G st σ c) (t : Rp G c.F c.al v d) (e : clsName d = some k) : TyX G.K c.H v (.type k) := by
  cases t with
  | non => cases e; exact .base .non
  | bl b => cases e; exact .base (.bl b)
  | int i => cases e; exact .base (.int i)
  | str x => cases e; exact .base (.str x)
  | tup h hs => cases e; exact sqT_ty (.inl (.inl (r.sub _ _ h)))
  | tuk h hs => cases e; exact sqT_ty (r.rdT h)
  | tun h k hs => cases e; exact sqT_ty (sqT_fz (r.sub _ _ h))
  | lst h hs => cases e; exact sqL_ty (.inl (.inl (r.sub _ _ h)))
  | lsk h hs => cases e; exact sqL_ty (r.rdL h)
  | dcK h q hs => cases e; exact rd_ty (rd_mo r.sub h)
  | _ => cases e
/-- what isinstance tells of a kind and a built-in type -/
def kindIs : String → String → Option Bool
  | k, "str" => some (k == "str")
  | k, "int" => some (k == "int" || k == "bool")
  | k, "bool" => some (k == "bool")
  | k, "tuple" => some (k == "tuple")
  | k, "list" => some (k == "list")
  | k, "dict" => some (k == "dict")
  | _, _ => none
theorem kind_kit {d : D} {k n : String} {b : Bool} (e : clsName d = some k) (h : kindIs k n = some b) : kitB k n = some b := by
  have all : ∀ k ∈ ["NoneType", "bool", "int", "str", "tuple", "list", "dict"], ∀ n ∈ ["str", "int", "bool", "tuple", "list", "dict"], kitB k n = kindIs k n := by decide +kernel
  have hk : k ∈ ["NoneType", "bool", "int", "str", "tuple", "list", "dict"] := by
    cases d <;> cases e <;> decide
  have hn : n ∈ ["str", "int", "bool", "tuple", "list", "dict"] := by
    unfold kindIs at h
    split at h <;> first | decide | cases h
  rw [all k hk n hn, h]
def isiD : List D → Option O
  | [x, .ty n] => (clsName x).bind fun k => (kindIs k n).map fun b => .fz (.bl b)
  | _ => none
theorem d_isi : CnD G (rIsi G.K) isiD := by
  intro st σ c vs ds o Q r rv e q
  unfold isiD at e
  split at e
  · rename_i x n
    obtain ⟨k, h1, h2⟩ := bind_some e
    obtain ⟨b, h3, rfl⟩ := map_some h2
    cases rv with
    | cons h hs =>
      cases hs with
      | cons h' hs' =>
        cases h'
        cases hs'
        exact ⟨_, .ty n, _, _, b, rfl, .ty _, rp_ty r h h1, kit_ty (kind_kit h1 h3), fin r (.bl _) q⟩
  · cases e
end
end L2.Tr
namespace L2.Tr
open PySem PySem.Spec PyProof.Rows L2 L2.Pc
/-! ### short words for derivations -/
section
variable {X : Cx} {G : Gi} {W : WX} {e : Expr} {m : M O} {pos : Pos}
theorem noPass {σ : L2.St} : PassesAt (L2.CX X.prog X.w) X σ (WE noW σ) := fun _ _ _ _ _ _ c => by
  obtain ⟨_, _, _, _, _, _, _, _, _, _, _, _, h⟩ := c
  exact h.elim
theorem nog {p : Prop} : false = true → p := fun z => by cases z
theorem tv (i : Nat) {x : Str} (hN : X.N[i]? = some x := by rfl) (hv : Vis X.env.scope x := by first | exact Or.inl rfl | exact Or.inr (Or.inl rfl) | exact Or.inr (Or.inr rfl)) (hd : (x == ("__debug__" : Str)) = false := by decide)
    (hcd : (x == ("__classdict__" : Str)) = false := by decide) : PE X (.Name x pos) (tO G W (xVar i)) := x_var hN hv hd hcd
theorem tm (i : Nat) {x : Str} (hN : X.N[i]? = some x := by rfl) (hv : Vis X.env.scope x := by first | exact Or.inl rfl | exact Or.inr (Or.inl rfl) | exact Or.inr (Or.inr rfl)) (hd : (x == ("__debug__" : Str)) = false := by decide)
    (hcd : (x == ("__classdict__" : Str)) = false := by decide) : PE X (.Name x pos) (tO G W (xMov i)) := x_mov hN hv hd hcd
theorem tb (i : Nat) {x : Str} (hN : X.N[i]? = some x := by rfl) (hv : Vis X.env.scope x := by first | exact Or.inl rfl | exact Or.inr (Or.inl rfl) | exact Or.inr (Or.inr rfl)) (hd : (x == ("__debug__" : Str)) = false := by decide)
    (hcd : (x == ("__classdict__" : Str)) = false := by decide) : PE X (.Name x pos) (tBr G W (xBor i)) := x_bvar hN hv hd hcd
theorem tq (i : Nat) {x : Str} (hN : X.N[i]? = some x := by rfl) (hv : Vis X.env.scope x := by first | exact Or.inl rfl | exact Or.inr (Or.inl rfl) | exact Or.inr (Or.inr rfl)) (hd : (x == ("__debug__" : Str)) = false := by decide)
    (hcd : (x == ("__classdict__" : Str)) = false := by decide) : PE X (.Name x pos) (tQ G (qVar i)) := xq_var hN hv hd hcd
/-- a slot's thing, or what its cell holds -/
def xRd (i : Nat) : M O := fun s => match getS s.env i with
  | some (.fz (.cel n)) => (match getM s.mu n with
    | some o => .ok o s
    | none => .no)
  | some o => .ok o s
  | none => .no
theorem x_rd {i : Nat} {x : Str} (hN : X.N[i]? = some x) (hv : Vis X.env.scope x) (hd : (x == ("__debug__" : Str)) = false := by decide) (hcd : (x == ("__classdict__" : Str)) = false := by decide) : PE X (.Name x pos) (tLa G W (xRd i)) :=
  (pe_var hN hv hd hcd).weak fun σ H Q q => by
    obtain ⟨c, st, rfl, r, w⟩ := q
    unfold xRd at w
    split at w
    · rename_i n h
      split at w
      · rename_i o h2
        obtain ⟨v, f2, q1, q2, _⟩ := place (i := i) r (show getP st i = some o by unfold getP; rw [h]; exact h2)
        exact ⟨v, q1, w v c r (GoE.refl r) ⟨f2, q2⟩⟩
      · exact w.elim
    · rename_i o h1 h
      obtain ⟨v, g1, g2, g3, q1, q2, _⟩ := slots_get r.slots h
      exact ⟨v, q1, w v c r (GoE.refl r) ⟨g2, q2⟩⟩
    · exact w.elim
theorem tr (i : Nat) {x : Str} (hN : X.N[i]? = some x := by rfl) (hv : Vis X.env.scope x := by first | exact Or.inl rfl | exact Or.inr (Or.inl rfl) | exact Or.inr (Or.inr rfl)) (hd : (x == ("__debug__" : Str)) = false := by decide)
    (hcd : (x == ("__classdict__" : Str)) = false := by decide) : PE X (.Name x pos) (tLa G W (xRd i)) := x_rd hN hv hd hcd
theorem tc_int {i : Int} {j : Nat} : PE X (.Constant (.int i) j pos) (tO G W (xC (.int i))) := x_c pe_int fun _ _ => .int i
theorem tc_bl {b : Bool} {j : Nat} : PE X (.Constant (.bool b) j pos) (tO G W (xC (.bl b))) := x_c pe_bl fun _ _ => .bl b
theorem tc_non {j : Nat} : PE X (.Constant .none j pos) (tO G W (xC .non)) := x_c pe_non fun _ _ => .non
theorem tc_str {s : Str} {j : Nat} : PE X (.Constant (.str s) j pos) (tO G W (xC (.str s))) := x_c pe_str fun _ _ => .str s
theorem tq_int {i : Int} {j : Nat} : PE X (.Constant (.int i) j pos) (tQ G fun _ => some (.int i)) := xq_c pe_int fun _ _ => .int i
/-- a module's constant -/
structure Gc (G : Gi) (x : Str) (d : D) : Prop where
  ex : ∃ v, Gm G.mg x v ∧ ∀ F al, Rp G F al v d
theorem tg {x : Str} {d : D} (h : Gc G x d) (hM : X.mg = G.mg) (hg : Gl X x) (hd : (x == ("__debug__" : Str)) = false := by decide) : PE X (.Name x pos) (tO G W (xC d)) := by
  obtain ⟨v, h1, h2⟩ := h.ex
  exact x_c (pe_gm (by rw [hM]; exact h1) hg hd) h2
end
/-! ### several values, owned -/
section
variable {G : Gi} {W : WX}
def PrAO (G : Gi) : List O → Cf → Cf → List V → Prop := fun os c c' vs => ∃ fp, OwnA G c'.F c'.al c'.H os vs fp ∧ Fresh fp c' ∧ New fp c
abbrev tAo (G : Gi) (W : WX) (m : M (List O)) : TA := tG G W (PrAO G) m
def oNil : M (List O) := ret []
def oCons (m : M O) (ms : M (List O)) : M (List O) := bnd m fun d => bnd ms fun ds => ret (d :: ds)
@[simp] theorem oNil_app (s : S) : oNil s = .ok [] s := rfl
@[simp] theorem oCons_app (m : M O) (ms : M (List O)) (s : S) : oCons m ms s = (m s).bind fun d s1 => (ms s1).bind fun ds => ret (d :: ds) := rfl
variable {X : Cx} {e : Expr} {es : List Expr} {m : M O} {ms : M (List O)}
theorem xo_nil : PA X [] (tAo G W oNil) := (pa_nil (X := X)).weak fun σ H Q q => by
  obtain ⟨c, st, rfl, r, h⟩ := q
  exact h [] c r (GoE.refl r) ⟨[], .nil, Fresh.nil _, New.nil _⟩
theorem ocons_t {σ : L2.St} {H : Hp} {Q : List V → Hp → Prop} (q : tAo G W (oCons m ms) σ H Q) : tCons (tO G W m) (tAo G W ms) σ H Q := by
  show tO G W m σ H fun x H1 => tAo G W ms σ H1 fun xs H2 => Q (x :: xs) H2
  obtain ⟨c0, st0, e0, r0, h0⟩ := q
  refine ⟨c0, st0, e0, r0, wp_mono (wp_bind.mp h0) (fun o st1 w v c1 r1 g1 p1 => ?_) (fun _ _ h => h)⟩
  obtain ⟨f1, t1, fr1, n1⟩ := p1
  refine ⟨c1, st1, rfl, r1, wp_mono (wp_bind.mp w) (fun os st2 w2 vs c2 r2 g2 p2 => ?_) (fun x s h => h.go g1)⟩
  obtain ⟨f2, t2, fr2, n2⟩ := p2
  obtain ⟨t1', fr1'⟩ := OwnT.go t1 fr1 g2.toGo
  refine w2 (v :: vs) c2 r2 (g1.trans g2) ⟨f1 ++ f2, .cons t1' t2, ?_, fun a ha => (List.mem_append.mp ha).elim (n1 a) (n2.go g1.toGo a)⟩
  refine ⟨List.nodup_append.mpr ⟨fr1'.nd, fr2.nd, fun a ha b hb e => ?_⟩, fun a ha => (List.mem_append.mp ha).elim (fr1'.nf a) (fr2.nf a), fun a ha => (List.mem_append.mp ha).elim (fr1'.ns a) (fr2.ns a),
    fun a ha => (List.mem_append.mp ha).elim (fr1'.nc a) (fr2.nc a)⟩
  subst e
  rcases n2 a hb with z | z | z
  · exact fr1.ns a ha z
  · exact fr1.nc a ha z
  · exact t1.there a ha z
theorem xo_cons (ha : PE X e (tO G W m)) (hr : PA X es (tAo G W ms)) (hs : starEach (e :: es) X.env = (false, eval e X.env) :: starEach es X.env := by rfl) : PA X (e :: es) (tAo G W (oCons m ms)) :=
  (pa_cons ha hr hs).weak fun _ _ _ q => ocons_t q
/-- a, b = x, y -/
def sPar (i j : Nat) (ms : M (List O)) : M Fl := bnd ms fun os s => match os with
  | [o, p] => .ok .nx ⟨setS (setS s.env i (some o)) j (some p), s.mu⟩
  | _ => .no
def sPar3 (i j l : Nat) (ms : M (List O)) : M Fl := bnd ms fun os s => match os with
  | [o, p, r] => .ok .nx ⟨setS (setS (setS s.env i (some o)) j (some p)) l (some r), s.mu⟩
  | _ => .no
/-- a slot stored to, the rest of what is at hand stays at hand -/
theorem rel_put2 {st : S} {σ : L2.St} {c0 c : Cf} {i : Nat} {o : O} {v : V} {fp fq : List Addr} (r : Rel G st σ c) (t : OwnT G c.F c.al c.H o v fp) (f : Fresh (fp ++ fq) c) (g : Go c0 c) (n : New fp c0) :
    ∃ c', c'.H = c.H ∧ Rel G ⟨setS st.env i (some o), st.mu⟩ (σ.set i (some v)) c' ∧ Go c0 c' ∧ c'.F = c.F ∧ c'.al = c.al ∧ Fresh fq c' := by
  have nd := List.nodup_append.mp f.nd
  have f1 : Fresh fp c := ⟨nd.1, fun a h => f.nf a (List.mem_append_left _ h), fun a h => f.ns a (List.mem_append_left _ h), fun a h => f.nc a (List.mem_append_left _ h)⟩
  obtain ⟨c', e, r', g', eF, eA, hs, hc⟩ := rel_put (i := i) r t f1 g n
  refine ⟨c', e, r', g', eF, eA, nd.2.1, fun a h => by rw [eF]; exact f.nf a (List.mem_append_right _ h), fun a h => hs a (fun z => nd.2.2 a z a h rfl) (f.ns a (List.mem_append_right _ h)), fun a h => by rw [hc]; exact f.nc a (List.mem_append_right _ h)⟩
theorem par_t {i j : Nat} {D' : Ends} {σ : L2.St} {H : Hp} (q : tS G W (sPar i j ms) D' σ H) : tPar i j (tAo G W ms) D' σ H := by
  show tAo G W ms σ H fun vs H1 => ∃ v w, vs = [v, w] ∧ D'.nx ((σ.set i (some v)).set j (some w)) H1
  refine tS.ex q _ (fun os vs c c1 st1 r1 g1 p1 w => ?_)
  obtain ⟨fp, t, f, n⟩ := p1
  split at w
  · rename_i o p
    cases t with
    | @cons _ v _ _ fa fb t1 ts =>
      cases ts with
      | @cons _ u _ _ fc fd t2 ts =>
        cases ts
        rw [List.append_nil] at f n
        refine ⟨v, u, rfl, ?_⟩
        obtain ⟨c2, e2, r2, g2, eF, eA, f2⟩ := rel_put2 (i := i) r1 t1 f g1.toGo (fun a h => n a (List.mem_append_left _ h))
        obtain ⟨c3, e3, r3, g3, _⟩ := rel_put (i := j) r2 (t2.mo (by rw [eF, eA]; exact Mo.refl _ _) fun a _ => by rw [e2]) f2 g2 (fun a h => n a (List.mem_append_right _ h))
        have w : Fw G D' c .nx _ := w
        rw [← e2, ← e3]
        exact w _ c3 r3 g3
  · exact w.elim
theorem par3_t {i j l : Nat} {D' : Ends} {σ : L2.St} {H : Hp} (q : tS G W (sPar3 i j l ms) D' σ H) : tPar3 i j l (tAo G W ms) D' σ H := by
  show tAo G W ms σ H fun vs H1 => ∃ u v w, vs = [u, v, w] ∧ D'.nx (((σ.set i (some u)).set j (some v)).set l (some w)) H1
  refine tS.ex q _ (fun os vs c c1 st1 r1 g1 p1 w => ?_)
  obtain ⟨fp, t, f, n⟩ := p1
  split at w
  · rename_i o p s
    cases t with
    | @cons _ v _ _ fa fb t1 ts =>
      cases ts with
      | @cons _ u _ _ fc fd t2 ts =>
        cases ts with
        | @cons _ x _ _ fe ff t3 ts =>
          cases ts
          rw [List.append_nil] at f n
          refine ⟨v, u, x, rfl, ?_⟩
          obtain ⟨c2, e2, r2, g2, eF, eA, f2⟩ := rel_put2 (i := i) r1 t1 f g1.toGo (fun a h => n a (List.mem_append_left _ h))
          obtain ⟨c3, e3, r3, g3, eF3, eA3, f3⟩ := rel_put2 (i := j) r2 (t2.mo (by rw [eF, eA]; exact Mo.refl _ _) fun a _ => by rw [e2]) f2 g2 (fun a h => n a (List.mem_append_right _ (List.mem_append_left _ h)))
          obtain ⟨c4, e4, r4, g4, _⟩ := rel_put (i := l) r3 (t3.mo (by rw [eF3, eA3, eF, eA]; exact Mo.refl _ _) fun a _ => by rw [e3, e2]) f3 g3 (fun a h => n a (List.mem_append_right _ (List.mem_append_right _ h)))
          have w : Fw G D' c .nx _ := w
          rw [← e2, ← e3, ← e4]
          exact w _ c4 r4 g4
  · exact w.elim
end
/-! ### chains of two comparisons -/
section
variable {X : Cx} {G : Gi} {W : WX} {a b c : Expr} {ma mb mc : M O} {pos : Pos}
/-- a < b < c -/
def xChain (g g' : D → D → Option O) (ma mb mc : M O) : M O := bnd ma fun x => bnd mb fun y => match (g x.toD y.toD).bind asB with
  | some true => bnd mc fun z => ofO (g' y.toD z.toD)
  | some false => ret (.fz (.bl false))
  | none => fun _ => .no
theorem asB_some {o : O} {b : Bool} (h : asB o = some b) : o = .fz (.bl b) := by
  unfold asB at h
  split at h
  · cases h; rfl
  · cases h
theorem chain_t {r r' : R2} {g g' : D → D → Option O} (hr : OpD G r g) (hr' : OpD G r' g') {σ : L2.St} {H : Hp} {Q : VK} (q : tO G W (xChain g g' ma mb mc) σ H Q) :
    tChain r r' (tBr G W ma) (tBr G W mb) (tLa G W mc) σ H Q := by
  show tBr G W ma σ H fun x H1 => tBr G W mb σ H1 fun y H2 => r x y H2 fun z H3 => ∃ k, z = .bl k ∧ (if k = true then tLa G W mc σ H3 fun w' H4 => r' y w' H4 Q else Q (.bl false) H3)
  refine q.seq bkO _ (fun ox x c c1 st1 r1 g1 p1 w => ?_)
  obtain ⟨fx, tx, kx⟩ := p1
  refine tG.seq1 bkO r1 w _ (fun oy y c2 st2 r2 g2 p2 w2 => ?_)
  obtain ⟨fy, ty, ky⟩ := p2
  cases e : (g ox.toD oy.toD).bind asB with
  | none => rw [e] at w2; exact w2.elim
  | some b =>
    rw [e] at w2
    obtain ⟨o, e1, e2⟩ := bind_some e
    obtain rfl := asB_some e2
    refine hr st2 σ c2 x y ox oy fx fy _ _ r2 (kx.go tx g2) ty e1 (fun v c3 r3 g3 p3 => ⟨b, prO_bl b _ _ _ p3, ?_⟩)
    have w2 := wp_mono w2 (fun (o : O) st' (q : ∀ u c', Rel G st' σ c' → GoE c2 c' → PrO G o c2 c' u → Q u c'.H) => (fun u c' r' g' p' => q u c' r' (g3.trans g') (bkO _ _ _ _ _ g3 p') : ∀ u c', Rel G st' σ c' → GoE c3 c' → PrO G o c3 c' u → Q u c'.H)) (fun x s q => q.go g3)
    cases b with
    | false => exact w2 _ c3 r3 (GoE.refl r3) (prO_fz (.bl _))
    | true =>
      rw [if_pos rfl]
      refine tG.seq1 bkO r3 w2 _ (fun oz z c4 st4 r4 g4 p4 w4 => ?_)
      obtain ⟨fz, tz⟩ := p4
      obtain ⟨o, eo, q3⟩ := wp_ofO.mp w4
      exact hr' st4 σ c4 y z oy oz fy fz o Q r4 (ky.go ty (g3.trans g4)) tz eo q3
theorem x_chain {op op' : CmpOp} {r r' : R2} {g g' : D → D → Option O} (ho : OpR X (compareOp op) r) (ho' : OpR X (compareOp op') r') (hr : OpD G r g) (hr' : OpD G r' g') (ha : PE X a (tBr G W ma)) (hb : PE X b (tBr G W mb)) (hc : PE X c (tLa G W mc))
    (hm : lastMarks [op, op'] [b, c] = false := by with_unfolding_all rfl) : PE X (.Compare a [op, op'] [b, c] pos) (tO G W (xChain g g' ma mb mc)) := (pe_chain ho ho' ha hb hc hm).weak fun _ _ _ q => chain_t hr hr' q
theorem xt_chain {op op' : CmpOp} {r r' : R2} {g g' : D → D → Option O} (ho : OpR X (compareOp op) r) (ho' : OpR X (compareOp op') r') (hr : OpD G r g) (hr' : OpD G r' g') (ha : PE X a (tBr G W ma)) (hb : PE X b (tBr G W mb)) (hc : PE X c (tLa G W mc))
    (hm : lastMarks [op, op'] [b, c] = false := by with_unfolding_all rfl) : PT X (.Compare a [op, op'] [b, c] pos) (tTs G W (toB (xChain g g' ma mb mc))) := (pt_chain ho ho' ha hb hc hm).weak fun _ _ _ q => by
  have q2 := test_t (prO_bl (G := G)) q
  exact chain_t hr hr' q2
/-- the last of and, or as a value -/
theorem x_one {op : BoolOp} (ha : PE X a (tO G W ma)) : PE X (.BoolOp op [a] pos) (tO G W ma) := pe_one ha
end
section
variable {X : Cx} {G : Gi} {W : WX} {ms : M (List O)} {pos : Pos}
theorem s_par {i j : Nat} {x y : Str} {a b : Expr} {px py pt : Pos} {kt k2 : Nat} {pt2 : Pos} (h : PS X (.Assign [.Tuple [.Name x px, .Name y py] kt pt] (.Tuple [a, b] k2 pt2) pos) (tPar i j (tAo G W ms))) :
    PS X (.Assign [.Tuple [.Name x px, .Name y py] kt pt] (.Tuple [a, b] k2 pt2) pos) (tS G W (sPar i j ms)) := h.weak fun _ _ _ q => par_t q
theorem s_par3 {i j l : Nat} {st : Stmt} (h : PS X st (tPar3 i j l (tAo G W ms))) : PS X st (tS G W (sPar3 i j l ms)) := h.weak fun _ _ _ q => par3_t q
theorem tg_tupK {K : PySem.W.Frag} {gs : TGs} {ts : List MT} {n : Nat} (hK : G.K = K) (h : TgsOk G gs ts) (hn : ts.length = n := by rfl) : TgOk G (gTup K n gs) (gT ts) := hK ▸ tg_tup h hn
end
/-! ### max, min of some ints -/
end L2.Tr
namespace L2.Tr
open PySem PySem.Spec PyProof.Rows L2 L2.Pc
section
variable {X : Cx} {G : Gi} {W : WX} {e o : Expr} {m : M O} {md : M D} {pos apos cpos : Pos} {r : V → List V → Hp → VK → Prop} {g : D → List D → Option O} {id : String} {name : Str}
theorem x_m1 (slot : Slot "str" name id) (ty : typeOf (.builtin id) = pure (.type "method_descriptor")) (rule : MtR X id r) (hr : MnD G r g) (ho : PE X o (tBr G W m)) (he : PE X e (tD G W md))
    (hs : starEach [e] X.env = [(false, eval e X.env)] := by rfl) (hbase : attributeBase o name X.env (eval o X.env) = eval o X.env := by rfl) (hline : (apos.endLine == pos.line) = true := by rfl) :
    PE X (.Call (.Attribute o name apos) [e] [] pos) (tO G W (xM1 g m md)) := (pe_m1 slot ty rule ho he hs hbase hline).weak fun _ _ _ q => m1_t hr q
theorem x_m0 (slot : Slot "str" name id) (ty : typeOf (.builtin id) = pure (.type "method_descriptor")) (rule : MtR X id r) (hr : MnD G r g) (ho : PE X o (tBr G W m))
    (hbase : attributeBase o name X.env (eval o X.env) = eval o X.env := by rfl) (hline : (apos.endLine == pos.line) = true := by rfl) :
    PE X (.Call (.Attribute o name apos) [] [] pos) (tO G W (xM0 g m)) := (pe_m0 slot ty rule ho hbase hline).weak fun _ _ _ q => m0_t hr q
end
end L2.Tr
namespace L2.Tr
open PySem PySem.Spec PyProof.Rows L2 L2.Pc
/-! ### trees without cells -/
mutual
def noC : D → Bool
  | .cel _ => false
  | .tup xs => noCA xs
  | .lst xs => noCA xs
  | .lsk xs => noCA xs
  | .tuk xs => noCA xs
  | .tun xs => noCA xs
  | .dct kvs => noCK kvs
  | .dcu kvs => noCK kvs
  | .ins _ fs => noCF fs
  | .xob _ fs => noCF fs
  | .xok _ fs => noCF fs
  | .non => true
  | .bl _ => true
  | .int _ => true
  | .str _ => true
  | .fn _ => true
  | .ty _ => true
def noCA : List D → Bool
  | [] => true
  | d :: ds => noC d && noCA ds
def noCK : List (D × D) → Bool
  | [] => true
  | (_, d) :: ds => noC d && noCK ds
def noCF : List (Str × D) → Bool
  | [] => true
  | (_, d) :: ds => noC d && noCF ds
end
theorem noCF_map : ∀ fs : List (Str × D), noCF fs = noCA (fs.map (·.2))
  | [] => by rw [noCF]; rfl
  | (_, d) :: r => by rw [noCF, List.map_cons, noCA, noCF_map r]
theorem noCK_map : ∀ fs : List (D × D), noCK fs = noCA (fs.map (·.2))
  | [] => by rw [noCK]; rfl
  | (_, d) :: r => by rw [noCK, List.map_cons, noCA, noCK_map r]
mutual
theorem Rp.al {G : Gi} {F : Hp} {al al' : List Addr} : ∀ {v : V} {d : D}, Rp G F al v d → noC d = true → Rp G F al' v d
  | _, _, .non, _ => .non
  | _, _, .bl b, _ => .bl b
  | _, _, .int i, _ => .int i
  | _, _, .str x, _ => .str x
  | _, _, .tup h hs, n => by rw [noC] at n; exact .tup h (RpA.al hs n)
  | _, _, .tuk h hs, n => by rw [noC] at n; exact .tuk h (RpA.al hs n)
  | _, _, .tun h k hs, n => by rw [noC] at n; exact .tun h k (RpA.al hs n)
  | _, _, .lst h hs, n => by rw [noC] at n; exact .lst h (RpA.al hs n)
  | _, _, .lsk h hs, n => by rw [noC] at n; exact .lsk h (RpA.al hs n)
  | _, _, .dcK h k hs, n => by rw [noC, noCK_map] at n; exact .dcK h k (RpA.al hs n)
  | _, _, .dcT h k hs, n => by rw [noC, noCK_map] at n; exact .dcT h k (RpA.al hs n)
  | _, _, .ins h k m hs, n => by rw [noC, noCF_map] at n; exact .ins h k m (RpA.al hs n)
  | _, _, .cel h, n => by rw [noC] at n; cases n
  | _, _, .fn h, _ => .fn h
  | _, _, .ty n, _ => .ty n
  | _, _, .xob h q k m hs, n => by rw [noC, noCF_map] at n; exact .xob h q k m (RpA.al hs n)
  | _, _, .xob0 h q, _ => .xob0 h q
  | _, _, .xok h q k m hs, n => by rw [noC, noCF_map] at n; exact .xok h q k m (RpA.al hs n)
  | _, _, .xok0 h q, _ => .xok0 h q
theorem RpA.al {G : Gi} {F : Hp} {al al' : List Addr} : ∀ {vs : List V} {ds : List D}, RpA G F al vs ds → noCA ds = true → RpA G F al' vs ds
  | _, _, .nil, _ => .nil
  | _, _, .cons h hs, n => by rw [noCA, Bool.and_eq_true] at n; exact .cons (Rp.al h n.1) (RpA.al hs n.2)
end
mutual
def noCO : O → Bool
  | .fz d => noC d
  | .lst xs => noCA xs
  | .dct kvs => noCK kvs
  | .dcu kvs => noCK kvs
  | .ins _ fs => noCOF fs
  | .dco kvs => noCOK kvs
  | .dcv kvs => noCOK kvs
def noCOF : List (Str × O) → Bool
  | [] => true
  | (_, d) :: ds => noCO d && noCOF ds
def noCOK : List (D × O) → Bool
  | [] => true
  | (_, d) :: ds => noCO d && noCOK ds
end
def noCOA : List O → Bool
  | [] => true
  | d :: ds => noCO d && noCOA ds
theorem noCOF_map : ∀ fs : List (Str × O), noCOF fs = noCOA (fs.map (·.2))
  | [] => by rw [noCOF]; rfl
  | (_, d) :: r => by rw [noCOF, List.map_cons, noCOA, noCOF_map r]
theorem noCOK_map : ∀ fs : List (D × O), noCOK fs = noCOA (fs.map (·.2))
  | [] => by rw [noCOK]; rfl
  | (_, d) :: r => by rw [noCOK, List.map_cons, noCOA, noCOK_map r]
mutual
theorem OwnT.al {G : Gi} {F H : Hp} {al al' : List Addr} : ∀ {o : O} {v : V} {fp : List Addr}, OwnT G F al H o v fp → noCO o = true → OwnT G F al' H o v fp
  | _, _, _, .fz h, n => by rw [noCO] at n; exact .fz (h.al n)
  | _, _, _, .lst h hs, n => by rw [noCO] at n; exact .lst h (hs.al n)
  | _, _, _, .dcK h q hs, n => by rw [noCO, noCK_map] at n; exact .dcK h q (hs.al n)
  | _, _, _, .dcT h q hs, n => by rw [noCO, noCK_map] at n; exact .dcT h q (hs.al n)
  | _, _, _, .ins h q m hs, n => by rw [noCO, noCOF_map] at n; exact .ins h q m (OwnA.al hs n)
  | _, _, _, .dcoK h q hs, n => by rw [noCO, noCOK_map] at n; exact .dcoK h q (OwnA.al hs n)
  | _, _, _, .dcoT h q hs, n => by rw [noCO, noCOK_map] at n; exact .dcoT h q (OwnA.al hs n)
theorem OwnA.al {G : Gi} {F H : Hp} {al al' : List Addr} : ∀ {os : List O} {vs : List V} {fp : List Addr}, OwnA G F al H os vs fp → noCOA os = true → OwnA G F al' H os vs fp
  | _, _, _, .nil, _ => .nil
  | _, _, _, .cons h hs, n => by rw [noCOA, Bool.and_eq_true] at n; exact .cons (OwnT.al h n.1) (OwnA.al hs n.2)
end
/-! ### attributes -/
abbrev CTab := List (Str × List Str)
def okF (CT : CTab) (c f : Str) : Bool := match CT.lookup c with
  | some fl => fl.contains f
  | none => false
structure Kc (G : Gi) (CT : CTab) : Prop where
  ex : ∀ c f, okF CT c f = true → ∃ C, G.mg c = some (.ref C) ∧ Cls G.K C ∧ NoAttr G.K C f
def fldD (CT : CTab) (f : Str) : D → Option D
  | .ins c fs => if okF CT c f = true then fs.lookup f else none
  | _ => none
def fldO (CT : CTab) (f : Str) : O → Option O
  | .fz d => (fldD CT f d).map .fz
  | .ins c fs => if okF CT c f = true then fs.lookup f else none
  | _ => none
theorem lk_rp {G : Gi} {F : Hp} {al : List Addr} {f : Str} {d : D} : ∀ {fs : List (Str × V)} {ds : List (Str × D)}, ds.map (·.1) = fs.map (·.1) → RpA G F al (fs.map (·.2)) (ds.map (·.2)) → ds.lookup f = some d →
    ∃ v, fs.lookup f = some v ∧ Rp G F al v d
  | [], [], _, _, h => by cases h
  | [], _ :: _, e, _, _ => by cases e
  | _ :: _, [], e, _, _ => by cases e
  | (n, v) :: fs, (m, x) :: ds, e, .cons r rs, h => by
    rw [List.map_cons, List.map_cons] at e
    injection e with e1 e2
    have e1 : m = n := e1
    subst e1
    unfold List.lookup at h ⊢
    cases q : f == m with
    | true => rw [q] at h; cases h; exact ⟨v, rfl, r⟩
    | false => rw [q] at h; exact lk_rp e2 rs h
theorem lk_own {G : Gi} {F H : Hp} {al : List Addr} {f : Str} {d : O} : ∀ {fs : List (Str × V)} {ds : List (Str × O)} {fp : List Addr}, ds.map (·.1) = fs.map (·.1) → OwnA G F al H (ds.map (·.2)) (fs.map (·.2)) fp → ds.lookup f = some d →
    ∃ v fq, fs.lookup f = some v ∧ OwnT G F al H d v fq
  | [], [], _, _, _, h => by cases h
  | [], _ :: _, _, e, _, _ => by cases e
  | _ :: _, [], _, e, _, _ => by cases e
  | (n, v) :: fs, (m, x) :: ds, _, e, .cons r rs, h => by
    rw [List.map_cons, List.map_cons] at e
    injection e with e1 e2
    have e1 : m = n := e1
    subst e1
    unfold List.lookup at h ⊢
    cases q : f == m with
    | true => rw [q] at h; cases h; exact ⟨v, _, rfl, r⟩
    | false => rw [q] at h; exact lk_own e2 rs h
theorem own_ins {G : Gi} {F H : Hp} {al : List Addr} {c : Str} {os : List (Str × O)} {v : V} {fp : List Addr} (t : OwnT G F al H (.ins c os) v fp) : ∃ a C dx fs fq, v = .ref a ∧ fp = a :: fq ∧
    H a = some (.ins C dx fs) ∧ G.mg c = some (.ref C) ∧ os.map (·.1) = fs.map (·.1) ∧ OwnA G F al H (os.map (·.2)) (fs.map (·.2)) fq := by
  cases t with
  | ins h k n hs => exact ⟨_, _, _, _, _, rfl, rfl, h, k, n, hs⟩
theorem fld_own {G : Gi} {CT : CTab} {f : Str} {st : S} {σ : L2.St} {c : Cf} {o o' : O} {v : V} {fp : List Addr} (T : Kc G CT) (r : Rel G st σ c) (t : OwnT G c.F c.al c.H o v fp) (e : fldO CT f o = some o') :
    ∃ a C dx fs u fq, v = .ref a ∧ c.H a = some (.ins C dx fs) ∧ Cls G.K C ∧ NoAttr G.K C f ∧ fs.lookup f = some u ∧ OwnT G c.F c.al c.H o' u fq := by
  unfold fldO at e
  split at e
  · rename_i d
    obtain ⟨d', e1, rfl⟩ := map_some e
    unfold fldD at e1
    split at e1
    · rename_i cn ds
      split at e1
      · rename_i ho
        obtain ⟨C, q1, q2, q3⟩ := T.ex _ _ ho
        cases t with
        | fz t =>
          cases t with
          | ins h k n hs =>
            rw [q1] at k
            cases k
            obtain ⟨u, l1, l2⟩ := lk_rp n hs e1
            exact ⟨_, _, _, _, u, [], rfl, r.sub _ _ h, q2, q3, l1, .fz l2⟩
      · cases e1
    · cases e1
  · rename_i cn os
    split at e
    · rename_i ho
      obtain ⟨C, q1, q2, q3⟩ := T.ex _ _ ho
      obtain ⟨a, C', dx, fs, fq, rfl, rfl, h, k, n, hs⟩ := own_ins t
      rw [q1] at k
      cases k
      obtain ⟨u, f2, l1, l2⟩ := lk_own n hs e
      exact ⟨_, _, _, _, u, f2, rfl, h, q2, q3, l1, l2⟩
    · cases e
  · cases e
section
variable {X : Cx} {G : Gi} {W : WX} {e value : Expr} {m : M O} {md : M D} {pos pos' : Pos} {CT : CTab} {f : Str} {i : Nat}
/-- e.f, as it is now -/
def xFld (CT : CTab) (f : Str) (m : M O) : M O := bnd m fun o => ofO (fldO CT f o)
def fzO : O → Option O
  | .fz d => some (.fz d)
  | _ => none
/-- e.f, frozen -/
def xFldF (CT : CTab) (f : Str) (m : M O) : M O := bnd m fun o => ofO ((fldO CT f o).bind fzO)
@[simp] theorem xFld_app (m : M O) (s : S) : xFld CT f m s = (m s).bind fun o => ofO (fldO CT f o) := rfl
@[simp] theorem xFldF_app (m : M O) (s : S) : xFldF CT f m s = (m s).bind fun o => ofO ((fldO CT f o).bind fzO) := rfl
theorem x_fld (T : Kc G CT) (hK : X.K = G.K) (he : PE X e (tLa G W m)) (hb : attributeBase e f X.env (eval e X.env) = eval e X.env := by rfl) : PE X (.Attribute e f pos) (tLa G W (xFld CT f m)) :=
  (pe_fld he hb).weak fun σ H Q q => by
    show tLa G W m σ H fun x H1 => ∃ a C dx fs v, x = .ref a ∧ H1 a = some (.ins C dx fs) ∧ Cls X.K C ∧ NoAttr X.K C f ∧ fs.lookup f = some v ∧ Q v H1
    refine q.seq bkL _ (fun o v c c1 st1 r1 g1 p1 w => ?_)
    obtain ⟨fp, t⟩ := p1
    obtain ⟨o', e1, q3⟩ := wp_ofO.mp w
    obtain ⟨a, C, dx, fs, u, fq, rfl, h, k1, k2, k3, k4⟩ := fld_own T r1 t e1
    rw [hK]
    exact ⟨a, C, dx, fs, u, rfl, h, k1, k2, k3, q3 u c1 r1 (GoE.refl r1) ⟨fq, k4⟩⟩
theorem x_fldF (T : Kc G CT) (hK : X.K = G.K) (he : PE X e (tLa G W m)) (hb : attributeBase e f X.env (eval e X.env) = eval e X.env := by rfl) : PE X (.Attribute e f pos) (tO G W (xFldF CT f m)) :=
  (pe_fld he hb).weak fun σ H Q q => by
    show tLa G W m σ H fun x H1 => ∃ a C dx fs v, x = .ref a ∧ H1 a = some (.ins C dx fs) ∧ Cls X.K C ∧ NoAttr X.K C f ∧ fs.lookup f = some v ∧ Q v H1
    refine q.seq bkO _ (fun o v c c1 st1 r1 g1 p1 w => ?_)
    obtain ⟨fp, t⟩ := p1
    obtain ⟨o', e1, q3⟩ := wp_ofO.mp w
    obtain ⟨o2, e2, e3⟩ := bind_some e1
    obtain ⟨a, C, dx, fs, u, fq, rfl, h, k1, k2, k3, k4⟩ := fld_own T r1 t e2
    rw [hK]
    refine ⟨a, C, dx, fs, u, rfl, h, k1, k2, k3, ?_⟩
    unfold fzO at e3
    split at e3
    · cases e3
      cases k4 with
      | fz k4 => exact q3 u c1 r1 (GoE.refl r1) (prO_fz k4)
    · cases e3
def putO (f : Str) (o : O) : List (Str × O) → List (Str × O)
  | [] => [(f, o)]
  | (g, x) :: r => if g = f then (g, o) :: r else (g, x) :: putO f o r
theorem put_nm {f : Str} {o : O} {v : V} : ∀ {fs : List (Str × V)} {os : List (Str × O)}, os.map (·.1) = fs.map (·.1) → (putO f o os).map (·.1) = (putF f v fs).map (·.1)
  | [], [], _ => rfl
  | [], _ :: _, e => by cases e
  | _ :: _, [], e => by cases e
  | (n, u) :: fs, (m, x) :: os, e => by
    rw [List.map_cons, List.map_cons] at e
    injection e with e1 e2
    have e1 : m = n := e1
    subst e1
    unfold putO putF
    by_cases h : m = f
    · rw [if_pos h, if_pos h, List.map_cons, List.map_cons, e2]
    · rw [if_neg h, if_neg h, List.map_cons, List.map_cons, put_nm e2]
theorem allfz {F H H' : Hp} {al : List Addr} : ∀ {os : List O} {vs : List V} {fp : List Addr}, OwnA G F al H os vs fp → os.all isFz = true → fp = [] ∧ OwnA G F al H' os vs []
  | _, _, _, .nil, _ => ⟨rfl, .nil⟩
  | _, _, _, .cons (o := o) h hs, k => by
    rw [List.all_cons, Bool.and_eq_true] at k
    obtain ⟨e, t⟩ := allfz (H' := H') hs k.2
    subst e
    cases o with
    | fz d =>
      cases h with
      | fz h => exact ⟨rfl, .cons (fp := []) (fq := []) (.fz h) t⟩
    | _ => cases k.1
theorem put_own {F H : Hp} {al : List Addr} {f : Str} {d : D} {v : V} (rv : Rp G F al v d) : ∀ {fs : List (Str × V)} {os : List (Str × O)}, os.map (·.1) = fs.map (·.1) → OwnA G F al H (os.map (·.2)) (fs.map (·.2)) [] →
    (os.map (·.2)).all isFz = true → OwnA G F al H ((putO f (.fz d) os).map (·.2)) ((putF f v fs).map (·.2)) []
  | [], [], _, _, _ => .cons (fp := []) (fq := []) (.fz rv) .nil
  | [], _ :: _, e, _, _ => by cases e
  | _ :: _, [], e, _, _ => by cases e
  | (n, u) :: fs, (m, x) :: os, e, t, k => by
    rw [List.map_cons, List.map_cons] at e
    injection e with e1 e2
    have e1 : m = n := e1
    subst e1
    rw [List.map_cons, List.all_cons, Bool.and_eq_true] at k
    rw [List.map_cons, List.map_cons] at t
    have t2 := allfz (H' := H) t (by rw [List.all_cons, k.1, k.2]; rfl)
    unfold putO putF
    generalize hfp : ([] : List Addr) = fp0 at t
    cases t with
    | @cons _ _ _ _ f1 f2 h hs =>
      obtain ⟨h1, h2⟩ := List.append_eq_nil_iff.mp hfp.symm
      subst h1
      subst h2
      by_cases hm : m = f
      · rw [if_pos hm, if_pos hm]; exact .cons (fp := []) (fq := []) (.fz rv) hs
      · rw [if_neg hm, if_neg hm]; exact .cons (fp := []) (fq := []) h (put_own rv e2 hs k.2)
/-- self.f = e, self a name: all attributes frozen -/
def sFldD (CT : CTab) (f : Str) (i : Nat) (md : M D) : M Fl := bnd md fun d s => match getP s i with
  | some (.ins c os) => if okF CT c f = true ∧ (os.map (·.2)).all isFz = true ∧ os.length < 1000 then .ok .nx (putP s i (.ins c (putO f (.fz d) os))) else .no
  | _ => .no
theorem fldS_t (T : Kc G CT) {D' : Ends} {σ : L2.St} {H : Hp} (q : tS G W (sFldD CT f i md) D' σ H) : sFld G.K (tVar i) (tD G W md) f D' σ H := by
  show tD G W md σ H fun y H1 => tVar i σ H1 fun x H2 => ∃ a C dx fs, x = .ref a ∧ H2 a = some (.ins C dx fs) ∧ Cls G.K C ∧ NoAttr G.K C f ∧ fs.length < 1000 ∧ D'.nx σ (upd H2 a (.ins C dx (putF f y fs)))
  refine tS.ex q _ (fun d y c c1 st1 r1 g1 p1 w => ?_)
  split at w
  · rename_i cn os e1
    split at w
    · rename_i hh
      obtain ⟨h1, h2, h3⟩ := hh
      obtain ⟨C, q1, q2, q3⟩ := T.ex _ _ h1
      obtain ⟨v, f2, k1, k2, hp⟩ := place r1 e1
      obtain ⟨a, C', dx, fs, fq, rfl, rfl, ha, k, n, hs⟩ := own_ins k2
      rw [q1] at k
      cases k
      have hfs : fs.length = os.length := by have := congrArg List.length n; simpa using this.symm
      refine ⟨.ref a, k1, a, C, dx, fs, rfl, ha, q2, q3, by omega, ?_⟩
      obtain ⟨e0, t0⟩ := allfz (H' := upd c1.H a (.ins C dx (putF f y fs))) hs h2
      subst e0
      obtain ⟨r2, g2⟩ := hp (upd c1.H a (.ins C dx (putF f y fs))) (.ins cn (putO f (.fz d) os)) (fun b hb => upd_ne (by simpa using hb))
        (.ins (fp := []) upd_same q1 (put_nm n) (put_own p1 n t0 h2))
      have w : Fw G D' c .nx _ := w
      exact w σ _ r2 (g1.toGo.trans g2)
    · exact w.elim
  · exact w.elim
theorem s_fld {x : Str} {px : Pos} (T : Kc G CT) (hK : X.K = G.K) (hN : X.N[i]? = some x) (hv : Vis X.env.scope x) (he : PE X value (tD G W md)) (hd : (x == ("__debug__" : Str)) = false := by decide) (hcd : (x == ("__classdict__" : Str)) = false := by decide)
    (hs : swapsWith value (some (.Attribute (.Name x px) f pos')) pos.line X.env = pure false := by rfl) :
    PS X (.Assign [.Attribute (.Name x px) f pos'] value pos) (tS G W (sFldD CT f i md)) := (ps_fld (pe_var hN hv hd hcd) he hs).weak fun D' σ H q => by
  rw [hK]; exact fldS_t T q
end
/-! ### a new instance -/
/-- what an __init__ promises: self is new -/
def SpI (G : Gi) (x : Str) (n : Nat) (m : MF) : Sp := fun vs H Q E => ∃ c0 ds mu a C dx ws, c0.fs = [] ∧ Rel G ⟨[], mu⟩ [] c0 ∧ c0.H a = none ∧ c0.H dx = none ∧ dx ≠ a ∧
  H = upd (upd c0.H dx (.own a)) a (.ins C dx []) ∧ G.mg x = some (.ref C) ∧ vs = .ref a :: ws ∧ RpA G c0.F c0.al ws ds ∧ vs.length = n ∧
  wp (m ds mu) (fun o s' => ∀ c' fp, Rel G ⟨[], s'.mu⟩ [] c' → Go c0 c' → OwnT G c'.F c'.al c'.H o (.ref a) fp → Fresh fp c' → New fp c0 → Q .non c'.H)
    (fun e s' => ∀ v d c', Rel G ⟨[], s'.mu⟩ [] c' → Go c0 c' → XRp G c' e v d → E v d c'.H)
/-- an __init__'s body as a function: self is the only cell -/
def fnI (N : Nat) (x : Str) (body : M Fl) : MF := fun ds mu => if noCA ds = true then (match body ⟨some (.fz (.cel 0)) :: env0 (N - 1) ds, [.ins x []]⟩ with
  | .ok .nx ⟨_, [o]⟩ => if noCO o = true then .ok o ⟨[], mu⟩ else .no
  | .exc e _ => if noCF e.fs = true then .exc e ⟨[], mu⟩ else .no
  | _ => .no) else .no
structure FnI (P : Program) (w : World) (G : Gi) (base : Heap) (k : Nat) (f : Addr) (fd : FuncData) (ps : List Str) (x : Str) (m : MF) : Prop where
  go : ∀ (A : Around) (outer : List Env) (s : Shared) (H : Hp) (args : Args) (us : List Value)
    (vs : List V) (Q : VK) (E : XK), Room k A → Env0 P w G.K G.mg base A outer s H →
    BindsTo s fd args (ps.zip us) → Vals vs us → SpI G x ps.length m vs H Q E →
    codeAny (model P w) A (.call (.ref f) args) (CR (L2.CX P w) outer P w H s Q E) s
/-- the new instance as the only cell -/
theorem rel_self {G : Gi} {mu : List O} {c0 : Cf} {a C dx : Addr} {x : Str} {ws : List V} {ds : List D} {N : Nat} (hfs : c0.fs = []) (r : Rel G ⟨[], mu⟩ [] c0) (ha : c0.H a = none) (hd : c0.H dx = none) (hm : G.mg x = some (.ref C))
    (rp : RpA G c0.F c0.al ws ds) (nc : noCA ds = true) : Rel G ⟨some (.fz (.cel 0)) :: env0 N ds, [.ins x []]⟩ (some (.ref a) :: (ws.map some ++ List.replicate (N - ds.length) none))
      { F := c0.F, H := upd (upd c0.H dx (.own a)) a (.ins C dx []), al := [a], fs := [], fc := [a] } := by
  have old : ∀ b, c0.H b ≠ none → upd (upd c0.H dx (.own a)) a (.ins C dx []) b = c0.H b := fun b n => by
    rw [upd_ne (fun e => n (by rw [e]; exact ha)), upd_ne (fun e => n (by rw [e]; exact hd))]
  refine ⟨fun b o e => ?_, fun b h => ?_, .nil, by simp, (fun b h => nomatch h), ?_, ?_⟩
  · have e2 := r.sub b o e
    show upd (upd c0.H dx (.own a)) a (.ins C dx []) b = some o
    rw [old b (by rw [e2]; exact Option.some_ne_none _)]
    exact e2
  · rcases h with h | h
    · cases h
    · rw [List.mem_singleton.mp h]
      show c0.F a = none
      cases e : c0.F a with
      | none => rfl
      | some o => have := r.sub a o e; rw [ha] at this; cases this
  · refine .so (fp := []) (fq := []) (.fz (.cel rfl)) ?_
    unfold env0
    exact slots_start (c := ⟨c0.F, upd (upd c0.H dx (.own a)) a (.ins C dx []), [a], [], [a]⟩) _ (rp.al nc)
  · exact .cons (fp := [a]) (fq := []) (.ins (fp := []) (fs := []) upd_same hm rfl .nil) .nil
/-- back to the caller's cells -/
theorem rel_back {G : Gi} {mu : List O} {c0 c' : Cf} {a C dx : Addr} (hfs : c0.fs = []) (r : Rel G ⟨[], mu⟩ [] c0) (ha : c0.H a = none) (hd : c0.H dx = none)
    (g : Go { F := c0.F, H := upd (upd c0.H dx (.own a)) a (.ins C dx []), al := [a], fs := [], fc := [a] } c') (sub : ∀ b o, c'.F b = some o → c'.H b = some o) :
    Rel G ⟨[], mu⟩ [] { F := c'.F, H := c'.H, al := c0.al, fs := [], fc := c0.fc } ∧ Go c0 { F := c'.F, H := c'.H, al := c0.al, fs := [], fc := c0.fc } := by
  have old : ∀ b, c0.H b ≠ none → upd (upd c0.H dx (.own a)) a (.ins C dx []) b = c0.H b := fun b n => by
    rw [upd_ne (fun e => n (by rw [e]; exact ha)), upd_ne (fun e => n (by rw [e]; exact hd))]
  have none1 : ∀ b, upd (upd c0.H dx (.own a)) a (.ins C dx []) b = none → c0.H b = none := fun b e => by
    cases q : c0.H b with
    | none => rfl
    | some o => rw [old b (by rw [q]; exact Option.some_ne_none _), q] at e; cases e
  have kp : ∀ b, c0.H b ≠ none → c'.H b = c0.H b := fun b n => by
    rw [← old b n]
    exact g.fr b (by show upd (upd c0.H dx (.own a)) a (.ins C dx []) b ≠ none; rw [old b n]; exact n) (fun z => nomatch z) (fun z => n (by rw [List.mem_singleton.mp z]; exact ha))
  have none2 : ∀ b, NT (upd (upd c0.H dx (.own a)) a (.ins C dx []) b) → NT (c0.H b) := fun b e => by
    cases q : c0.H b with
    | none => exact .inl rfl
    | some o => rw [old b (by rw [q]; exact Option.some_ne_none _), q] at e; exact e
  have nF : ∀ b, c'.F b ≠ none → c0.F b ≠ none ∨ NT (c0.H b) := fun b h => by
    rcases g.nF b h with z | z | z | z
    · exact .inl z
    · cases z
    · rw [List.mem_singleton.mp z]; exact .inr (.inl ha)
    · exact .inr (none2 b z)
  have mo : Mo c0.F c'.F c0.al c0.al := ⟨g.mo.mF, g.mo.mR, fun _ _ h => h⟩
  refine ⟨⟨sub, fun b h => ?_, .nil, r.ndc, (fun b h => nomatch h), .nil, r.cells.mo mo fun b hb => kp b (r.there (.inr hb))⟩, ⟨mo, fun b n _ _ => kp b n, fun b h => ?_, fun b h => (nF b h).elim .inl fun z => .inr (.inr (.inr z))⟩⟩
  · rcases h with h | h
    · cases h
    · show c'.F b = none
      cases e : c'.F b with
      | none => rfl
      | some o =>
        rcases nF b (by rw [e]; exact Option.some_ne_none _) with z | z
        · exact absurd (r.own b (.inr h)) z
        · exact absurd z (r.noNT (.inr h))
  · rcases h with h | h
    · cases h
    · exact .inr (.inl h)
section
variable {P : Program} {w : World} {G : Gi} {base : Heap} {k j : Nat} {f : Addr} {fd : FuncData} {N ps : List Str} {m m' : MF} {cn : Str}
theorem FnI.mono (F : FnI P w G base j f fd ps cn m) (h : j ≤ k) : FnI P w G base k f fd ps cn m :=
  ⟨fun A o s H a us vs Q E r => F.go A o s H a us vs Q E (r.mono h)⟩
theorem Df.okI {x qual : Str} {st : Stmt} {body : M Fl} (F : Df G.K x qual st f fd) (S : FnScope N ps (defScope st)) (hN : ∃ n, N.length = n + 1)
    (hb : ∀ (cdv : Value) (A : Around) (outer : List Env) (s : Shared) (H : Hp) (E : XK),
      Room k (A.deeper (envOfC qual (defScope st) s.heap.objs.size f cdv)) →
      PSs (cxOf (L2.CX P w) P w G.K G.mg base N qual (defScope st) f cdv A outer s H E) (defBody st) (tS G (fun v d _ H => E v d H) body)) :
    FnI P w G base (k + 1) f fd ps cn (fnI N.length cn body) := by
  obtain ⟨oc, od, dV, kV, doc, pm, an, cdv, ct, osl, rfl, lk, hc⟩ := F.ex
  refine ⟨fun A outer s H args us vs Q E hr e0 hbi r hsp => ?_⟩
  obtain ⟨c, ds, mu, a, C, dx, ws, hfs, rl, ha, hdx, hne, rfl, hm, rfl, rp, hlen, h⟩ := hsp
  have kin : G.K.In s.heap := e0.mod.kin.keeps (fun b o e => (e0.bs b o e).1)
  have hlm : s.heap.NoLimit := e0.mod.nolimit.keeps (fun b o e => (e0.bs b o e).1)
  have kinds : ∀ y ∈ ps.zip us, (defScope st).names.lookup y.1 = some .local ∨
      ((defScope st).names.lookup y.1 = some .cell ∧
        ((cellsFrom (s.heap.objs.size + 1) (defScope st).names []).lookup y.1).isSome = true) := by
    rintro ⟨n, v⟩ hy
    rcases S.par n (List.of_mem_zip hy).1 with h1 | h1
    · left; exact h1
    · right; exact ⟨h1, PySem.W.cellsFrom_some _ _ _ (Or.inl h1)⟩
  apply codeAny_call_function hr.depth (kin _ _ lk) rfl S.co S.gen rfl (PySem.W.codeRec_of kin hc) (hbi _ _ _ _ ?_)
  apply wpAny_newFunctionEnv_cells S.kind kinds
  intro env he s1 hx
  subst he
  refine ⟨hlm.keeps hx.toInCall.keep, codeAny_func ?_⟩
  have ht := hb cdv A outer s (upd (upd c.H dx (.own a)) a (.ins C dx [])) E (hr.deeper _)
  have I0 : Inv (cxOf (L2.CX P w) P w G.K G.mg base N qual (defScope st) f cdv A outer s (upd (upd c.H dx (.own a)) a (.ins C dx [])) E) [] (start N (.ref a :: ws)) (upd (upd c.H dx (.own a)) a (.ins C dx [])) s1 :=
    inv_start S hr.hd e0 hlen r hx
  have hq : tS G (fun v d _ H => E v d H) body { nx := fun _ H' => Q .non H', rt := Q } (start N (.ref a :: ws)) (upd (upd c.H dx (.own a)) a (.ins C dx [])) := by
    unfold fnI at h
    split at h
    · rename_i nc
      obtain ⟨n, hn⟩ := hN
      have r0 := rel_self (N := n) hfs rl ha hdx hm rp nc
      rw [hn, show n + 1 - 1 = n from rfl] at h
      refine ⟨{ F := c.F, H := upd (upd c.H dx (.own a)) a (.ins C dx []), al := [a], fs := [], fc := [a] }, ⟨some (.fz (.cel 0)) :: env0 n ds, [.ins cn []]⟩, rfl, ?_, ?_⟩
      · unfold start
        rw [hn, show n + 1 - (V.ref a :: ws).length = n - ds.length by rw [List.length_cons, rp.len]; omega]
        exact r0
      · cases e : body ⟨some (.fz (.cel 0)) :: env0 n ds, [.ins cn []]⟩ with
        | no => rw [e] at h; exact h
        | exc y s' =>
          rw [e] at h
          dsimp only at h
          split at h
          · rename_i nx
            intro σ' v d c' r' g' x'
            obtain ⟨r2, g2⟩ := rel_back hfs rl ha hdx g' r'.sub
            refine h v d { F := c'.F, H := c'.H, al := c.al, fs := [], fc := c.fc } r2 g2 ?_
            obtain ⟨D', q1, q2, q3⟩ := x'
            refine ⟨D', q1, q2, q3.imp id ?_⟩
            rintro ⟨dx', vs', p1, p2, p3, p4⟩
            exact ⟨dx', vs', p1, p2, p3, p4.al (by rw [← noCF_map]; exact nx)⟩
          · exact h.elim
        | ok fl s' =>
          rw [e] at h
          obtain ⟨env', mu'⟩ := s'
          cases fl with
          | rt o => exact h.elim
          | bk => exact h.elim
          | ct => exact h.elim
          | nx =>
            cases mu' with
            | nil => exact h.elim
            | cons o l =>
              cases l with
              | cons _ _ => exact h.elim
              | nil =>
                dsimp only at h
                split at h
                · rename_i nco
                  intro σ' c' r' g'
                  obtain ⟨r2, g2⟩ := rel_back hfs rl ha hdx g' r'.sub
                  have cl := r'.cells
                  have ha' := g'.mo.mA 0 a rfl
                  have nd := r'.ndc
                  have ow := r'.own
                  have fpc := g'.fp
                  generalize hfc : c'.fc = fc' at cl nd ow fpc
                  generalize hv : c'.al.map V.ref = vs' at cl
                  cases cl with
                  | @cons _ v _ ws' f1 f2 t ts =>
                    cases ts
                    rw [List.append_nil] at nd ow fpc
                    have ev : v = .ref a := by
                      have := congrArg (fun l => l[0]?) hv
                      simp only [List.getElem?_map, ha'] at this
                      exact (Option.some.inj this).symm
                    subst ev
                    have isn : ∀ b ∈ f1, c.H b = none := fun b hb => by
                      rcases fpc b (.inr hb) with z | z | z
                      · cases z
                      · rw [List.mem_singleton.mp z]; exact ha
                      · cases q : c.H b with
                        | none => rfl
                        | some u =>
                          have z : upd (upd c.H dx (.own a)) a (.ins C dx []) b = none := z
                          rw [upd_ne (fun e => by rw [e, ha] at q; cases q), upd_ne (fun e => by rw [e, hdx] at q; cases q), q] at z
                          cases z
                    refine h { F := c'.F, H := c'.H, al := c.al, fs := [], fc := c.fc } f1 r2 g2 (t.al nco) ⟨nd, fun b hb => ow b (.inr hb), (fun b _ z => nomatch z), fun b hb z => rl.there (.inr z) (isn b hb)⟩ fun b hb => .inr (.inr (isn b hb))
                · exact h.elim
    · exact h.elim
  refine wpAny_mono (ht.run [] s1 (start N (.ref a :: ws)) _ _ I0 hq) ?_ (fun e s' hs => hs)
  intro fl s' hs
  cases fl with
  | ret u =>
    obtain ⟨v, σ', H', J, rv, q⟩ := hs
    exact ⟨v, H', J.os, J.bare, J.base, J.hok, rv, q⟩
  | next =>
    obtain ⟨σ', H', J, q⟩ := hs
    exact ⟨V.non, H', J.os, J.bare, J.base, J.hok, rfl, q⟩
  | brk => obtain ⟨_, _, _, q⟩ := hs; exact q.elim
  | cont => obtain ⟨_, _, _, q⟩ := hs; exact q.elim
end
structure BdI (K : PySem.W.Frag) (fd : FuncData) (ps : List Str) (n : Nat) (ks : List Str) (gD : List D → List D → List D) : Prop where
  ex : ∃ (g : List Value → List Value → List Value) (gV : List V → List V → List V), KBn K fd ps (n + 1) ks g gV ∧
    ∀ x vs zs, vs.length = n → zs.length = ks.length → ∃ ws, gV (x :: vs) zs = x :: ws ∧ (x :: ws).length = ps.length ∧
      ∀ (G : Gi) (F : Hp) (al : List Addr) ds es, RpA G F al vs ds → RpA G F al zs es → RpA G F al ws (gD ds es)
structure MkT (P : Program) (w : World) (G : Gi) (base : Heap) (x : Str) (k n : Nat) (ks : List Str) (gD : List D → List D → List D) (m : MF) : Prop where
  ex : ∃ (C f : Addr) (fd : FuncData) (ps : List Str), Mk G.K C f ∧ G.mg x = some (.ref C) ∧ FnI P w G base k f fd ps x m ∧ BdI G.K fd ps n ks gD
theorem make_t {G : Gi} {W : WX} {m : MF} {st : S} {σ : L2.St} {c : Cf} {ws : List V} {ds : List D} {Q : VK} {n : Nat} {a C dx : Addr} {x : Str} (r : Rel G st σ c) (rp : RpA G c.F c.al ws ds) (hn : (V.ref a :: ws).length = n)
    (ha : c.H a = none) (hd : c.H dx = none) (hne : dx ≠ a) (hm : G.mg x = some (.ref C))
    (h : wp (runF m ds st) (fun o st' => ∀ v c', Rel G st' σ c' → GoE c c' → PrO G o c c' v → Q v c'.H) (xw G W σ c)) :
    SpI G x n m (.ref a :: ws) (upd (upd c.H dx (.own a)) a (.ins C dx [])) (fun v H3 => v = .non ∧ Q (.ref a) H3) (WE W σ) := by
  refine ⟨{ c with fs := [] }, ds, st.mu, a, C, dx, ws, rfl, r.drop, ha, hd, hne, rfl, hm, rfl, rp, hn, ?_⟩
  unfold runF at h
  cases e : m ds st.mu with
  | no => rw [e] at h; exact h
  | exc x s' =>
    rw [e] at h
    intro v d c2 r2 g x2
    obtain ⟨r3, g3⟩ := rel_lift r r2 g
    exact h v d { c2 with fs := c.fs } r3 g3 x2
  | ok o s' =>
    rw [e] at h
    intro c2 fp r2 g t f nw
    obtain ⟨r3, g3⟩ := rel_lift r r2 g
    refine ⟨rfl, h (.ref a) { c2 with fs := c.fs } r3 g3 ⟨fp, t, ⟨f.nd, f.nf, fun b hb hs => ?_, f.nc⟩, fun b hb => ?_⟩⟩
    · rcases nw b hb with z | z | z
      · cases z
      · exact r.dis b hs z
      · exact r.there (.inl hs) z
    · rcases nw b hb with z | z | z
      · cases z
      · exact .inr (.inl z)
      · exact .inr (.inr z)
section
variable {X : Cx} {G : Gi} {W : WX} {k n : Nat} {ks : List Str} {gD : List D → List D → List D} {m : MF} {x : Str} {p pos : Pos} {e : Expr} {es : List Expr} {kws : List Keyword} {ma mk : M (List D)}
theorem runI {pins : List (Addr × Obj)} {σ : L2.St} {H : Hp} {s : Shared} {Q : VK} {us ws : List Value} {vs zs : List V} {C f : Addr} {fd : FuncData} {ps : List Str} {g : List Value → List Value → List Value} {gV : List V → List V → List V}
    (hK : X.K = G.K) (hM : X.mg = G.mg) (M : Mk G.K C f) (F : FnI X.prog X.w G X.base k f fd ps x m) (hr : Room (k + 1) X.A) (hb : KBn G.K fd ps (n + 1) ks g gV)
    (hx : ∀ σ, PassesAt (L2.CX X.prog X.w) X σ (WE W σ)) (I : Inv X pins σ H s) (r : Vals vs us) (rz : Vals zs ws) (l1 : vs.length = n) (l2 : zs.length = ks.length)
    (h : ∀ a dx, H a = none → H dx = none → dx ≠ a → SpI G x ps.length m (gV (.ref a :: vs) zs) (upd (upd H dx (.own a)) a (.ins C dx [])) (fun v H2 => v = .non ∧ Q (.ref a) H2) (WE W σ)) :
    wpAny (model X.prog X.w) X.A (call (.ref C) us (ks.zip ws)) (EP X pins σ Q) X.xe s := by
  have hq := h (s.heap.objs.size + 1) s.heap.objs.size (I.hok.fresh (Nat.le_succ _)) (I.hok.fresh (Nat.le_refl _)) (Nat.ne_of_lt (Nat.lt_succ_self _))
  have I2 := Inv.made (C := C) I
  have r1 : Vals (V.ref (s.heap.objs.size + 1) :: vs) (Value.ref (s.heap.objs.size + 1) :: us) := .cons rfl r
  have r2 := hb.rel r1 rz
  have e1 : (Value.ref (s.heap.objs.size + 1) :: us).length = n + 1 := r1.length.symm.trans (congrArg Nat.succ l1)
  have e2 : ws.length = ks.length := rz.length.symm.trans l2
  have kin := I.kIn
  have kin2 := I2.kIn
  have env := I2.env0
  rw [hK] at kin kin2
  rw [hK, hM] at env
  refine wpAny_call (make_map (f := f) kin M.makes M.init (beq_iff_eq.mp M.fn) (codeAny_mono (F.go _ X.stack _ _ ⟨Value.ref (s.heap.objs.size + 1) :: us, ks.zip ws⟩ (g (Value.ref (s.heap.objs.size + 1) :: us) ws) _ _ (WE W σ) (hr.make C us (ks.zip ws))
    (env.make C us (ks.zip ws)) (hb.to _ (Value.ref (s.heap.objs.size + 1) :: us) ws kin2 e1 e2) r2 hq) fun r s' hq' => ?_))
  cases r with
  | error e => exact hx σ pins _ _ e s' I2 hq'
  | ok fl =>
    cases fl with
    | ret u =>
      obtain ⟨v, H', I3, rv, ev, q3⟩ := I2.after hq'
      subst ev
      exact ⟨rv, ⟨V.ref (s.heap.objs.size + 1), H', I3, rfl, q3⟩⟩
    | next => exact False.elim hq'
    | brk => exact False.elim hq'
    | cont => exact False.elim hq'
theorem x_make (hK : X.K = G.K) (hM : X.mg = G.mg) (F : MkT X.prog X.w G X.base x k n ks gD m) (hr : Room (k + 1) X.A)
    (hg : Gl X x) (hx : ∀ σ, PassesAt (L2.CX X.prog X.w) X σ (WE W σ)) (ha : PA X (e :: es) (tAs G W ma)) (hkw : PK X kws (tAs G W mk))
    (hall : (backToKw pos (keywordEach kws X.env)).all (·.1.isSome) = true := by rfl)
    (hks : (backToKw pos (keywordEach kws X.env)).filterMap (·.1) = ks := by rfl)
    (hdb : (x == ("__debug__" : Str)) = false := by decide)
    (he : starEach (e :: es) X.env = (false, eval e X.env) :: starEach es X.env := by rfl)
    (hpl : ((backTo pos (starEach (e :: es) X.env)).any (·.1) || (backToKw pos (keywordEach kws X.env)).any (·.1.isNone)) = false := by rfl) :
    PE X (.Call (.Name x p) (e :: es) kws pos) (tO G W (xCall m gD n ks.length ma mk)) := by
  obtain ⟨C, f, fd, ps, M, hm, FT, g, gV, hb, hl⟩ := F.ex
  refine ⟨fun pins s σ H Q I q => wpAny_Call_Name_kw (ld_glob I hg (by rw [hM]; exact hm) ?_ hdb)⟩
  apply PySem.W.callWith_KW (h₀ := X.base) I.ok.mod.kin (by rw [hK]; exact M.kp) hall ?_ hpl he
  refine thn (ha.run pos pins s σ H (fun vs H1 => tAs G W mk σ H1 fun zs H2 => vs.length = n ∧ zs.length = ks.length ∧
    ∀ a dx, H2 a = none → H2 dx = none → dx ≠ a → SpI G x ps.length m (gV (.ref a :: vs) zs) (upd (upd H2 dx (.own a)) a (.ins C dx [])) (fun v H3 => v = .non ∧ Q (.ref a) H3) (WE W σ)) I ?_) ?_
  · refine q.seq bkO _ (fun ds vs c c1 st1 r1 g1 p1 w => ?_)
    refine tG.seq1 bkO r1 w _ (fun es' zs c2 st2 r2 g2 p2 w2 => ?_)
    split at w2
    · rename_i hc
      have p1 := p1.mo g2.mo
      have h1 : vs.length = n := by rw [p1.len]; exact hc.1
      have h2 : zs.length = ks.length := by rw [p2.len]; exact hc.2
      refine ⟨h1, h2, fun a dx ha hd hne => ?_⟩
      obtain ⟨wz, q1, q2, q3⟩ := hl (.ref a) vs zs h1 h2
      rw [q1]
      exact make_t r2 (q3 _ _ _ _ _ p1 p2) q2 ha hd hne hm w2
    · exact w2.elim
  · rintro us s1 ⟨vs, H1, I1, r, q⟩
    refine thn (hkw.run pos pins s1 σ H1 _ I1 q) ?_
    rintro ws s2 ⟨zs, H2, I2, rz, q1, q2, q3⟩
    refine ⟨I2.kIn, ?_⟩
    rw [hks]
    exact runI hK hM M FT hr hb hx I2 r rz q1 q2 q3
end
end L2.Tr
namespace L2.Tr
open PySem PySem.Spec PyProof.Rows L2 L2.Pc
/-! ### methods -/
def noE : XK := fun _ _ _ => False
section
variable {X : Cx} {G : Gi} {W : WX} {gb : Bool} {k n : Nat} {ks ps : List Str} {gD : List D → List D → List D} {m : MF} {x : Str} {p pos apos : Pos} {e o : Expr} {es : List Expr} {kws : List Keyword} {ma mk : M (List D)} {md : M D} {c mn : Str}
/-- a def called somewhere below the running body -/
theorem runTA {A : Around} {pins : List (Addr × Obj)} {σ : L2.St} {H : Hp} {s : Shared} {Q : VK} {us : List Value} {vs : List V} {E : XK}
    {f : Addr} {fd : FuncData} (hK : X.K = G.K) (hM : X.mg = G.mg) (hfr : A.frames = X.A.frames)
    (F : FnT X.prog X.w G X.base gb k f fd ps m) (hga : gb = true → A.guards = some []) (hr : Room k A)
    (hb : Binds G.K fd ps []) (hx : PassesAt (L2.CX X.prog X.w) X σ E) (I : Inv X pins σ H s) (r : Vals vs us) (hn : vs.length = ps.length)
    (h : SpM G ps.length m vs H Q E) :
    wpAny (model X.prog X.w) A (call (.ref f) us) (EP X pins σ Q) X.xe s := by
  apply wpAny_call
  have kin := I.kIn
  rw [hK] at kin
  have env := I.env0
  rw [hK, hM] at env
  have env : Env0 X.prog X.w G.K G.mg X.base A X.stack s H := ⟨by rw [hfr]; exact env.frames, env.mod, env.bs, env.bsz, env.funs, env.frf, env.hok, env.bare⟩
  have hl : us.length = ps.length := by rw [← r.length]; exact hn
  have b := hb s us kin (by rw [List.append_nil]; exact hl)
  rw [List.append_nil] at b
  refine codeAny_mono (F.go A X.stack s H _ us vs Q E hga hr env b r h) ?_
  intro res s' hq
  cases res with
  | error er => exact hx pins H s er s' I hq
  | ok fl =>
    cases fl with
    | ret u => exact I.after hq
    | next => exact hq.elim
    | brk => exact hq.elim
    | cont => exact hq.elim
/-- o.m(.., k = ..) of a frozen instance of the class c -/
def xMeth (c mn : Str) (m : MF) (gD : List D → List D → List D) (n k : Nat) (md : M D) (ma mk : M (List D)) : M O := bnd md fun d => match d with
  | .ins c' fs => if c' = c ∧ (fs.map (·.1)).contains mn = false then bnd ma fun ds => bnd mk fun es => if ds.length + 1 = n ∧ es.length = k then runF m (gD (.ins c' fs :: ds) es) else fun _ => .no
    else fun _ => .no
  | _ => fun _ => .no
end
/-! ### str, repr, len by an own method -/
/-- the classes' own method mn, by class -/
structure SpF (P : Program) (w : World) (G : Gi) (base : Heap) (gb : Bool) (k : Nat) (mn : Str) (tbl : List (Str × MF)) : Prop where
  ex : ∀ c mf, tbl.lookup c = some mf → ∃ (C f : Addr) (fd : FuncData) (ps : List Str), G.mg c = some (.ref C) ∧ PySem.W.findIn G.K (.ref C) mn = some (some (.ref f)) ∧ PySem.W.isFn G.K (.ref f) = true ∧
    FnT P w G base gb k f fd ps mf ∧ ps.length = 1 ∧ Binds G.K fd ps []
def strO : O → Option O
  | .fz (.str y) => some (.fz (.str y))
  | _ => none
/-- the own method run on d alone -/
def insOf : D → Option Str
  | .ins c _ => some c
  | _ => none
def runS (tbl : List (Str × MF)) (g : D → Option O) (d : D) : M O := fun s => match insOf d with
  | some c => (match tbl.lookup c with
    | some mf => (match noExc (runF mf [d] s) with
      | .ok o s' => ofO (strO o) s'
      | _ => .no)
    | none => .no)
  | none => ofO (g d) s
theorem insOf_some {d : D} {c : Str} (h : insOf d = some c) : ∃ fs, d = .ins c fs := by
  cases d <;> first | cases h; exact ⟨_, rfl⟩ | cases h
def xSp (tbl : List (Str × MF)) (g : D → Option O) (md : M D) : M O := bnd md (runS tbl g)
@[simp] theorem xSp_app (tbl : List (Str × MF)) (g : D → Option O) (md : M D) (s : S) : xSp tbl g md s = (md s).bind (runS tbl g) := rfl
/-- the reading of such a call: of data by r, of an instance by its method -/
def rOwn (G : Gi) (tbl : List (Str × MF)) (r : V → Hp → VK → Prop) : V → Hp → VK → Prop := fun x H Q => r x H Q ∨ ∃ c mf C a dx fs, tbl.lookup c = some mf ∧ G.mg c = some (.ref C) ∧ x = .ref a ∧ H a = some (.ins C dx fs) ∧
  SpM G 1 mf [.ref a] H (fun v H' => ∃ y, v = .str y ∧ Q (.str y) H') noE
theorem own_t {G : Gi} {W : WX} {tbl : List (Str × MF)} {r : V → Hp → VK → Prop} {g : D → Option O} {md : M D} (hr : UnD G r g) {σ : L2.St} {H : Hp} {Q : VK} (q : tO G W (xSp tbl g md) σ H Q) (hN : ∀ c mf, tbl.lookup c = some mf → ∃ C, G.mg c = some (.ref C)) :
    tD G W md σ H fun x H1 => rOwn G tbl r x H1 Q := by
  refine q.seq bkO _ (fun d v c0 c1 st1 r1 g1 p1 w => ?_)
  unfold runS at w
  split at w
  · rename_i c ei
    obtain ⟨fs, rfl⟩ := insOf_some ei
    split at w
    · rename_i mf e
      obtain ⟨C, hC⟩ := hN _ _ e
      cases p1 with
      | ins h kk nn hs =>
        rename_i a C' dx fs'
        rw [hC] at kk
        cases kk
        refine .inr ⟨c, mf, C, a, dx, fs', e, hC, rfl, r1.sub _ _ h, ?_⟩
        have z : wp (runF mf [.ins c fs] st1) (fun o st' => ∀ v c', Rel G st' σ c' → GoE c1 c' → PrO G o c1 c' v → ∃ y, v = .str y ∧ Q (.str y) c'.H) (xw G noW σ c1) := by
          revert w
          cases runF mf [.ins c fs] st1 with
          | no => exact fun w => w
          | exc x s' => exact fun w => w.elim
          | ok o s' =>
            intro w
            dsimp only [noExc] at w
            obtain ⟨o', e1, q3⟩ := wp_ofO.mp w
            intro v c' r' g' p'
            unfold strO at e1
            split at e1
            · rename_i y
              cases e1
              obtain ⟨fp, t, _, _⟩ := p'
              cases t with
              | fz t => cases t; exact ⟨y, rfl, q3 _ c' r' g' (prO_fz (.str y))⟩
            · cases e1
        have z2 := call_t (W := noW) (n := 1) (Q := fun v H' => ∃ y, v = .str y ∧ Q (.str y) H') r1 (.cons (Rp.ins h hC nn hs) .nil) rfl z
        obtain ⟨c2, ds, mu, e1, e2, e3, e4, e5, e6⟩ := z2
        exact ⟨c2, ds, mu, e1, e2, e3, e4, e5, wp_mono e6 (fun _ _ q => q) fun x s q v d c' r' g' x' => q v d c' r' g' x'⟩
    · exact w.elim
  · obtain ⟨o, e1, q3⟩ := wp_ofO.mp w
    exact .inl (hr st1 σ c1 v (.fz d) [] o Q r1 (.fz p1) (by rw [O.toD]; exact e1) q3)
section
variable {X : Cx} {G : Gi} {W : WX} {gb : Bool} {k : Nat} {tbl : List (Str × MF)} {md : M D} {x : Str} {p pos : Pos} {e : Expr}
theorem noE_pass {σ : L2.St} : PassesAt (L2.CX X.prog X.w) X σ noE := fun _ _ _ _ _ _ c => by
  obtain ⟨_, _, _, _, _, _, _, _, _, _, _, _, h⟩ := c
  exact h.elim
theorem SpF.nm {P : Program} {w : World} {base : Heap} {mn : Str} (F : SpF P w G base gb k mn tbl) : ∀ c mf, tbl.lookup c = some mf → ∃ C, G.mg c = some (.ref C) := fun c mf h => by
  obtain ⟨C, _, _, _, h, _⟩ := F.ex c mf h
  exact ⟨C, h⟩
/-- the own method runs, called by a built-in -/
theorem own_run {A : Around} {mn : Str} {pins : List (Addr × Obj)} {σ : L2.St} {H : Hp} {s : Shared} {Q : VK} {c : Str} {mf : MF} {C a dx : Addr} {fs : List (Str × V)} (hK : X.K = G.K) (hM : X.mg = G.mg)
    (F : SpF X.prog X.w G X.base gb k mn tbl) (hfr : A.frames = X.A.frames) (hga : gb = true → A.guards = some []) (hr : Room k A) (I : Inv X pins σ H s) (e : tbl.lookup c = some mf) (hm : G.mg c = some (.ref C)) (ha : H a = some (.ins C dx fs))
    (h : SpM G 1 mf [.ref a] H (fun v H' => ∃ y, v = .str y ∧ Q (.str y) H') noE) :
    ∃ f ox od, PySem.W.InstAt s.heap a ox C od ∧ PySem.W.findIn G.K (.ref C) mn = some (some (.ref f)) ∧ PySem.W.isFn G.K (.ref f) = true ∧
      wpAny (model X.prog X.w) A (call (.ref f) [.ref a]) (PySem.W.StrBack (EP X pins σ Q)) X.xe s := by
  obtain ⟨C', f, fd, ps, h1, h2, h3, h4, h5, h6⟩ := F.ex c mf e
  rw [hm] at h1
  cases h1
  obtain ⟨mA, J, _⟩ := ins_get I.hok ha
  obtain ⟨od, J, _⟩ := J.look
  refine ⟨f, _, od, J, h2, h3, ?_⟩
  refine wpAny_mono (runTA hK hM hfr h4 hga hr h6 noE_pass I (us := [.ref a]) (vs := [.ref a]) (.cons rfl .nil) (by rw [h5]; rfl) (by rw [h5]; exact h)) (fun v s' q => ?_) fun _ _ q => q
  obtain ⟨z, H', I', rz, y, rfl, q⟩ := q
  obtain ⟨t, rfl⟩ := rz
  exact ⟨.str y, H', I', ⟨t, rfl⟩, q⟩
def rOwn1 (G : Gi) (tbl : List (Str × MF)) (r : List V → Hp → VK → Prop) : List V → Hp → VK → Prop := fun xs H Q => ∃ x, xs = [x] ∧ rOwn G tbl (fun x => r [x]) x H Q
/-- str(e) -/
theorem call_strO (hK : X.K = G.K) (hM : X.mg = G.mg) (F : SpF X.prog X.w G X.base gb k "__str__" tbl) (hga : gb = true → X.A.guards = some []) (hr : Room (k + 2) X.A) : CallR X (.type "str") (rOwn1 G tbl rStrM) := by
  intro pins s σ H xs us Q I r q
  obtain ⟨x, rfl, q⟩ := q
  rcases q with q | ⟨c, mf, C, a, dx, fs, e, hm, rfl, ha, q⟩
  · exact call_strM pins s σ H [x] us Q I r q
  · cases r with
    | cons r0 rn =>
      cases rn
      cases r0
      have kin := I.kIn
      rw [hK] at kin
      obtain ⟨f, ox, od, J, h2, h3, h4⟩ := own_run (A := X.A.in1.in1) hK hM F rfl hga hr.in1.in1 I e hm ha q
      exact PySem.W.kso_call hr.in1.in1.units0 kin J h2 h3 h4
theorem sp1_t {r : List V → Hp → VK → Prop} {g : D → Option O} (hr : UnD G (fun x => r [x]) g) (hN : ∀ c mf, tbl.lookup c = some mf → ∃ C, G.mg c = some (.ref C)) {σ : L2.St} {H : Hp} {Q : VK} (q : tO G W (xSp tbl g md) σ H Q) :
    tCB (rOwn1 G tbl r) (tCons (tD G W md) tNil) σ H Q := by
  show tD G W md σ H fun x H1 => ∃ y, [x] = [y] ∧ rOwn G tbl (fun x => r [x]) y H1 Q
  obtain ⟨c, st, rfl, r0, w⟩ := own_t hr q hN
  exact ⟨c, st, rfl, r0, wp_mono w (fun d st' k v c' r' g' p' => ⟨v, rfl, k v c' r' g' p'⟩) fun _ _ q => q⟩
theorem x_strO (hK : X.K = G.K) (hM : X.mg = G.mg) (F : SpF X.prog X.w G X.base gb k "__str__" tbl) (hga : gb = true → X.A.guards = some []) (hr : Room (k + 2) X.A) (hg : Gl X x) (hm : X.mg x = none) (hv : bootBuiltins x = some (.type "str")) (ha : PE X e (tD G W md))
    (hn : x ≠ "__name__" := by decide) (hdb : (x == ("__debug__" : Str)) = false := by decide)
    (he : starEach [e] X.env = (false, eval e X.env) :: starEach [] X.env := by rfl) (hpl : (backTo pos (starEach [] X.env)).any (·.1) = false := by rfl) : PE X (.Call (.Name x p) [e] [] pos) (tO G W (xSp tbl strD md)) :=
  (pe_callTy (call_strO hK hM F hga hr) hg hm hv (pa_cons ha pa_nil he) hn hdb he hpl).weak fun _ _ _ q => sp1_t d_str F.nm q
end
end L2.Tr
namespace PySem.SeqAt
open AutoSeq1 (wpAny_loadPart')
open MeetsSeq
/-! data decline an instance -/
end PySem.SeqAt
namespace L2.Tr
open PySem PySem.Spec PyProof.Rows L2 L2.Pc
section
variable {prog : Program} {w : World} {A : Around} {E : Value → Shared → Prop} {s : Shared} {K : PySem.W.Frag} {x C f : Addr} {ox : Obj} {od : Option Obj}
/-- what K holds of a class with an own == -/
def kindsE : List String := ["NoneType", "bool", "int", "str", "tuple", "list"]
end
end L2.Tr
namespace L2.Tr
open PySem PySem.Spec PyProof.Rows L2 L2.Pc
/-! ### x == y, x != y with instances of classes that have their own == -/
abbrev ETab := List (Str × (MF × (D → D → Option Bool)))
def okL (d : D) : Bool := match clsName d with
  | some k => kindsE.contains k
  | none => false
def okR (tbl : ETab) (d : D) : Bool := match insOf d with
  | some c => (tbl.lookup c).isSome
  | none => okL d
/-- == of trees -/
def eqP (tbl : ETab) (x y : D) : Option Bool := match insOf x with
  | some c => (tbl.lookup c).bind fun mp => if okR tbl y = true then mp.2 x y else none
  | none => (match insOf y with
    | some c => (tbl.lookup c).bind fun mp => if okL x = true then mp.2 y x else none
    | none => plainEq x y)
def xEqO (tbl : ETab) (neg : Bool) (ma mb : M D) : M O := bnd ma fun x => bnd mb fun y => ofO ((eqP tbl x y).map fun b => .fz (.bl (b != neg)))
@[simp] theorem xEqO_app (tbl : ETab) (neg : Bool) (ma mb : M D) (s : S) : xEqO tbl neg ma mb s = (ma s).bind fun x s1 => (mb s1).bind fun y => ofO ((eqP tbl x y).map fun b => .fz (.bl (b != neg))) := rfl
def cmpOpB (neg : Bool) : CmpOp := if neg = true then .NotEq else .Eq
end L2.Tr
namespace L2.Tr
open PySem PySem.Spec PyProof.Rows L2 L2.Pc
section
variable {X : Cx} {G : Gi} {gb : Bool} {k : Nat} {tbl : ETab}
/-- an item y against x, as `in` compares them -/
def itP (tbl : ETab) (y x : D) : Option Bool := if (insOf y).isSome = true ∨ (insOf x).isSome = true then eqP tbl y x else if flatD y = true ∧ flatD x = true then some (eqF y x) else none
def inPL (tbl : ETab) (x : D) : List D → Option Bool
  | [] => some false
  | y :: ys => (itP tbl y x).bind fun b => if b = true then some true else inPL tbl x ys
def inPT (tbl : ETab) (x y : D) : Option Bool := (itemsD y).bind (inPL tbl x)
def inOpB (neg : Bool) : CmpOp := if neg = true then .NotIn else .In
variable {W : WX} {a b : Expr} {ma mb : M D} {pos : Pos}
def xInO (tbl : ETab) (neg : Bool) (ma mb : M D) : M O := bnd ma fun x => bnd mb fun y => ofO ((inPT tbl x y).map fun b => .fz (.bl (b != neg)))
@[simp] theorem xInO_app (tbl : ETab) (neg : Bool) (ma mb : M D) (s : S) : xInO tbl neg ma mb s = (ma s).bind fun x s1 => (mb s1).bind fun y => ofO ((inPT tbl x y).map fun b => .fz (.bl (b != neg))) := rfl
end
end L2.Tr
namespace L2.Tr
open PySem PySem.Spec PyProof.Rows L2 L2.Pc
/-! ### f-strings -/
section
variable {X : Cx} {G : Gi} {W : WX} {e : Expr} {es : List Expr} {m : M O} {ms : List (M O)} {pos : Pos}
def fmtD : D → Option O
  | .str y => if y.length ≤ 16777216 then some (.fz (.str y)) else none
  | .int i => if i.natAbs.log2 < 1920 then some (.fz (.str (toString i))) else none
  | _ => none
def jsM : List (M O) → Str → M O
  | [], acc => ret (.fz (.str acc))
  | m :: ms, acc => bnd m fun o => match o with
    | .fz (.str y) => if (acc ++ y).length ≤ 16777216 then jsM ms (acc ++ y) else fun _ => .no
    | _ => fun _ => .no
end
/-! ### isinstance with own classes -/
def kindsI : List String := ["NoneType", "bool", "int", "str", "tuple", "list", "dict"]
def kindsJ : List String := ["str", "int", "bool", "tuple", "list", "dict"]
structure IsT (G : Gi) (cls : List Str) : Prop where
  ex : ∀ c, cls.contains c = true → ∃ C, G.mg c = some (.ref C) ∧ Cls G.K C ∧ PySem.W.findIn G.K (.ref C) "__class__" = some (some (.builtin "object.__class__")) ∧
    PySem.W.specialIn G.K (.builtin "object.__class__") "__get__" = some (some (.builtin "getset_descriptor.__get__")) ∧ PySem.W.takesIn G.K (.builtin "object.__class__") = some true ∧ PySem.W.mroIn G.K C (.type "object") = some true ∧
    (∀ k ∈ kindsI, PySem.W.kitOne G.K (.type k) (.ref C) = some false) ∧ ∀ n ∈ kindsJ, PySem.W.kitOne G.K (.ref C) (.type n) = some false
  cross : ∀ c c' C C', cls.contains c = true → cls.contains c' = true → G.mg c = some (.ref C) → G.mg c' = some (.ref C') → PySem.W.kitOne G.K (.ref C) (.ref C') = some (decide (c = c'))
/-! ### x.extend(e) -/
section
variable {X : Cx} {G : Gi} {W : WX} {e : Expr} {me : M O} {pos apos cpos : Pos} {i : Nat}
def sExt (i : Nat) (me : M O) : M Fl := fun s => match getP s i with
  | some (.lst _) => (me s).bind fun o s1 => match getP s1 i, o.toD with
    | some (.lst xs), .lst ds => if xs.length + ds.length ≤ 16777216 then .ok .nx (putP s1 i (.lst (xs ++ ds))) else .no
    | _, _ => .no
  | _ => .no
theorem ext_t {D' : Ends} {σ : L2.St} {H : Hp} (q : tS G W (sExt i me) D' σ H) : tDrop (tBM G.K "list" rExtend (tVar i) (tCons (tLa G W me) tNil)) D' σ H := by
  obtain ⟨c, st, rfl, r, w⟩ := q
  unfold sExt at w
  split at w
  · rename_i xs0 e0
    obtain ⟨v, f2, q1, q2, _⟩ := place r e0
    obtain ⟨a, vs, rfl, rfl, hv, rv⟩ := own_lst q2
    refine ⟨.ref a, q1, .inl ⟨rfl, _, .inl (.inl hv)⟩, ?_⟩
    show tLa G W me σ c.H fun x H1 => rExtend (.ref a) [x] H1 fun _ H2 => D'.nx σ H2
    refine ⟨c, st, rfl, r, wp_mono (wp_bind.mp w) (fun o st1 w1 v c1 r1 g1 p1 => ?_) (fun x s q v d c' r' g' x' => q σ v d c' r' g'.toGo x')⟩
    split at w1
    · rename_i xs ds e1 e2
      split at w1
      · rename_i hl
        obtain ⟨v', f2', q1', q2', hp⟩ := place r1 e1
        rw [q1] at q1'
        cases q1'
        obtain ⟨a', vs', ea, rfl, hv', rv'⟩ := own_lst q2'
        cases ea
        obtain ⟨fp, t⟩ := p1
        have vw := own_view r1 t
        rw [e2] at vw
        obtain ⟨b, zs, rfl, hb, rz⟩ := vw
        obtain ⟨r2, g2⟩ := put_lst (o := .lst xs) hp (rv'.app rz)
        exact ⟨a, b, vs', zs, rfl, rfl, hv', hb, by rw [szl, rv'.len, rz.len]; exact hl, w1 σ _ r2 (g1.toGo.trans g2)⟩
      · exact w1.elim
    · exact w1.elim
  · exact w.elim
theorem s_ext {x : Str} {px : Pos} (hK : X.K = G.K) (hN : X.N[i]? = some x) (hv : Vis X.env.scope x) (he : PE X e (tLa G W me)) (hd : (x == ("__debug__" : Str)) = false := by decide) (hcd : (x == ("__classdict__" : Str)) = false := by decide)
    (hs : swapsWith (.Call (.Attribute (.Name x px) "extend" apos) [e] [] cpos) none pos.line X.env = pure false := by rfl)
    (hbase : attributeBase (.Name x px) "extend" X.env (eval (.Name x px) X.env) = eval (.Name x px) X.env := by rfl)
    (hfew : ((backTo cpos (starEach [e] X.env)).all (fun x => !x.1) && (backToKw cpos (keywordEach [] X.env)).all (fun x => x.1.isSome)
      && decide (([e] : List Expr).length + ([] : List Keyword).length + (if ([] : List Keyword).isEmpty then 0 else 1) < 30)) = true := by rfl)
    (hline : (apos.endLine == cpos.line) = true := by rfl) (hst : starEach [e] X.env = (false, eval e X.env) :: starEach [] X.env := by rfl) (hplain : (backTo cpos (starEach [] X.env)).any (·.1) = false := by rfl) :
    PS X (.Expr (.Call (.Attribute (.Name x px) "extend" apos) [e] [] cpos) pos) (tS G W (sExt i me)) :=
  (ps_expr (pe_bm PySem.F.plainAttrs_list PySem.F.slot_list_extend PySem.F.type_list_extend mt_extend (pe_var hN hv hd hcd) (pa_cons he pa_nil hst) hbase hfew hline hst hplain) hs).weak fun D' σ H q => by
    rw [hK]; exact ext_t q
/-- a statement that is never reached -/
theorem s_never {st : Stmt} : PS X st (tS G W (fun _ => .no)) := (ps_never (X := X)).weak fun D' σ H q => by
  obtain ⟨c, st, rfl, r, w⟩ := q
  exact w.elim
end
/-! ### keywords alone -/
end L2.Tr
namespace L2.Tr
open PySem L2 L2.Pc
/-! ### what follows a step -/
def opqK (g : D → D → Option O) (f : S → Option D) (x : O) : M O := fun s => match f s with
  | some d => ofO (g x.toD d) s
  | none => .no
def chainK (g g' : D → D → Option O) (mc : M O) (x y : O) : M O := match (g x.toD y.toD).bind asB with
  | some true => bnd mc fun z => ofO (g' y.toD z.toD)
  | some false => ret (.fz (.bl false))
  | none => fun _ => .no
def seqK (m2 : M Fl) (f : Fl) : M Fl := match f with
  | .nx => m2
  | f => ret f
def asgK (i : Nat) (o : O) : M Fl := fun s => .ok .nx ⟨setS s.env i (some o), s.mu⟩
def asgTK (t : MT) (d : D) : M Fl := fun s => match t d s with
  | some s' => .ok .nx s'
  | none => .no
def asgCK (i : Nat) (o : O) : M Fl := fun s => if cellO o = true then .ok .nx ⟨setS s.env i (some (.fz (.cel s.mu.length))), s.mu ++ [o]⟩ else .no
def putLK (i : Nat) (mk : M D) (d : D) : M Fl := fun s1 => match getP s1 i with
  | none => .no
  | some _ => (mk s1).bind fun k => putAt i d k
def appK (i : Nat) (d : D) : M Fl := fun s1 => match getP s1 i with
  | some (.lst xs) => if xs.length < 16777216 then .ok .nx (putP s1 i (.lst (xs ++ [d]))) else .no
  | _ => .no
def extK (i : Nat) (o : O) : M Fl := fun s1 => match getP s1 i, o.toD with
  | some (.lst xs), .lst ds => if xs.length + ds.length ≤ 16777216 then .ok .nx (putP s1 i (.lst (xs ++ ds))) else .no
  | _, _ => .no
def forK (t : MT) (mb : M Fl) (ds : List D) (f : Fl) : M Fl := match f with
  | .nx => forL t mb ds
  | .ct => forL t mb ds
  | .bk => ret .nx
  | .rt o => ret (.rt o)
def parK (i j : Nat) (os : List O) : M Fl := fun s => match os with
  | [o, p] => .ok .nx ⟨setS (setS s.env i (some o)) j (some p), s.mu⟩
  | _ => .no
def parK3 (i j l : Nat) (os : List O) : M Fl := fun s => match os with
  | [o, p, r] => .ok .nx ⟨setS (setS (setS s.env i (some o)) j (some p)) l (some r), s.mu⟩
  | _ => .no
def fldK (CT : CTab) (f : Str) (i : Nat) (d : D) : M Fl := fun s => match getP s i with
  | some (.ins c os) => if okF CT c f = true ∧ (os.map (·.2)).all isFz = true ∧ os.length < 1000 then .ok .nx (putP s i (.ins c (putO f (.fz d) os))) else .no
  | _ => .no
def methK (c mn : Str) (m : MF) (gD : List D → List D → List D) (n k : Nat) (ma mk : M (List D)) (d : D) : M O := match d with
  | .ins c' fs => if c' = c ∧ (fs.map (·.1)).contains mn = false then bnd ma fun ds => bnd mk fun es => if ds.length + 1 = n ∧ es.length = k then runF m (gD (.ins c' fs :: ds) es) else fun _ => .no
    else fun _ => .no
  | _ => fun _ => .no
def jsK (ms : List (M O)) (acc : Str) (o : O) : M O := match o with
  | .fz (.str y) => if (acc ++ y).length ≤ 16777216 then jsM ms (acc ++ y) else fun _ => .no
  | _ => fun _ => .no
def lcB (env0 : List (Option O)) (vs : List Nat) (ys : List D) : M O := fun s2 => .ok (.lst ys) ⟨backE env0 s2.env vs, s2.mu⟩
def lcK (vs : List Nat) (t : MT) (mt : M Bool) (me : M D) (ds : List D) : M O := fun s => if freeE s.env vs = true ∧ ds.length ≤ 16777216 then
  (noExc (lcL vs t mt me ds ⟨wipeE s.env vs, s.mu⟩)).bind (lcB s.env vs) else .no
def lcY (vs : List Nat) (t : MT) (mt : M Bool) (me : M D) (ds : List D) (y : D) : M (List D) := fun s3 => if freeE s3.env vs = true then (lcL vs t mt me ds ⟨wipeE s3.env vs, s3.mu⟩).bind fun ys => ret (y :: ys) else .no
def lcT (vs : List Nat) (t : MT) (mt : M Bool) (me : M D) (ds : List D) (b : Bool) : M (List D) := fun s2 =>
  if b = true then (me s2).bind (lcY vs t mt me ds) else if freeE s2.env vs = true then lcL vs t mt me ds ⟨wipeE s2.env vs, s2.mu⟩ else .no
def partK (o : O) : M (Option Int) := match o with
  | .fz (.int i) => ret (some i)
  | _ => fun _ => .no
section
variable (env : List (Option O)) (mu : List O)
theorem st_ret {α : Type} (a : α) : ret a ⟨env, mu⟩ = .ok a ⟨env, mu⟩ := rfl
theorem st_bnd {α β : Type} (m : M α) (f : α → M β) : bnd m f ⟨env, mu⟩ = (m ⟨env, mu⟩).bind f := rfl
theorem st_ofs {α : Type} (a : α) : ofO (some a) ⟨env, mu⟩ = .ok a ⟨env, mu⟩ := rfl
theorem st_frz (m : M O) : frz m ⟨env, mu⟩ = (m ⟨env, mu⟩).bind fun o => ret o.toD := rfl
theorem st_fzd (m : M D) : fzd m ⟨env, mu⟩ = (m ⟨env, mu⟩).bind fun d => ret (.fz d) := rfl
theorem st_var (i : Nat) : xVar i ⟨env, mu⟩ = (match getS env i with | some o => .ok (.fz o.toD) ⟨if isFz o then env else setS env i (some (.fz o.toD)), mu⟩ | none => .no) := rfl
theorem st_bor (i : Nat) : xBor i ⟨env, mu⟩ = (match getS env i with | some o => .ok o ⟨env, mu⟩ | none => .no) := rfl
theorem st_mov (i : Nat) : xMov i ⟨env, mu⟩ = (match getS env i with | some o => .ok o ⟨if isFz o then env else setS env i none, mu⟩ | none => .no) := rfl
theorem st_rd (i : Nat) : xRd i ⟨env, mu⟩ = (match getS env i with | some (.fz (.cel n)) => (match getM mu n with | some o => .ok o ⟨env, mu⟩ | none => .no) | some o => .ok o ⟨env, mu⟩ | none => .no) := rfl
theorem st_qv (i : Nat) : qVar i ⟨env, mu⟩ = (match getS env i with | some (.fz d) => some d | _ => none) := rfl
theorem st_c (d : D) : xC d ⟨env, mu⟩ = .ok (.fz d) ⟨env, mu⟩ := rfl
theorem st_op (g : D → D → Option O) (ma mb : M O) : xOp g ma mb ⟨env, mu⟩ = (ma ⟨env, mu⟩).bind fun x => bnd mb fun y => ofO (g x.toD y.toD) := rfl
theorem st_un (g : D → Option O) (m : M O) : xUn g m ⟨env, mu⟩ = (m ⟨env, mu⟩).bind fun x => ofO (g x.toD) := rfl
theorem st_tob (m : M O) : toB m ⟨env, mu⟩ = (m ⟨env, mu⟩).bind fun o => ofO (asB o) := rfl
theorem st_band (ma mb : M Bool) : bAnd ma mb ⟨env, mu⟩ = (ma ⟨env, mu⟩).bind fun x => if x = true then mb else ret false := rfl
theorem st_bor2 (ma mb : M Bool) : bOr ma mb ⟨env, mu⟩ = (ma ⟨env, mu⟩).bind fun x => if x = true then ret true else mb := rfl
theorem st_bnot (ma : M Bool) : bNot ma ⟨env, mu⟩ = (ma ⟨env, mu⟩).bind fun x => ret (!x) := rfl
theorem st_if (mt : M Bool) (ma mb : M O) : xIf mt ma mb ⟨env, mu⟩ = (mt ⟨env, mu⟩).bind fun x => if x = true then ma else mb := rfl
theorem st_andV (ma mb : M O) : xAndV ma mb ⟨env, mu⟩ = (toB ma ⟨env, mu⟩).bind fun x => if x = true then mb else ret (.fz (.bl false)) := rfl
theorem st_orV (ma mb : M O) : xOrV ma mb ⟨env, mu⟩ = (toB ma ⟨env, mu⟩).bind fun x => if x = true then ret (.fz (.bl true)) else mb := rfl
theorem st_notV (ma : M O) : xNotV ma ⟨env, mu⟩ = (toB ma ⟨env, mu⟩).bind fun x => ret (.fz (.bl (!x))) := rfl
theorem st_anil  : aNil ⟨env, mu⟩ = .ok [] ⟨env, mu⟩ := rfl
theorem st_acons (m : M D) (ms : M (List D)) : aCons m ms ⟨env, mu⟩ = (m ⟨env, mu⟩).bind fun d => bnd ms fun ds => ret (d :: ds) := rfl
theorem st_onil  : oNil ⟨env, mu⟩ = .ok [] ⟨env, mu⟩ := rfl
theorem st_ocons (m : M O) (ms : M (List O)) : oCons m ms ⟨env, mu⟩ = (m ⟨env, mu⟩).bind fun d => bnd ms fun ds => ret (d :: ds) := rfl
theorem st_tup (ms : M (List D)) : xTup ms ⟨env, mu⟩ = (ms ⟨env, mu⟩).bind fun ds => ofO (dTup ds) := rfl
theorem st_lst (ms : M (List D)) : xLst ms ⟨env, mu⟩ = (ms ⟨env, mu⟩).bind fun ds => ofO (dLst ds) := rfl
theorem st_cn (g : List D → Option O) (ma : M (List D)) : xCn g ma ⟨env, mu⟩ = (ma ⟨env, mu⟩).bind fun ds => ofO (g ds) := rfl
theorem st_m1 (g : D → List D → Option O) (m : M O) (md : M D) : xM1 g m md ⟨env, mu⟩ = (m ⟨env, mu⟩).bind fun x => if isS x.toD = true then bnd md fun d => ofO (g x.toD [d]) else fun _ => .no := rfl
theorem st_m0 (g : D → List D → Option O) (m : M O) : xM0 g m ⟨env, mu⟩ = (m ⟨env, mu⟩).bind fun x => if isS x.toD = true then ofO (g x.toD []) else fun _ => .no := rfl
theorem st_opq (g : D → D → Option O) (ma : M O) (f : S → Option D) : xOpQ g ma f ⟨env, mu⟩ = (ma ⟨env, mu⟩).bind fun x => opqK g f x := rfl
theorem st_sl (ma : M O) (ml mh : M (Option Int)) : xSl ma ml mh ⟨env, mu⟩ = (ma ⟨env, mu⟩).bind fun x => bnd ml fun l => bnd mh fun h => ofO (slD x.toD l h) := rfl
theorem st_chain (g g' : D → D → Option O) (ma mb mc : M O) : xChain g g' ma mb mc ⟨env, mu⟩ = (ma ⟨env, mu⟩).bind fun x => bnd mb fun y => chainK g g' mc x y := rfl
theorem st_mseq (md : M D) : mSeq md ⟨env, mu⟩ = (md ⟨env, mu⟩).bind fun d => ofO (seqI d) := rfl
theorem st_rg1 (ma : M (List D)) : mRng1 ma ⟨env, mu⟩ = (ma ⟨env, mu⟩).bind fun ds => ofO (rng1 ds) := rfl
theorem st_rg2 (ma : M (List D)) : mRng2 ma ⟨env, mu⟩ = (ma ⟨env, mu⟩).bind fun ds => ofO (rng2 ds) := rfl
theorem st_snil  : sNil ⟨env, mu⟩ = .ok .nx ⟨env, mu⟩ := rfl
theorem st_seq (m1 m2 : M Fl) : sSeq m1 m2 ⟨env, mu⟩ = (m1 ⟨env, mu⟩).bind fun f => seqK m2 f := rfl
theorem st_sexpr (me : M O) : sExpr me ⟨env, mu⟩ = (me ⟨env, mu⟩).bind fun _ => ret .nx := rfl
theorem st_sret (me : M O) : sRet me ⟨env, mu⟩ = (me ⟨env, mu⟩).bind fun o => ret (.rt o) := rfl
theorem st_sif (mt : M Bool) (m1 m2 : M Fl) : sIf mt m1 m2 ⟨env, mu⟩ = (mt ⟨env, mu⟩).bind fun b => if b = true then m1 else m2 := rfl
theorem st_asg (i : Nat) (me : M O) : sAsg i me ⟨env, mu⟩ = (me ⟨env, mu⟩).bind (asgK i) := rfl
theorem st_asgK (i : Nat) (o : O) : asgK i o ⟨env, mu⟩ = .ok .nx ⟨setS env i (some o), mu⟩ := rfl
theorem st_asgT (t : MT) (me : M D) : sAsgT t me ⟨env, mu⟩ = (me ⟨env, mu⟩).bind (asgTK t) := rfl
theorem st_asgTK (t : MT) (d : D) : asgTK t d ⟨env, mu⟩ = (match t d ⟨env, mu⟩ with | some s' => .ok .nx s' | none => .no) := rfl
theorem st_asgC (i : Nat) (me : M O) : sAsgC i me ⟨env, mu⟩ = (me ⟨env, mu⟩).bind (asgCK i) := rfl
theorem st_asgCK (i : Nat) (o : O) : asgCK i o ⟨env, mu⟩ = if cellO o = true then .ok .nx ⟨setS env i (some (.fz (.cel mu.length))), mu ++ [o]⟩ else .no := rfl
theorem st_putL (i : Nat) (mk md : M D) : sPutL i mk md ⟨env, mu⟩ = (md ⟨env, mu⟩).bind (putLK i mk) := rfl
theorem st_putLK (i : Nat) (mk : M D) (d : D) : putLK i mk d ⟨env, mu⟩ = (match getP ⟨env, mu⟩ i with | none => .no | some _ => (mk ⟨env, mu⟩).bind fun k => putAt i d k) := rfl
theorem st_putAt (i : Nat) (d : D) (j : Int) : putAt i d (.int j) ⟨env, mu⟩ = (match getP ⟨env, mu⟩ i with | some (.lst xs) => (match ixN xs.length j with | some q => .ok .nx (putP ⟨env, mu⟩ i (.lst (xs.set q d))) | none => .no) | _ => .no) := by unfold putAt; cases getP ⟨env, mu⟩ i with | none => rfl | some o => cases o <;> rfl
theorem st_getP (i : Nat) : getP ⟨env, mu⟩ i = (match getS env i with | some (.fz (.cel n)) => getM mu n | some (.fz _) => none | o => o) := rfl
theorem st_putP (i : Nat) (o : O) : putP ⟨env, mu⟩ i o = (match getS env i with | some (.fz (.cel n)) => ⟨env, setM mu n o⟩ | some (.fz _) => ⟨env, mu⟩ | some _ => ⟨setS env i (some o), mu⟩ | none => ⟨env, mu⟩) := rfl
theorem st_app (i : Nat) (md : M D) : sApp i md ⟨env, mu⟩ = (match getP ⟨env, mu⟩ i with | some (.lst _) => (md ⟨env, mu⟩).bind (appK i) | _ => .no) := rfl
theorem st_appK (i : Nat) (d : D) : appK i d ⟨env, mu⟩ = (match getP ⟨env, mu⟩ i with | some (.lst xs) => if xs.length < 16777216 then .ok .nx (putP ⟨env, mu⟩ i (.lst (xs ++ [d]))) else .no | _ => .no) := rfl
theorem st_ext (i : Nat) (me : M O) : sExt i me ⟨env, mu⟩ = (match getP ⟨env, mu⟩ i with | some (.lst _) => (me ⟨env, mu⟩).bind (extK i) | _ => .no) := rfl
theorem st_extK (i : Nat) (o : O) : extK i o ⟨env, mu⟩ = (match getP ⟨env, mu⟩ i, o.toD with | some (.lst xs), .lst ds => if xs.length + ds.length ≤ 16777216 then .ok .nx (putP ⟨env, mu⟩ i (.lst (xs ++ ds))) else .no | _, _ => .no) := rfl
theorem st_for (mi : M (List D)) (t : MT) (mb : M Fl) : sFor mi t mb ⟨env, mu⟩ = (mi ⟨env, mu⟩).bind fun ds => forL t mb ds := rfl
theorem st_for0 (t : MT) (mb : M Fl) : forL t mb [] ⟨env, mu⟩ = .ok .nx ⟨env, mu⟩ := rfl
theorem st_for1 (t : MT) (mb : M Fl) (d : D) (ds : List D) : forL t mb (d :: ds) ⟨env, mu⟩ = (match t d ⟨env, mu⟩ with | none => .no | some s1 => (mb s1).bind (forK t mb ds)) := rfl
theorem st_gN (i : Nat) (d : D) : gN i d ⟨env, mu⟩ = some ⟨setS env i (some (.fz d)), mu⟩ := rfl
theorem st_gT (ts : List MT) (d : D) : gT ts d ⟨env, mu⟩ = (seqOf d).bind fun ds => gsN ts ds ⟨env, mu⟩ := rfl
theorem st_gs0  : gsN [] [] ⟨env, mu⟩ = some ⟨env, mu⟩ := rfl
theorem st_gs1 (t : MT) (ts : List MT) (d : D) (ds : List D) : gsN (t :: ts) (d :: ds) ⟨env, mu⟩ = (t d ⟨env, mu⟩).bind (gsN ts ds) := rfl
theorem st_par (i j : Nat) (ms : M (List O)) : sPar i j ms ⟨env, mu⟩ = (ms ⟨env, mu⟩).bind (parK i j) := rfl
theorem st_parK (i j : Nat) (o p : O) : parK i j [o, p] ⟨env, mu⟩ = .ok .nx ⟨setS (setS env i (some o)) j (some p), mu⟩ := rfl
theorem st_par3 (i j l : Nat) (ms : M (List O)) : sPar3 i j l ms ⟨env, mu⟩ = (ms ⟨env, mu⟩).bind (parK3 i j l) := rfl
theorem st_parK3 (i j l : Nat) (o p r : O) : parK3 i j l [o, p, r] ⟨env, mu⟩ = .ok .nx ⟨setS (setS (setS env i (some o)) j (some p)) l (some r), mu⟩ := rfl
theorem st_call (m : MF) (gD : List D → List D → List D) (n k : Nat) (ma mk : M (List D)) : xCall m gD n k ma mk ⟨env, mu⟩ = (ma ⟨env, mu⟩).bind fun ds => bnd mk fun es => if ds.length = n ∧ es.length = k then runF m (gD ds es) else fun _ => .no := rfl
theorem st_runF (m : MF) (ds : List D) : runF m ds ⟨env, mu⟩ = (match m ds mu with | .ok o s' => .ok o ⟨env, s'.mu⟩ | .exc x s' => .exc x ⟨env, s'.mu⟩ | .no => .no) := rfl
theorem st_fld (CT : CTab) (f : Str) (m : M O) : xFld CT f m ⟨env, mu⟩ = (m ⟨env, mu⟩).bind fun o => ofO (fldO CT f o) := rfl
theorem st_fldF (CT : CTab) (f : Str) (m : M O) : xFldF CT f m ⟨env, mu⟩ = (m ⟨env, mu⟩).bind fun o => ofO ((fldO CT f o).bind fzO) := rfl
theorem st_sfld (CT : CTab) (f : Str) (i : Nat) (md : M D) : sFldD CT f i md ⟨env, mu⟩ = (md ⟨env, mu⟩).bind (fldK CT f i) := rfl
theorem st_fldK (CT : CTab) (f : Str) (i : Nat) (d : D) : fldK CT f i d ⟨env, mu⟩ = (match getP ⟨env, mu⟩ i with | some (.ins c os) => if okF CT c f = true ∧ (os.map (·.2)).all isFz = true ∧ os.length < 1000 then .ok .nx (putP ⟨env, mu⟩ i (.ins c (putO f (.fz d) os))) else .no | _ => .no) := rfl
theorem st_meth (c mn : Str) (m : MF) (gD : List D → List D → List D) (n k : Nat) (md : M D) (ma mk : M (List D)) : xMeth c mn m gD n k md ma mk ⟨env, mu⟩ = (md ⟨env, mu⟩).bind fun d => methK c mn m gD n k ma mk d := rfl
theorem st_sp (tbl : List (Str × MF)) (g : D → Option O) (md : M D) : xSp tbl g md ⟨env, mu⟩ = (md ⟨env, mu⟩).bind (runS tbl g) := rfl
theorem st_eqO (tbl : ETab) (neg : Bool) (ma mb : M D) : xEqO tbl neg ma mb ⟨env, mu⟩ = (ma ⟨env, mu⟩).bind fun x => bnd mb fun y => ofO ((eqP tbl x y).map fun b => .fz (.bl (b != neg))) := rfl
theorem st_inO (tbl : ETab) (neg : Bool) (ma mb : M D) : xInO tbl neg ma mb ⟨env, mu⟩ = (ma ⟨env, mu⟩).bind fun x => bnd mb fun y => ofO ((inPT tbl x y).map fun b => .fz (.bl (b != neg))) := rfl
theorem st_js0 (acc : Str) : jsM [] acc ⟨env, mu⟩ = .ok (.fz (.str acc)) ⟨env, mu⟩ := rfl
theorem st_js1 (m : M O) (ms : List (M O)) (acc : Str) : jsM (m :: ms) acc ⟨env, mu⟩ = (m ⟨env, mu⟩).bind (jsK ms acc) := rfl
theorem st_jsK (ms : List (M O)) (acc y : Str) : jsK ms acc (.fz (.str y)) ⟨env, mu⟩ = (if (acc ++ y).length ≤ 16777216 then jsM ms (acc ++ y) ⟨env, mu⟩ else .no) := by unfold jsK; dsimp only; by_cases h : (acc ++ y).length ≤ 16777216 <;> simp only [h, if_true, if_false]
theorem st_lc (vs : List Nat) (mi : M (List D)) (t : MT) (mt : M Bool) (me : M D) : xLc vs mi t mt me ⟨env, mu⟩ = (mi ⟨env, mu⟩).bind fun ds => lcK vs t mt me ds := rfl
theorem st_lcK (vs : List Nat) (t : MT) (mt : M Bool) (me : M D) (ds : List D) : lcK vs t mt me ds ⟨env, mu⟩ = if freeE env vs = true ∧ ds.length ≤ 16777216 then (noExc (lcL vs t mt me ds ⟨wipeE env vs, mu⟩)).bind (lcB env vs) else .no := rfl
theorem st_lcB (env0 : List (Option O)) (vs : List Nat) (ys : List D) : lcB env0 vs ys ⟨env, mu⟩ = .ok (.lst ys) ⟨backE env0 env vs, mu⟩ := rfl
theorem st_lc0 (vs : List Nat) (t : MT) (mt : M Bool) (me : M D) : lcL vs t mt me [] ⟨env, mu⟩ = .ok [] ⟨env, mu⟩ := rfl
theorem st_lc1 (vs : List Nat) (t : MT) (mt : M Bool) (me : M D) (d : D) (ds : List D) : lcL vs t mt me (d :: ds) ⟨env, mu⟩ = (match t d ⟨env, mu⟩ with | none => .no | some s1 => (mt s1).bind (lcT vs t mt me ds)) := rfl
theorem st_lcT (vs : List Nat) (t : MT) (mt : M Bool) (me : M D) (ds : List D) (b : Bool) : lcT vs t mt me ds b ⟨env, mu⟩ = if b = true then (me ⟨env, mu⟩).bind (lcY vs t mt me ds) else if freeE env vs = true then lcL vs t mt me ds ⟨wipeE env vs, mu⟩ else .no := rfl
theorem st_lcY (vs : List Nat) (t : MT) (mt : M Bool) (me : M D) (ds : List D) (y : D) : lcY vs t mt me ds y ⟨env, mu⟩ = if freeE env vs = true then (lcL vs t mt me ds ⟨wipeE env vs, mu⟩).bind fun ys => ret (y :: ys) else .no := rfl
theorem st_mpart (md : M O) : mPart md ⟨env, mu⟩ = (md ⟨env, mu⟩).bind partK := rfl
end
section
variable {a0 a1 a2 a3 a4 a5 a6 a7 a8 a9 a10 a11 a12 a13 a14 x : Option O} {env : List (Option O)}
theorem getS_0 : getS (x :: env) 0 = x := rfl
theorem setS_0 : setS (a0 :: env) 0 x = x :: env := rfl
theorem getS_1 : getS (a0 :: x :: env) 1 = x := rfl
theorem setS_1 : setS (a0 :: a1 :: env) 1 x = a0 :: x :: env := rfl
theorem getS_2 : getS (a0 :: a1 :: x :: env) 2 = x := rfl
theorem setS_2 : setS (a0 :: a1 :: a2 :: env) 2 x = a0 :: a1 :: x :: env := rfl
theorem getS_3 : getS (a0 :: a1 :: a2 :: x :: env) 3 = x := rfl
theorem setS_3 : setS (a0 :: a1 :: a2 :: a3 :: env) 3 x = a0 :: a1 :: a2 :: x :: env := rfl
theorem getS_4 : getS (a0 :: a1 :: a2 :: a3 :: x :: env) 4 = x := rfl
theorem setS_4 : setS (a0 :: a1 :: a2 :: a3 :: a4 :: env) 4 x = a0 :: a1 :: a2 :: a3 :: x :: env := rfl
theorem getS_5 : getS (a0 :: a1 :: a2 :: a3 :: a4 :: x :: env) 5 = x := rfl
theorem setS_5 : setS (a0 :: a1 :: a2 :: a3 :: a4 :: a5 :: env) 5 x = a0 :: a1 :: a2 :: a3 :: a4 :: x :: env := rfl
theorem getS_6 : getS (a0 :: a1 :: a2 :: a3 :: a4 :: a5 :: x :: env) 6 = x := rfl
theorem setS_6 : setS (a0 :: a1 :: a2 :: a3 :: a4 :: a5 :: a6 :: env) 6 x = a0 :: a1 :: a2 :: a3 :: a4 :: a5 :: x :: env := rfl
theorem getS_7 : getS (a0 :: a1 :: a2 :: a3 :: a4 :: a5 :: a6 :: x :: env) 7 = x := rfl
theorem setS_7 : setS (a0 :: a1 :: a2 :: a3 :: a4 :: a5 :: a6 :: a7 :: env) 7 x = a0 :: a1 :: a2 :: a3 :: a4 :: a5 :: a6 :: x :: env := rfl
theorem getS_8 : getS (a0 :: a1 :: a2 :: a3 :: a4 :: a5 :: a6 :: a7 :: x :: env) 8 = x := rfl
theorem setS_8 : setS (a0 :: a1 :: a2 :: a3 :: a4 :: a5 :: a6 :: a7 :: a8 :: env) 8 x = a0 :: a1 :: a2 :: a3 :: a4 :: a5 :: a6 :: a7 :: x :: env := rfl
theorem getS_9 : getS (a0 :: a1 :: a2 :: a3 :: a4 :: a5 :: a6 :: a7 :: a8 :: x :: env) 9 = x := rfl
theorem setS_9 : setS (a0 :: a1 :: a2 :: a3 :: a4 :: a5 :: a6 :: a7 :: a8 :: a9 :: env) 9 x = a0 :: a1 :: a2 :: a3 :: a4 :: a5 :: a6 :: a7 :: a8 :: x :: env := rfl
theorem getS_10 : getS (a0 :: a1 :: a2 :: a3 :: a4 :: a5 :: a6 :: a7 :: a8 :: a9 :: x :: env) 10 = x := rfl
theorem setS_10 : setS (a0 :: a1 :: a2 :: a3 :: a4 :: a5 :: a6 :: a7 :: a8 :: a9 :: a10 :: env) 10 x = a0 :: a1 :: a2 :: a3 :: a4 :: a5 :: a6 :: a7 :: a8 :: a9 :: x :: env := rfl
theorem getS_11 : getS (a0 :: a1 :: a2 :: a3 :: a4 :: a5 :: a6 :: a7 :: a8 :: a9 :: a10 :: x :: env) 11 = x := rfl
theorem setS_11 : setS (a0 :: a1 :: a2 :: a3 :: a4 :: a5 :: a6 :: a7 :: a8 :: a9 :: a10 :: a11 :: env) 11 x = a0 :: a1 :: a2 :: a3 :: a4 :: a5 :: a6 :: a7 :: a8 :: a9 :: a10 :: x :: env := rfl
theorem getS_12 : getS (a0 :: a1 :: a2 :: a3 :: a4 :: a5 :: a6 :: a7 :: a8 :: a9 :: a10 :: a11 :: x :: env) 12 = x := rfl
theorem setS_12 : setS (a0 :: a1 :: a2 :: a3 :: a4 :: a5 :: a6 :: a7 :: a8 :: a9 :: a10 :: a11 :: a12 :: env) 12 x = a0 :: a1 :: a2 :: a3 :: a4 :: a5 :: a6 :: a7 :: a8 :: a9 :: a10 :: a11 :: x :: env := rfl
theorem getS_13 : getS (a0 :: a1 :: a2 :: a3 :: a4 :: a5 :: a6 :: a7 :: a8 :: a9 :: a10 :: a11 :: a12 :: x :: env) 13 = x := rfl
theorem setS_13 : setS (a0 :: a1 :: a2 :: a3 :: a4 :: a5 :: a6 :: a7 :: a8 :: a9 :: a10 :: a11 :: a12 :: a13 :: env) 13 x = a0 :: a1 :: a2 :: a3 :: a4 :: a5 :: a6 :: a7 :: a8 :: a9 :: a10 :: a11 :: a12 :: x :: env := rfl
theorem getS_14 : getS (a0 :: a1 :: a2 :: a3 :: a4 :: a5 :: a6 :: a7 :: a8 :: a9 :: a10 :: a11 :: a12 :: a13 :: x :: env) 14 = x := rfl
theorem setS_14 : setS (a0 :: a1 :: a2 :: a3 :: a4 :: a5 :: a6 :: a7 :: a8 :: a9 :: a10 :: a11 :: a12 :: a13 :: a14 :: env) 14 x = a0 :: a1 :: a2 :: a3 :: a4 :: a5 :: a6 :: a7 :: a8 :: a9 :: a10 :: a11 :: a12 :: a13 :: x :: env := rfl
end
section
variable {N : Nat} {body : M Fl} {ds xs ys : List D} {mu : List O} {d : D} {o : O} {i j : Int} {a b : Str} {k : Bool} {n m : Nat} {os : List O}
theorem st_fnM : fnM N body ds mu = match body ⟨env0 N ds, mu⟩ with
  | .ok (.rt o) s => .ok o ⟨[], s.mu⟩
  | .ok .nx s => .ok (.fz .non) ⟨[], s.mu⟩
  | .ok _ _ => .no
  | .exc x s => .exc x ⟨[], s.mu⟩
  | .no => .no := rfl
theorem st_env0 : env0 N ds = ds.map (fun d => some (.fz d)) ++ List.replicate (N - ds.length) none := rfl
theorem st_seqn {m2 : M Fl} : seqK m2 .nx = m2 := rfl
theorem st_seqr {m2 : M Fl} : seqK m2 (.rt o) = ret (.rt o) := rfl
theorem st_seqb {m2 : M Fl} : seqK m2 .bk = ret .bk := rfl
theorem st_seqc {m2 : M Fl} : seqK m2 .ct = ret .ct := rfl
theorem st_forn {t : MT} {mb : M Fl} : forK t mb ds .nx = forL t mb ds := rfl
theorem st_forc {t : MT} {mb : M Fl} : forK t mb ds .ct = forL t mb ds := rfl
theorem st_forb {t : MT} {mb : M Fl} : forK t mb ds .bk = ret .nx := rfl
theorem st_forr {t : MT} {mb : M Fl} : forK t mb ds (.rt o) = ret (.rt o) := rfl
theorem st_parti : partK (.fz (.int i)) = ret (some i) := rfl
theorem st_opqK {g : D → D → Option O} {f : S → Option D} {env : List (Option O)} : opqK g f o ⟨env, mu⟩ = match f ⟨env, mu⟩ with
  | some d => ofO (g o.toD d) ⟨env, mu⟩
  | none => .no := rfl
theorem st_bok {α β : Type} {a : α} {s : S} {f : α → M β} : (R.ok a s).bind f = f a s := rfl
theorem st_bex {α β : Type} {x : Exc} {s : S} {f : α → M β} : (R.exc x s : R α).bind f = .exc x s := rfl
theorem st_isf : isFz (.fz d) = true := rfl
theorem st_isl : isFz (.lst ds) = false := rfl
theorem st_isi {c : Str} {fs : List (Str × O)} : isFz (.ins c fs) = false := rfl
theorem st_tdf : O.toD (.fz d) = d := by rw [O.toD]
theorem st_tdl : O.toD (.lst ds) = .lst ds := by rw [O.toD]
theorem st_tdi {c : Str} {fs : List (Str × O)} : O.toD (.ins c fs) = .ins c (O.toDf fs) := by rw [O.toD]
theorem st_tdn : O.toDf [] = [] := by rw [O.toDf]
theorem st_tdc {c : Str} {fs : List (Str × O)} : O.toDf ((c, o) :: fs) = (c, o.toD) :: O.toDf fs := by rw [O.toDf]
theorem st_asb : asB (.fz (.bl k)) = some k := rfl
theorem st_celf : cellO (.fz d) = false := rfl
theorem st_cell : cellO (.lst ds) = true := rfl
theorem st_fzO : fzO (.fz d) = some (.fz d) := rfl
theorem st_isS : isS (.str a) = true := rfl
theorem st_sqt : seqOf (.tup ds) = some ds := rfl
theorem st_squ : seqOf (.tuk ds) = some ds := rfl
theorem st_silst : seqI (.lst ds) = some ds := rfl
theorem st_silsk : seqI (.lsk ds) = some ds := rfl
theorem st_situp : seqI (.tup ds) = some ds := rfl
theorem st_situk : seqI (.tuk ds) = some ds := rfl
theorem st_addi : addD (.int i) (.int j) = some (.fz (.int (i + j))) := rfl
theorem st_adds : addD (.str a) (.str b) = if a.length + b.length ≤ 16777216 then some (.fz (.str (a ++ b))) else none := rfl
theorem st_addl : addD (.lst xs) (.lst ys) = if xs.length + ys.length ≤ 16777216 then some (.lst (xs ++ ys)) else none := rfl
theorem st_addt : addD (.tup xs) (.tup ys) = if xs.length + ys.length ≤ 16777216 then some (.fz (.tup (xs ++ ys))) else none := rfl
theorem st_subi : subD (.int i) (.int j) = some (.fz (.int (i - j))) := rfl
theorem st_lti : ltD (.int i) (.int j) = some (.fz (.bl (decide (i < j)))) := rfl
theorem st_lei : leD (.int i) (.int j) = some (.fz (.bl (decide (i ≤ j)))) := rfl
theorem st_gti : gtD (.int i) (.int j) = some (.fz (.bl (decide (j < i)))) := rfl
theorem st_gei : geD (.int i) (.int j) = some (.fz (.bl (decide (j ≤ i)))) := rfl
theorem st_divi (h : 0 < j) (h2 : j < 1073741824) : divD (.int i) (.int j) = some (.fz (.int (i / j))) := by simp [divD, iiD, h, h2]
theorem st_modi (h : 0 < j) : modD (.int i) (.int j) = some (.fz (.int (i % j))) := by simp [modD, iiD, h]
theorem st_muli (h : mulOkB i j = true) : mulD (.int i) (.int j) = some (.fz (.int (i * j))) := by simp [mulD, h]
theorem mulL (h : -18446744073709551616 < i) (h2 : i < 18446744073709551616) : mulOkB i j = true := by unfold mulOkB; simp; exact .inl (.inl ⟨h, h2⟩)
theorem mulR (h : -18446744073709551616 < j) (h2 : j < 18446744073709551616) : mulOkB i j = true := by unfold mulOkB; simp; exact .inl (.inr ⟨h, h2⟩)
theorem st_negi : negD (.int i) = some (.fz (.int (-i))) := rfl
theorem st_ixl : ixD (.lst ds) (.int i) = (atI ds i).map .fz := rfl
theorem st_ixk : ixD (.lsk ds) (.int i) = (atI ds i).map .fz := rfl
theorem st_ixt : ixD (.tup ds) (.int i) = (atI ds i).map .fz := rfl
theorem st_ixu : ixD (.tuk ds) (.int i) = (atI ds i).map .fz := rfl
theorem atN {α : Type} {xs : List α} {n : Nat} : atI xs ((n : Nat) : Int) = xs[n]? := by
  unfold atI ixN
  have h0 : (0 : Int) ≤ (n : Int) := Int.natCast_nonneg n
  rw [if_pos h0]
  by_cases h : n < xs.length
  · rw [if_pos (by exact_mod_cast h)]; rfl
  · rw [if_neg (by omega)]; rw [List.getElem?_eq_none (by omega)]; rfl
theorem st_at0 {α : Type} {x : α} {xs : List α} : atI (x :: xs) 0 = some x := by show atI _ ((0 : Nat) : Int) = _; rw [atN]; rfl
theorem st_at1 {α : Type} {x y : α} {xs : List α} : atI (x :: y :: xs) 1 = some y := by show atI _ ((1 : Nat) : Int) = _; rw [atN]; rfl
theorem st_at2 {α : Type} {x y z : α} {xs : List α} : atI (x :: y :: z :: xs) 2 = some z := by show atI _ ((2 : Nat) : Int) = _; rw [atN]; rfl
theorem st_at3 {α : Type} {x y z w : α} {xs : List α} : atI (x :: y :: z :: w :: xs) 3 = some w := by show atI _ ((3 : Nat) : Int) = _; rw [atN]; rfl
theorem st_at4 {α : Type} {x y z w v : α} {xs : List α} : atI (x :: y :: z :: w :: v :: xs) 4 = some v := by show atI _ ((4 : Nat) : Int) = _; rw [atN]; rfl
theorem st_ixn0 : ixN (n + 1) 0 = some 0 := by unfold ixN; rw [if_pos (by omega), if_pos (by omega)]; rfl
theorem st_ixn1 : ixN (n + 2) 1 = some 1 := by unfold ixN; rw [if_pos (by omega), if_pos (by omega)]; rfl
theorem st_ixn2 : ixN (n + 3) 2 = some 2 := by unfold ixN; rw [if_pos (by omega), if_pos (by omega)]; rfl
theorem st_absi : absD (.int i) = some (.fz (.int (if i < 0 then -i else i))) := rfl
theorem st_inti : intD (.int i) = some (.fz (.int i)) := rfl
theorem st_intb : intD (.bl k) = some (.fz (.int (if k then 1 else 0))) := rfl
theorem st_lenl : lenD (.lst ds) = some (.fz (.int ds.length)) := rfl
theorem st_lenk : lenD (.lsk ds) = some (.fz (.int ds.length)) := rfl
theorem st_lent : lenD (.tup ds) = some (.fz (.int ds.length)) := rfl
theorem st_lenu : lenD (.tuk ds) = some (.fz (.int ds.length)) := rfl
theorem st_lens : lenD (.str a) = if a.length ≤ 16777216 then some (.fz (.int a.length)) else none := rfl
theorem st_ixs : ixD (.str a) (.int i) = if a.length ≤ 16777216 then (atI a.cps.toList i).map (fun c => .fz (.str ⟨#[c]⟩)) else none := rfl
theorem st_stri (h : i.natAbs.log2 < 1920) : strD (.int i) = some (.fz (.str (toString i))) := by simp [strD, h]
theorem st_strs : strD (.str a) = some (.fz (.str a)) := rfl
theorem st_is : isD d .non = some (.fz (.bl (isNon d))) := rfl
theorem st_isnt : isntD d .non = some (.fz (.bl (!isNon d))) := rfl
theorem st_nonn : isNon .non = true := rfl
theorem st_noni : isNon (.int i) = false := rfl
theorem st_nons : isNon (.str a) = false := rfl
theorem st_zf2 : zfillD (.str a) [.int 2] = some (.fz (.str (Txt.zfill a 2))) := rfl
theorem st_eqi : eqD (.int i) (.int j) = some (.fz (.bl (decide (i = j)))) := rfl
theorem st_eqs : eqD (.str a) (.str b) = some (.fz (.bl (decide (a = b)))) := rfl
theorem st_nei : neD (.int i) (.int j) = some (.fz (.bl (!decide (i = j)))) := rfl
theorem st_nes : neD (.str a) (.str b) = some (.fz (.bl (!decide (a = b)))) := rfl
theorem st_nenn : neD .non .non = some (.fz (.bl false)) := rfl
theorem st_neni : neD .non (.int i) = some (.fz (.bl true)) := rfl
theorem st_nein : neD (.int i) .non = some (.fz (.bl true)) := rfl
theorem st_fmts : fmtD (.str a) = if a.length ≤ 16777216 then some (.fz (.str a)) else none := rfl
theorem st_mull : mulD (.lst xs) (.int i) = if 0 ≤ i ∧ i ≤ 10000 ∧ xs.length ≤ 1000 then some (.lst (List.replicate i.toNat xs).flatten) else none := rfl
theorem st_fr0 {env : List (Option O)} : freeE env [] = true := rfl
theorem st_fr1 {env : List (Option O)} {v : Nat} {vs : List Nat} : freeE env (v :: vs) = ((match getS env v with | some o => isFz o | none => true) && freeE env vs) := rfl
theorem st_wp0 {env : List (Option O)} : wipeE env [] = env := rfl
theorem st_wp1 {env : List (Option O)} {v : Nat} {vs : List Nat} : wipeE env (v :: vs) = setS (wipeE env vs) v none := rfl
theorem st_bk0 {env e2 : List (Option O)} : backE env e2 [] = e2 := rfl
theorem st_bk1 {env e2 : List (Option O)} {v : Nat} {vs : List Nat} : backE env e2 (v :: vs) = backE env (setS e2 v (getS env v)) vs := rfl
theorem st_nok {α : Type} {a : α} {s : S} : noExc (R.ok a s) = .ok a s := rfl
theorem st_rng1 (h : 0 ≤ i) (h2 : i < 4611686018427387904) : rng1 [.int i] = some (rngL 0 i.toNat) := by unfold rng1; dsimp only; rw [if_pos ⟨by omega, by omega⟩]
theorem st_joi {es : List D} {bs : List Str} (h : strsD es = some bs) (h2 : (bs.map (·.length)).sum + bs.length * a.length ≤ 16777216) : joinD (.str a) [.lst es] = some (.fz (.str (Txt.join a bs))) := by
  unfold joinD itemsD; dsimp only; rw [h]; dsimp only [Option.bind_some]; rw [if_pos h2]
theorem st_dtup : dTup ds = if ds.length ≤ 16777216 then some (.fz (.tup ds)) else none := rfl
theorem st_dlst : dLst ds = if ds.length ≤ 16777216 then some (.lst ds) else none := rfl
end
end L2.Tr
namespace L2.Tr
open PySem PySem.Spec PyProof.Rows L2 L2.Pc
/-! ### texts -/
theorem join_two (y a b : Str) (r : List Str) : Txt.join y (a :: b :: r) = a ++ (y ++ Txt.join y (b :: r)) := by
  apply TL.ext_tl
  rw [TL.tl_append, TL.tl_append, TL.join_eq, TL.join_eq, TL.tl_join, TL.tl_join]
  rfl
theorem join_one (y a : Str) : Txt.join y [a] = a := by
  apply TL.ext_tl
  rw [TL.join_eq, TL.tl_join]
  rfl
theorem joinL_len (S : List Nat) : ∀ ps : List (List Nat), (TL.joinL S ps).length ≤ (ps.map (·.length)).sum + ps.length * S.length
  | [] => by simp [TL.joinL]
  | [p] => by simp [TL.joinL]
  | p :: q :: r => by
    have := joinL_len S (q :: r)
    show (p ++ (S ++ TL.joinL S (q :: r))).length ≤ _
    rw [List.length_append, List.length_append, List.map_cons, List.sum_cons, List.length_cons (a := p), Nat.succ_mul]
    omega
theorem join_le (y : Str) (ws : List Str) : (Txt.join y ws).length ≤ (ws.map (·.length)).sum + ws.length * y.length := by
  have h := TL.tl_join y ws
  have h2 := joinL_len (TL.tl y) (ws.map TL.tl)
  rw [← h, ← TL.join_eq, List.length_map, List.map_map] at h2
  exact h2
theorem app_empty (a : Str) : a ++ ("" : Str) = a := by
  apply TL.ext_tl
  rw [TL.tl_append]
  exact List.append_nil _
/-! ### repr of data: what it asks -/
mutual
def okD : D → Bool
  | .non => true
  | .bl _ => true
  | .int i => decide (i.natAbs.log2 < 1920)
  | .str s => s.cps.toList.all fun c => decide (c < 16 ^ 8)
  | .tup xs => okA xs
  | .tuk xs => okA xs
  | .tun xs => okA xs
  | .lst xs => okA xs
  | .lsk xs => okA xs
  | .dct kvs => okK kvs
  | _ => false
def okA : List D → Bool
  | [] => true
  | x :: xs => okD x && okA xs
def okK : List (D × D) → Bool
  | [] => true
  | (k, x) :: xs => okD k && okD x && okK xs
end
mutual
def dpD : D → Nat
  | .tup xs => dpA xs + 1
  | .tuk xs => dpA xs + 1
  | .tun xs => dpA xs + 1
  | .lst xs => dpA xs + 1
  | .lsk xs => dpA xs + 1
  | .dct kvs => dpK kvs + 1
  | _ => 0
def dpA : List D → Nat
  | [] => 0
  | x :: xs => max (dpD x) (dpA xs)
def dpK : List (D × D) → Nat
  | [] => 0
  | (k, x) :: xs => max (max (dpD k) (dpD x)) (dpK xs)
end
mutual
def wtD : D → Nat
  | .non => 4
  | .bl _ => 5
  | .int i => i.natAbs.log2 + 2
  | .str s => 10 * s.length + 2
  | .tup xs => wtA xs + 3
  | .tuk xs => wtA xs + 3
  | .tun xs => wtA xs + 3
  | .lst xs => wtA xs + 3
  | .lsk xs => wtA xs + 3
  | .dct kvs => wtK kvs + 3
  | _ => 0
def wtA : List D → Nat
  | [] => 0
  | x :: xs => wtD x + 2 + wtA xs
def wtK : List (D × D) → Nat
  | [] => 0
  | (k, x) :: xs => wtD k + wtD x + 4 + wtK xs
end
def lensS (ts : List Str) : Nat := (ts.map fun t => t.length + 2).sum
theorem textFrom_le : ∀ (ts : List Str) (k : Nat) (acc : Str), (textFrom k acc ts).length ≤ acc.length + lensS ts
  | [], k, acc => Nat.le_add_right _ _
  | t :: r, k, acc => by
    have h := textFrom_le r (k + 1) (acc ++ (if k > 0 then ", " else "" : String) ++ t)
    have e : textFrom k acc (t :: r) = textFrom (k + 1) (acc ++ (if k > 0 then ", " else "" : String) ++ t) r := rfl
    rw [e]
    refine Nat.le_trans h ?_
    rw [strLen_append, strLen_append]
    have : (Str.ofString (if k > 0 then ", " else "" : String)).length ≤ 2 := by split <;> decide
    have e2 : lensS (t :: r) = t.length + 2 + lensS r := by unfold lensS; rw [List.map_cons, List.sum_cons]
    rw [e2]
    omega
theorem lens_sum (ts : List Str) : (ts.map (·.length)).sum + ts.length * 2 = lensS ts := by
  unfold lensS
  induction ts with
  | nil => rfl
  | cons t r ih => rw [List.map_cons, List.map_cons, List.sum_cons, List.sum_cons, List.length_cons]; omega
theorem joinS_le (ts : List Str) : (Str.join ", " ts).length ≤ lensS ts := by
  have h := join_le ", " ts
  rw [TL.join_eq, show (", " : Str).length = 2 from rfl, lens_sum] at h
  exact h
theorem py_tup {ps : List PyData} {n : Nat} (h : lensS (PyData.shownAll ps) ≤ n) : (PyData.tuple ps).shown.length ≤ n + 3 := by
  rw [PyData.shown]
  unfold tupleText
  have := joinS_le (PyData.shownAll ps)
  rw [strLen_append, strLen_append]
  have e1 : ("(" : Str).length = 1 := rfl
  have : (Str.ofString (if (PyData.shownAll ps).length == 1 then ",)" else ")" : String)).length ≤ 2 := by split <;> decide
  omega
theorem py_lst {ps : List PyData} {n : Nat} (h : lensS (PyData.shownAll ps) ≤ n) : (PyData.list ps).shown.length ≤ n + 3 := by
  rw [PyData.shown]
  unfold listText
  have := textFrom_le (PyData.shownAll ps) 0 "["
  rw [strLen_append]
  have e1 : ("[" : Str).length = 1 := rfl
  have e2 : ("]" : Str).length = 1 := rfl
  have e3 : (Str.ofString "]").length = 1 := rfl
  omega
mutual
theorem py_ok : ∀ d : D, okD d = true → ∃ p, D.py true d = some p ∧ p.showable = true ∧ p.depth = dpD d ∧ p.shown.length ≤ wtD d
  | .non, _ => ⟨.none, rfl, by simp [PyData.showable], by simp [PyData.depth, dpD], by simp only [PyData.shown, wtD]; decide⟩
  | .bl b, _ => ⟨.bool b, rfl, by simp [PyData.showable], by simp [PyData.depth, dpD], by simp only [PyData.shown, wtD]; cases b <;> decide⟩
  | .int i, h => by
    rw [okD] at h
    refine ⟨.int i, rfl, by rw [PyData.showable]; exact h, by simp [PyData.depth, dpD], ?_⟩
    simp only [PyData.shown, wtD]
    have := int_text_length_le (a := i) (k := i.natAbs.log2 + 1) (by omega) (by omega)
    rw [PySem.ofString_length]
    omega
  | .str s, h => by
    rw [okD] at h
    have h : ∀ c ∈ s.cps.toList, c < 16 ^ 8 := fun c hc => of_decide_eq_true (List.all_eq_true.mp h c hc)
    refine ⟨.str s, rfl, by simp [PyData.showable], by simp [PyData.depth, dpD], ?_⟩
    simp only [PyData.shown, wtD]
    exact StrLaws.reprText_len s h
  | .tup xs, h => by rw [okD] at h; obtain ⟨ps, h1, h2, h3, h4⟩ := py_okA xs h; exact ⟨.tuple ps, by rw [D.py, h1]; rfl, by rw [PyData.showable]; exact h2, by rw [PyData.depth, dpD, h3], py_tup h4⟩
  | .tuk xs, h => by rw [okD] at h; obtain ⟨ps, h1, h2, h3, h4⟩ := py_okA xs h; exact ⟨.tuple ps, by rw [D.py, h1]; rfl, by rw [PyData.showable]; exact h2, by rw [PyData.depth, dpD, h3], py_tup h4⟩
  | .tun xs, h => by rw [okD] at h; obtain ⟨ps, h1, h2, h3, h4⟩ := py_okA xs h; exact ⟨.tuple ps, by rw [D.py, h1]; rfl, by rw [PyData.showable]; exact h2, by rw [PyData.depth, dpD, h3], py_tup h4⟩
  | .lst xs, h => by rw [okD] at h; obtain ⟨ps, h1, h2, h3, h4⟩ := py_okA xs h; exact ⟨.list ps, by rw [D.py, h1]; rfl, by rw [PyData.showable]; exact h2, by rw [PyData.depth, dpD, h3], py_lst h4⟩
  | .lsk xs, h => by rw [okD] at h; obtain ⟨ps, h1, h2, h3, h4⟩ := py_okA xs h; exact ⟨.list ps, by rw [D.py, h1]; rfl, by rw [PyData.showable]; exact h2, by rw [PyData.depth, dpD, h3], py_lst h4⟩
  | .dct kvs, h => by
    rw [okD] at h
    obtain ⟨ps, h1, h2, h3, h4⟩ := py_okK kvs h
    refine ⟨.dict ps, by rw [D.py, h1]; rfl, by rw [PyData.showable]; exact h2, by rw [PyData.depth, dpD, h3], ?_⟩
    rw [PyData.shown, wtD]
    unfold dictText
    have := joinS_le (PyData.shownKv ps)
    rw [strLen_append, strLen_append]
    have e1 : ("{" : Str).length = 1 := rfl
    have e2 : ("}" : Str).length = 1 := rfl
    have e3 : (Str.ofString "}").length = 1 := rfl
    omega
  | .dcu _, h => by simp [okD] at h
  | .ins _ _, h => by simp [okD] at h
  | .cel _, h => by simp [okD] at h
  | .fn _, h => by simp [okD] at h
  | .ty _, h => by simp [okD] at h
  | .xob _ _, h => by simp [okD] at h
  | .xok _ _, h => by simp [okD] at h
theorem py_okA : ∀ ds : List D, okA ds = true → ∃ ps, D.pyA true ds = some ps ∧ PyData.showableAll ps = true ∧ PyData.depthAll ps = dpA ds ∧ lensS (PyData.shownAll ps) ≤ wtA ds
  | [], _ => ⟨[], by rw [D.pyA], by rw [PyData.showableAll], by rw [PyData.depthAll, dpA], by rw [PyData.shownAll, wtA]; exact Nat.le_refl _⟩
  | d :: ds, h => by
    rw [okA, Bool.and_eq_true] at h
    obtain ⟨p, a1, a2, a3, a4⟩ := py_ok d h.1
    obtain ⟨ps, b1, b2, b3, b4⟩ := py_okA ds h.2
    refine ⟨p :: ps, by rw [D.pyA, a1, b1]; rfl, by rw [PyData.showableAll, a2, b2]; rfl, by rw [PyData.depthAll, dpA, a3, b3], ?_⟩
    rw [PyData.shownAll, wtA]
    have e2 : lensS (p.shown :: PyData.shownAll ps) = p.shown.length + 2 + lensS (PyData.shownAll ps) := by unfold lensS; rw [List.map_cons, List.sum_cons]
    omega
theorem py_okK : ∀ ds : List (D × D), okK ds = true → ∃ ps, D.pyK true ds = some ps ∧ PyData.showableKv ps = true ∧ PyData.depthKv ps = dpK ds ∧ lensS (PyData.shownKv ps) ≤ wtK ds
  | [], _ => ⟨[], by rw [D.pyK], by rw [PyData.showableKv], by rw [PyData.depthKv, dpK], by rw [PyData.shownKv, wtK]; exact Nat.le_refl _⟩
  | (k, d) :: ds, h => by
    rw [okK, Bool.and_eq_true, Bool.and_eq_true] at h
    obtain ⟨q, c1, c2, c3, c4⟩ := py_ok k h.1.1
    obtain ⟨p, a1, a2, a3, a4⟩ := py_ok d h.1.2
    obtain ⟨ps, b1, b2, b3, b4⟩ := py_okK ds h.2
    refine ⟨(q, p) :: ps, by rw [D.pyK, c1, a1, b1]; rfl, by rw [PyData.showableKv, c2, a2, b2]; rfl, by rw [PyData.depthKv, dpK, a3, b3, c3], ?_⟩
    rw [PyData.shownKv, wtK]
    have e2 : lensS ((q.shown ++ ": " ++ p.shown) :: PyData.shownKv ps) = (q.shown ++ ": " ++ p.shown).length + 2 + lensS (PyData.shownKv ps) := by unfold lensS; rw [List.map_cons, List.sum_cons]
    rw [e2, strLen_append, strLen_append]
    have e1 : (": " : Str).length = 2 := rfl
    have e3 : (Str.ofString ": ").length = 2 := rfl
    omega
end
theorem repr_okD {d : D} (h : okD d = true) (h1 : dpD d ≤ 60) (h2 : wtD d ≤ 16777216) : ∃ p, D.py true d = some p ∧ reprD d = some (.fz (.str p.shown)) ∧ p.shown.length ≤ wtD d := by
  obtain ⟨p, a1, a2, a3, a4⟩ := py_ok d h
  refine ⟨p, a1, ?_, a4⟩
  unfold reprD
  rw [a1]
  show (if p.showable = true ∧ p.depth ≤ 60 ∧ p.shown.length ≤ 16777216 then _ else _) = _
  rw [if_pos ⟨a2, by omega, by omega⟩]
/-! ### turns that go through -/
theorem bls_map {α : Type} (f : α → Bool) (l : List α) : blsD (l.map fun x => .bl (f x)) = some (l.map f) := by
  induction l with
  | nil => rfl
  | cons x l ih => rw [List.map_cons, blsD, ih]; rfl
theorem cutD_mem {ds : List D} {lo hi : Option Int} : ∀ d ∈ cutD ds lo hi, d ∈ ds := fun d h => List.mem_of_mem_drop (List.mem_of_mem_take h)
theorem cutD_len {ds : List D} {lo hi : Option Int} : (cutD ds lo hi).length ≤ ds.length := by
  unfold cutD
  rw [List.length_take, List.length_drop]
  omega
end L2.Tr
namespace L2.Tr
open PySem PySem.Spec PyProof.Rows L2 L2.Pc
/-! ### steps with conditions, which a discharger shows -/
section
variable {α : Type} {p : Prop} [Decidable p] {a b : α}
theorem c_if (h : p) : (if p then a else b) = a := if_pos h
theorem c_ifn (h : ¬ p) : (if p then a else b) = b := if_neg h
theorem c_dt (h : p) : decide p = true := decide_eq_true h
theorem c_df (h : ¬ p) : decide p = false := decide_eq_false h
end
section
variable {CT : CTab} {c f g : Str} {d e : D} {o x : O} {fs : List (Str × D)} {os : List (Str × O)}
theorem c_fld (h : okF CT c f = true) : fldO CT f (.fz (.ins c fs)) = (fs.lookup f).map .fz := by
  unfold fldO fldD
  dsimp only
  rw [if_pos h]
theorem c_fldi (h : okF CT c f = true) : fldO CT f (.ins c os) = os.lookup f := by
  unfold fldO
  dsimp only
  rw [if_pos h]
theorem c_lk0 {β : Type} {d : β} {r : List (Str × β)} : List.lookup f ((f, d) :: r) = some d := by simp [List.lookup]
theorem c_lk1 {β : Type} {d : β} {r : List (Str × β)} (h : (f == g) = false) : List.lookup f ((g, d) :: r) = List.lookup f r := by simp [List.lookup, h]
theorem c_pu0 : putO f o [] = [(f, o)] := rfl
theorem c_pu1 : putO f o ((f, x) :: os) = (f, o) :: os := by unfold putO; rw [if_pos rfl]
theorem c_pu2 (h : (f == g) = false) : putO f o ((g, x) :: os) = (g, x) :: putO f o os := by
  conv => lhs; unfold putO
  rw [if_neg]
  intro e
  rw [e] at h
  simp at h
def chB (o : Option Bool) (m : M O) : M O := match o with
  | some true => m
  | some false => ret (.fz (.bl false))
  | none => fun _ => .no
theorem c_chK {g g' : D → D → Option O} {mc : M O} {x y : O} : chainK g g' mc x y = chB ((g x.toD y.toD).bind asB) (bnd mc fun z => ofO (g' y.toD z.toD)) := by
  unfold chainK chB
  rfl
theorem c_chT {m : M O} : chB (some true) m = m := rfl
theorem c_chF {m : M O} : chB (some false) m = ret (.fz (.bl false)) := rfl
theorem c_div {i j : Int} (h : 0 < j ∧ j < 1073741824) : divD (.int i) (.int j) = some (.fz (.int (i / j))) := st_divi h.1 h.2
theorem c_str {i : Int} (h : -18446744073709551616 < i ∧ i < 18446744073709551616) : strD (.int i) = some (.fz (.str (toString i))) := by
  refine st_stri ?_
  by_cases h0 : i.natAbs = 0
  · rw [h0]; decide
  · have : i.natAbs.log2 < 64 := (Nat.log2_lt h0).mpr (by omega)
    omega
section
variable {tbl : List (Str × MF)} {g : D → Option O} {env : List (Option O)} {mu : List O} {ds : List D}
theorem c_rs1 {b : Bool} : runS tbl g (.bl b) ⟨env, mu⟩ = ofO (g (.bl b)) ⟨env, mu⟩ := rfl
theorem c_rs2 {i : Int} : runS tbl g (.int i) ⟨env, mu⟩ = ofO (g (.int i)) ⟨env, mu⟩ := rfl
theorem c_rs3 {a : Str} : runS tbl g (.str a) ⟨env, mu⟩ = ofO (g (.str a)) ⟨env, mu⟩ := rfl
theorem c_rs4 : runS tbl g (.tup ds) ⟨env, mu⟩ = ofO (g (.tup ds)) ⟨env, mu⟩ := rfl
theorem c_rs5 : runS tbl g (.lst ds) ⟨env, mu⟩ = ofO (g (.lst ds)) ⟨env, mu⟩ := rfl
theorem c_rs6 : runS tbl g .non ⟨env, mu⟩ = ofO (g .non) ⟨env, mu⟩ := rfl
theorem c_rs7 : runS tbl g (.tuk ds) ⟨env, mu⟩ = ofO (g (.tuk ds)) ⟨env, mu⟩ := rfl
theorem c_rs8 {kvs : List (D × D)} : runS tbl g (.dct kvs) ⟨env, mu⟩ = ofO (g (.dct kvs)) ⟨env, mu⟩ := rfl
end
theorem c_runI {tbl : List (Str × MF)} {g : D → Option O} {c : Str} {fs : List (Str × D)} {env : List (Option O)} {mu : List O} : runS tbl g (.ins c fs) ⟨env, mu⟩ = (match tbl.lookup c with
  | some mf => (match noExc (runF mf [.ins c fs] ⟨env, mu⟩) with | .ok o s' => ofO (strO o) s' | _ => R.no)
  | none => R.no) := rfl
theorem c_strO {a : Str} : strO (.fz (.str a)) = some (.fz (.str a)) := rfl
theorem c_al0 : List.all ([] : List O) isFz = true := rfl
theorem c_al1 {os : List O} : List.all (.fz d :: os) isFz = List.all os isFz := rfl
theorem c_g0 {mu : List O} : getM (o :: mu) 0 = some o := rfl
theorem c_s0 {mu : List O} {o' : O} : setM (o :: mu) 0 o' = o' :: mu := rfl
theorem c_at5 {β : Type} {x y z w v u : β} {r : List β} : atI (x :: y :: z :: w :: v :: u :: r) 5 = some u := by show atI _ ((5 : Nat) : Int) = _; rw [atN]; rfl
end
theorem c_ltlen (s : String) : (Str.ofString s).length = s.length := PySem.ofString_length s
end L2.Tr
namespace L2.Tr
open PySem PySem.Spec PyProof.Rows L2 L2.Pc
section
variable {P : Program} {w : World} {G : Gi} {base : Heap} {gb : Bool} {k j n : Nat} {f : Addr} {fd : FuncData} {ps ks : List Str} {m : MF} {x c mn : Str} {gD : List D → List D → List D}
theorem FnT.toG (F : FnT P w G base gb k f fd ps m) : FnG P w G.K G.mg base (L2.CX P w) k f fd ps (SpM G ps.length m) :=
  ⟨fun _ _ _ _ ⟨_, _, _, _, _, _, _, h, _⟩ => h, fun A o s H args us vs Q E hg hr e b v h => F.go A o s H args us vs Q E (fun _ => hg) hr e b v h⟩
/-! ### forms of calls -/
/-- values picked: 0 the written ones, 1 the defaults, 2 the keywords' -/
def pick {α : Type} : List (Nat × Nat) → List α → List α → List α → List α
  | [], _, _, _ => []
  | (0, i) :: r, us, ds, ws => us[i]?.toList ++ pick r us ds ws
  | (1, i) :: r, us, ds, ws => ds[i]?.toList ++ pick r us ds ws
  | (_, i) :: r, us, ds, ws => ws[i]?.toList ++ pick r us ds ws
theorem paired_opt {α β : Type} {R : α → β → Prop} : ∀ {us : List α} {vs : List β} (i : Nat), Paired R us vs → Paired R us[i]?.toList vs[i]?.toList
  | _, _, _, .nil => by simpa using Paired.nil
  | _, _, 0, .cons h _ => by simpa using Paired.cons h .nil
  | _, _, i + 1, .cons _ hs => by simpa using paired_opt i hs
theorem paired_app {α β : Type} {R : α → β → Prop} : ∀ {us us' : List α} {vs vs' : List β}, Paired R us vs → Paired R us' vs' → Paired R (us ++ us') (vs ++ vs')
  | _, _, _, _, .nil, k => k
  | _, _, _, _, .cons h hs, k => .cons h (paired_app hs k)
theorem pick_paired {α β : Type} {R : α → β → Prop} {us ds ws : List α} {us' ds' ws' : List β} (h1 : Paired R us us') (h2 : Paired R ds ds') (h3 : Paired R ws ws') : ∀ code : List (Nat × Nat), Paired R (pick code us ds ws) (pick code us' ds' ws')
  | [] => .nil
  | (0, i) :: r => paired_app (paired_opt i h1) (pick_paired h1 h2 h3 r)
  | (1, i) :: r => paired_app (paired_opt i h2) (pick_paired h1 h2 h3 r)
  | (_ + 2, i) :: r => paired_app (paired_opt i h3) (pick_paired h1 h2 h3 r)
theorem rp_paired {F : Hp} {al : List Addr} : ∀ {vs : List V} {ds : List D}, RpA G F al vs ds → Paired (Rp G F al) vs ds
  | _, _, .nil => .nil
  | _, _, .cons h hs => .cons h (rp_paired hs)
theorem paired_rp {F : Hp} {al : List Addr} : ∀ {vs : List V} {ds : List D}, Paired (Rp G F al) vs ds → RpA G F al vs ds
  | _, _, .nil => .nil
  | _, _, .cons h hs => .cons h (paired_rp hs)
theorem bd_pos (hb : ∀ us : List Value, us.length = ps.length → bindArgs fd ⟨us, []⟩ = pure (ps.zip us)) : BdD G.K fd ps ps.length [] (fun ds _ => ds) :=
  ⟨_, _, kb_pos hb, fun vs _ h _ => h, fun _ _ _ _ _ _ _ r _ _ _ => r⟩
theorem kn_pos (F : FnT P w G base gb k f fd ps m) (hm : G.mg x = some (.ref f)) (hk : PySem.W.keepIn G.K (.ref f) = true) (hb : ∀ us : List Value, us.length = ps.length → bindArgs fd ⟨us, []⟩ = pure (ps.zip us)) :
    KnT P w G base gb x k ps.length [] (fun ds _ => ds) m := ⟨f, fd, ps, F, hm, hk, bd_pos hb⟩
theorem binds_pos (hb : ∀ us : List Value, us.length = ps.length → bindArgs fd ⟨us, []⟩ = pure (ps.zip us)) : Binds G.K fd ps [] := Binds.all hb
def selfP {α : Type} (code : List (Nat × Nat)) (us ds ws : List α) : List α := match us with
  | a :: vs => a :: pick code vs ds ws
  | [] => []
/-- a new instance of a class whose __init__ has defaults -/
theorem mk_dfl {C : Addr} {p : Str} {params : Arguments} {body : List Stmt} {scope : Scope} {dvs : List V} {dds : List D} {kws : List (Str × V)} {qual y : Str} (code : List (Nat × Nat)) (M : Mk G.K C f) (hm : G.mg x = some (.ref C)) (F : FnI P w G base k f fd (p :: ps) x m)
    (FD : FunD G.K y qual params body scope dvs kws f fd) (hd : dvs ≠ [])
    (hdd : ∀ (G : Gi) F al, RpA G F al dvs dds) (hl : ∀ (vs zs : List V), vs.length = n → zs.length = ks.length → (pick code vs dvs zs).length = ps.length)
    (h : ∀ (T : Addr) (kV doc pm : Value) (an : Option Addr) (cdv ct : Value) (us its ws : List Value), us.length = n + 1 → its.length = dvs.length → ws.length = ks.length →
      ∃ k, bindArgs (PySem.W.fnOf y qual params body scope (.ref T) kV doc pm an cdv ct) ⟨us, ks.zip ws⟩ = seqItems? (.ref T) >>= k ∧ k (some its.toArray) = pure ((p :: ps).zip (selfP code us its ws))) :
    MkT P w G base x k n ks (fun ds es => pick code ds dds es) m := by
  obtain ⟨its, hb⟩ := FD.kbindsD (n + 1) ks (fun us ds ws => selfP code us ds ws) hd (fun a b c => by
    cases a with
    | nil => exact .nil
    | cons h hs => exact .cons h (pick_paired hs b c code)) h
  refine ⟨C, f, fd, p :: ps, M, hm, F, ⟨_, _, hb, fun a vs zs l1 l2 => ⟨pick code vs dvs zs, rfl, by rw [List.length_cons, List.length_cons, hl vs zs l1 l2], fun G' F' al' ds es r1 r2 => ?_⟩⟩⟩
  exact paired_rp (pick_paired (rp_paired r1) (rp_paired (hdd G' F' al')) (rp_paired r2) code)
/-- the script, as the tree function reads it -/
theorem law_sp {H : Hp} {a : Addr} {ns : List Int} (hO : Only H) (hS : SqL G.K H a (ns.map V.int)) (hm : ∃ mu, m [.lsk (ns.map .int)] [] = .ok (.fz (.bl true)) ⟨[], mu⟩) :
    SpM G 1 m [.ref a] H (fun v _ => v = .bl true) fun _ _ _ => False := by
  obtain ⟨mu, e⟩ := hm
  have hints : ∀ ns : List Int, RpA G H [] (ns.map V.int) (ns.map D.int) := fun ns => by
    induction ns with
    | nil => exact .nil
    | cons i ns ih => exact .cons (.int i) ih
  refine ⟨⟨H, H, [], [], []⟩, [.lsk (ns.map .int)], [], rfl, rfl, ⟨fun _ _ h => h, fun b h => by simp at h, .nil, .nil, fun b h => (nomatch h), .nil, .nil⟩, .cons (.lsk hS (hints ns)) .nil, rfl, ?_⟩
  rw [e]
  intro v c' fp r g t f nw
  exact own_bl t
end
/-! ### tables -/
theorem lk_mem {α : Type} {c : Str} {v : α} : ∀ {l : List (Str × α)}, l.lookup c = some v → (c, v) ∈ l
  | [], h => by cases h
  | (n, x) :: l, h => by
    unfold List.lookup at h
    cases q : c == n with
    | true => rw [q] at h; cases h; rw [beq_iff_eq.mp q]; exact List.mem_cons_self
    | false => rw [q] at h; exact List.mem_cons_of_mem _ (lk_mem h)
section
variable {P : Program} {w : World} {G : Gi} {base : Heap} {gb : Bool} {k j n : Nat} {f C : Addr} {fd : FuncData} {ps ks : List Str} {m : MF} {x c mn : Str}
def SpRow (P : Program) (w : World) (G : Gi) (base : Heap) (gb : Bool) (k : Nat) (mn : Str) (p : Str × MF) : Prop := ∃ (C f : Addr) (fd : FuncData) (ps : List Str), G.mg p.1 = some (.ref C) ∧ PySem.W.findIn G.K (.ref C) mn = some (some (.ref f)) ∧ PySem.W.isFn G.K (.ref f) = true ∧
    FnT P w G base gb k f fd ps p.2 ∧ ps.length = 1 ∧ Binds G.K fd ps []
theorem sp_of {tbl : List (Str × MF)} (h : ∀ p ∈ tbl, SpRow P w G base gb k mn p) : SpF P w G base gb k mn tbl := ⟨fun c mf e => h (c, mf) (lk_mem e)⟩
theorem kc_of {CT : CTab} (h : ∀ p ∈ CT, ∃ C, G.mg p.1 = some (.ref C) ∧ Cls G.K C ∧ ∀ f ∈ p.2, NoAttr G.K C f) : Kc G CT := ⟨fun c f e => by
  unfold okF at e
  split at e
  · rename_i fl q
    obtain ⟨C, h1, h2, h3⟩ := h (c, fl) (lk_mem q)
    exact ⟨C, h1, h2, h3 f (by simpa using e)⟩
  · cases e⟩
def IsRow (G : Gi) (c : Str) : Prop := ∃ C, G.mg c = some (.ref C) ∧ Cls G.K C ∧ PySem.W.findIn G.K (.ref C) "__class__" = some (some (.builtin "object.__class__")) ∧
    PySem.W.specialIn G.K (.builtin "object.__class__") "__get__" = some (some (.builtin "getset_descriptor.__get__")) ∧ PySem.W.takesIn G.K (.builtin "object.__class__") = some true ∧ PySem.W.mroIn G.K C (.type "object") = some true ∧
    (∀ k ∈ kindsI, PySem.W.kitOne G.K (.type k) (.ref C) = some false) ∧ ∀ n ∈ kindsJ, PySem.W.kitOne G.K (.ref C) (.type n) = some false
theorem is_of {cls : List Str} (h : ∀ c ∈ cls, IsRow G c) (hc : ∀ c ∈ cls, ∀ c' ∈ cls, ∀ C C', G.mg c = some (.ref C) → G.mg c' = some (.ref C') → PySem.W.kitOne G.K (.ref C) (.ref C') = some (decide (c = c'))) : IsT G cls :=
  ⟨fun c e => h c (by simpa using e), fun c c' C C' h1 h2 => hc c (by simpa using h1) c' (by simpa using h2) C C'⟩
theorem gc_int {t : Tok} {i : Int} (h : G.mg x = some (.int i t)) : Gc G x (.int i) := ⟨.int i, ⟨_, h, ⟨_, rfl⟩⟩, fun _ _ => .int i⟩
theorem gc_str {t : Tok} {i : Str} (h : G.mg x = some (.str i t)) : Gc G x (.str i) := ⟨.str i, ⟨_, h, ⟨_, rfl⟩⟩, fun _ _ => .str i⟩
theorem gc_cls (h : G.mg x = some (.ref C)) : Gc G x (.fn x) := ⟨.ref C, ⟨_, h, rfl⟩, fun _ _ => .fn h⟩
theorem gc_tup {A : Addr} {xs : List V} {ds : List D} (h : G.mg x = some (.ref A)) (kt : Kt G.K A xs) (hr : ∀ F al, RpA G F al xs ds) : Gc G x (.tuk ds) := ⟨.ref A, ⟨_, h, rfl⟩, fun F al => .tuk (kt.sq F) (hr F al)⟩
theorem kit_same {K : PySem.W.Frag} {v : Value} : PySem.W.kitOne K v v = some true := by unfold PySem.W.kitOne; simp
theorem cls_some {K : PySem.W.Frag} {C : Addr} (h : PySem.W.mroIn K C (.type "object") = some true) : (PySem.W.clsIn K C).isSome = true := by
  unfold PySem.W.mroIn at h
  cases e : PySem.W.clsIn K C with
  | none => rw [e] at h; cases h
  | some _ => rfl
theorem kit_up {K : PySem.W.Frag} {C : Addr} {t : Value} {b : Bool} (h : PySem.W.mroIn K C (.type "object") = some true) (ty : PySem.W.typeIn K (.ref C) = some (.type "type")) (su : PySem.W.subIn K t (.ref C) = some b) (ne : (t == Value.ref C) = false) : PySem.W.kitOne K t (.ref C) = some b := by
  unfold PySem.W.kitOne PySem.W.kitCls
  rw [if_neg (by rw [ne]; decide)]
  dsimp only
  rw [if_pos (by rw [cls_some h, ty]; simp)]
  exact su
theorem kit_dn {K : PySem.W.Frag} {C : Addr} {T : String} {b : Bool} (hm : PySem.W.kitMeta T = true) (su : PySem.W.subIn K (.ref C) (.type T) = some b) : PySem.W.kitOne K (.ref C) (.type T) = some b := by
  unfold PySem.W.kitOne PySem.W.kitCls
  rw [if_neg (by simp)]
  dsimp only
  rw [if_pos hm]
  exact su
end
/-- the goal behind k_head, k_fill -/
theorem walkT {l : PySem.W.OpenLaw} {n k : Nat} {q : Program} {loose : List Str} {XP : (Str → Option Value) → Heap → Prop}
    {YP : World → Heap → Prop} {d : DefRec} {K : Params → PySem.W.Frag} {m : MF} {gb : Bool} {x : Str}
    (hn : l.most = some n) (hn2 : n ≤ sizeLine) (hi : importsNone q = true) (hdf : d.params.defaults = []) (hr : Room k callerA)
    (hY : ∀ (w : World) (h : Heap), YP w h → (K w.params).In h)
    (F : ∀ (w : World) (mg : Str → Option Value) (fa : Addr) (h : Heap), (K w.params).In h → h.Ns mainGlobals mg →
      mg d.name = some (.ref fa) →
      ∃ fd : FuncData, (∀ (s : Shared) (u : Value), BindsTo s fd ⟨[u], []⟩ [(x, u)]) ∧
        ∀ base : Heap, (K w.params).In base → base.Ns mainGlobals mg → Sm base →
          FnT l.prog w ⟨K w.params, mg, none⟩ base gb k fa fd [x] m)
    (hm : ∀ ns : List Int, ns.length ≤ n → ∃ mu, m [.lsk (ns.map .int)] [] = .ok (.fz (.bl true)) ⟨[], mu⟩) :
    PySem.W.WalkO q loose XP YP l.row.toRowW d [] (fun f vs => PySem.call f vs) := by
  refine Att.attach_call hn hdf ?_
  intro w s0 s1 mg mb fa o pm cd doc a vs ns G Y ho hd hcd hmg hobj hints hlen hge
  have KX := hY w _ Y
  obtain ⟨fd, hbi, hF⟩ := F w mg fa _ KX G.T.g hmg
  exact law_callG (CX := L2.CX l.prog w) (sp := SpM ⟨K w.params, mg, none⟩ 1 m) KX G.T.g G.T.b G.T.builtins G.T.nolimit hge hobj hints (Nat.le_trans hlen hn2) hr ((G.T.seer hi).mods.imp fun _ h => h.1) (fun base a b c => (hF base a b c).toG) hbi
    (fun H hO hS => law_sp hO hS (hm ns hlen)) (fun H e s' c => by
      obtain ⟨_, _, _, _, _, _, _, _, _, _, _, _, h⟩ := c
      exact h.elim)
end L2.Tr
namespace L2.Tr
open PySem PySem.Spec PyProof.Rows L2 L2.Pc
/-! ### an exception's __init__ -/
theorem Df.okF {P : Program} {w : World} {K : PySem.W.Frag} {mg : Str → Option Value} {base : Heap} {f : Addr} {fd : FuncData} {N ps : List Str} {sp : Sp} {k : Nat}
    {x qual : Str} {st : Stmt} (F : Df K x qual st f fd) (S : FnScope N ps (defScope st))
    (len : ∀ vs H Q E, sp vs H Q E → vs.length = ps.length)
    (hb : ∀ (cdv : Value) (A : Around) (outer : List Env) (s : Shared) (H : Hp) (vs : List V) (Q : VK) (E : XK), sp vs H Q E →
      ∃ t, PSs (cxOf CX0 P w K mg base N qual (defScope st) f cdv A outer s H E).nox (defBody st) t ∧
        t { nx := fun _ H' => Q .non H', rt := Q } (start N vs) H) :
    FnOk P w K mg base CX0 (k + 1) f fd ps sp := by
  obtain ⟨oc, od, dV, kV, doc, pm, an, cdv, ct, osl, rfl, lk, hc⟩ := F.ex
  refine ⟨len, fun A outer s H args us vs Q E hr e0 hbi r hsp => ?_⟩
  have hlen := len _ _ _ _ hsp
  have kin : K.In s.heap := e0.mod.kin.keeps (fun b o e => (e0.bs b o e).1)
  have hlm : s.heap.NoLimit := e0.mod.nolimit.keeps (fun b o e => (e0.bs b o e).1)
  have kinds : ∀ y ∈ ps.zip us, (defScope st).names.lookup y.1 = some .local ∨
      ((defScope st).names.lookup y.1 = some .cell ∧
        ((cellsFrom (s.heap.objs.size + 1) (defScope st).names []).lookup y.1).isSome = true) := by
    rintro ⟨n, v⟩ hy
    rcases S.par n (List.of_mem_zip hy).1 with h1 | h1
    · left; exact h1
    · right; exact ⟨h1, PySem.W.cellsFrom_some _ _ _ (Or.inl h1)⟩
  apply codeAny_call_function hr.depth (kin _ _ lk) rfl S.co S.gen rfl (PySem.W.codeRec_of kin hc) (hbi _ _ _ _ ?_)
  apply wpAny_newFunctionEnv_cells S.kind kinds
  intro env he s1 hx
  subst he
  refine ⟨hlm.keeps hx.toInCall.keep, codeAny_func ?_⟩
  obtain ⟨t, ht, hq⟩ := hb cdv A outer s H vs Q E hsp
  have ht := ht.nox
  have I0 : Inv (cxOf CX0 P w K mg base N qual (defScope st) f cdv A outer s H E) [] (start N vs) H s1 :=
    inv_start S hr.hd e0 hlen r hx
  refine wpAny_mono (ht.run [] s1 (start N vs) H _ I0 hq) ?_ (fun e s' hs => hs)
  intro fl s' hs
  cases fl with
  | ret u =>
    obtain ⟨v, σ', H', J, rv, q⟩ := hs
    exact ⟨v, H', J.os, J.bare, J.base, J.hok, rv, q⟩
  | next =>
    obtain ⟨σ', H', J, q⟩ := hs
    exact ⟨V.non, H', J.os, J.bare, J.base, J.hok, rfl, q⟩
  | brk => obtain ⟨_, _, _, q⟩ := hs; exact q.elim
  | cont => obtain ⟨_, _, _, q⟩ := hs; exact q.elim
/-- what it promises: the fields, the last one first -/
def SpXi (C : Addr) (n : Nat) (fl : List V → List (Str × V)) : Sp := fun vs H Q E => ∃ a ys, vs = .ref a :: ys ∧ ys.length = n ∧ H a = some (exo a C none) ∧
  ∀ dx, H dx = none → dx ≠ a → Q .non (upd (upd H dx (exd dx (fl ys))) a (exo a C (some dx)))
structure XnT (P : Program) (w : World) (G : Gi) (base : Heap) (x : Str) (k : Nat) (fns : List Str) : Prop where
  ex : ∃ (C fI : Addr) (fd : FuncData) (ps : List Str), XcK G.K G.mg x C fI fns ∧ FnOk P w G.K G.mg base CX0 k fI fd ps (SpXi C fns.length (fun ys => (fns.zip ys).reverse)) ∧ Binds G.K fd ps []
/-! ### raise -/
theorem zip_map1 {α β : Type} : ∀ (as : List Str) (xs : List α) (ys : List β), xs.length = as.length → ys.length = as.length → (as.zip xs).map (·.1) = (as.zip ys).map (·.1)
  | [], xs, ys, _, _ => by simp
  | a :: as, x :: xs, y :: ys, h1, h2 => by
    rw [List.zip_cons_cons, List.zip_cons_cons, List.map_cons, List.map_cons, zip_map1 as xs ys (by simpa using h1) (by simpa using h2)]
  | a :: as, [], _, h1, _ => by simp at h1
  | a :: as, _ :: _, [], _, h2 => by simp at h2
theorem zip_map2 {α : Type} : ∀ (as : List Str) (xs : List α), xs.length = as.length → (as.zip xs).map (·.2) = xs
  | [], [], _ => rfl
  | [], _ :: _, h => by simp at h
  | a :: as, [], h => by simp at h
  | a :: as, x :: xs, h => by rw [List.zip_cons_cons, List.map_cons, zip_map2 as xs (by simpa using h)]
def sRaise (x : Str) (fns : List Str) (ma : M (List D)) : M Fl := bnd ma fun ds s => if ds.length = fns.length ∧ ds.length ≤ 1000 then .exc ⟨x, (fns.zip ds).reverse⟩ s else .no
section
variable {X : Cx} {G : Gi} {W : WX} {k : Nat} {x : Str} {fns : List Str} {p pos pos' : Pos} {e : Expr} {es : List Expr} {ma : M (List D)}
theorem s_raise (hK : X.K = G.K) (hM : X.mg = G.mg) (T : XnT X.prog X.w G X.base x k fns) (hr : Room (k + 1) X.A) (hg : Gl X x) (hc : X.calm = true) (tk : Takes X W) (ha : PA X (e :: es) (tAs G W ma))
    (hdb : (x == ("__debug__" : Str)) = false := by decide) (he : starEach (e :: es) X.env = (false, eval e X.env) :: starEach es X.env := by rfl) (hpl : (backTo pos (starEach es X.env)).any (·.1) = false := by rfl) :
    PS X (.Raise (some (.Call (.Name x p) (e :: es) [] pos)) none pos') (tS G W (sRaise x fns ma)) := by
  obtain ⟨C, fI, fd, ps, T0, F1, hb⟩ := T.ex
  have T1 : XcK X.K X.mg x C fI fns := by rw [hK, hM]; exact T0
  have F1' : FnOk X.prog X.w X.K X.mg X.base CX0 k fI fd ps (SpXi C fns.length (fun ys => (fns.zip ys).reverse)) := by rw [hK, hM]; exact F1
  have hb' : Binds X.K fd ps [] := by rw [hK]; exact hb
  refine (ps_raise hc tk (pmk_oex (dvs := []) T1.oe T1.iC T1.tI F1' hr hb' .nil pass0 hg T1.g ha hdb he hpl)).weak fun D' σ H q => ?_
  show tAs G W ma σ H fun vs H1 => vs.length ≤ 1000 ∧ ∀ a, H1 a = none → SpXi C fns.length (fun ys => (fns.zip ys).reverse) (.ref a :: (vs ++ [])) (upd H1 a (exo a C none))
    (fun v H2 => v = .non ∧ ∃ (d : Addr) (fs : List (Str × V)), H2 a = some (exo a C (some d)) ∧ H2 d = some (exd d fs) ∧ H1 d = none ∧ W (.ref C) (some d) σ (upd (del H2 a) d (.xd fs))) (fun _ _ _ => False)
  refine tS.ex q _ (fun ds vs c c1 st1 r1 g1 p1 w => ?_)
  split at w
  · rename_i hl
    have hlv : vs.length = ds.length := p1.len
    refine ⟨by omega, fun a na => ⟨a, vs ++ [], rfl, by rw [List.append_nil]; omega, upd_same, fun dx nd ne => ⟨rfl, dx, _, upd_same, by rw [upd_ne ne, upd_same], by rw [upd_ne ne] at nd; exact nd, ?_⟩⟩⟩
    rw [upd_ne ne] at nd
    rw [List.append_nil]
    have eh : upd (del (upd (upd (upd c1.H a (exo a C none)) dx (exd dx (fns.zip vs).reverse)) a (exo a C (some dx))) a) dx (.xd (fns.zip vs).reverse) = upd c1.H dx (.xd (fns.zip vs).reverse) := by
      funext b
      by_cases h1 : b = dx
      · subst h1; rw [upd_same, upd_same]
      · by_cases h2 : b = a
        · subst h2
          rw [upd_ne h1, upd_ne h1, na]
          unfold del
          simp
        · rw [upd_ne h1, upd_ne h1, del_ne h2, upd_ne h2, upd_ne h1, upd_ne h2]
    rw [eh]
    have r2 := r1.new (o := .xd (fns.zip vs).reverse) nd
    have f2 := Fresh.new (o := .xd (fns.zip vs).reverse) r1 nd
    have g2 := (GoE.new (o := .xd (fns.zip vs).reverse) r1 nd).freeze (New.new nd) r2
    refine w σ (.ref C) (some dx) ((c1.new dx (.xd (fns.zip vs).reverse)).frz [dx]) (r2.freeze f2) (g1.toGo.trans g2.toGo) ⟨C, rfl, T0.g, .inr ⟨dx, (fns.zip vs).reverse, rfl, frzF_same, ?_, ?_⟩⟩
    · rw [List.map_reverse, List.map_reverse, zip_map1 fns ds vs (by omega) (by omega)]
    · rw [List.map_reverse, List.map_reverse, zip_map2 fns vs (by omega), zip_map2 fns ds (by omega)]
      exact (p1.mo g2.mo).rev
  · exact w.elim
end
/-! ### trees without a caught exception -/
mutual
def noX : D → Bool
  | .xob _ _ => false
  | .xok _ fs => noXF fs
  | .tup xs => noXA xs
  | .lst xs => noXA xs
  | .lsk xs => noXA xs
  | .tuk xs => noXA xs
  | .tun xs => noXA xs
  | .dct kvs => noXK kvs
  | .dcu kvs => noXK kvs
  | .ins _ fs => noXF fs
  | .cel _ => true
  | .non => true
  | .bl _ => true
  | .int _ => true
  | .str _ => true
  | .fn _ => true
  | .ty _ => true
def noXA : List D → Bool
  | [] => true
  | d :: ds => noX d && noXA ds
def noXK : List (D × D) → Bool
  | [] => true
  | (_, d) :: ds => noX d && noXK ds
def noXF : List (Str × D) → Bool
  | [] => true
  | (_, d) :: ds => noX d && noXF ds
end
theorem noXF_map : ∀ fs : List (Str × D), noXF fs = noXA (fs.map (·.2))
  | [] => by rw [noXF]; rfl
  | (_, d) :: r => by rw [noXF, List.map_cons, noXA, noXF_map r]
theorem noXK_map : ∀ fs : List (D × D), noXK fs = noXA (fs.map (·.2))
  | [] => by rw [noXK]; rfl
  | (_, d) :: r => by rw [noXK, List.map_cons, noXA, noXK_map r]
mutual
def noXO : O → Bool
  | .fz d => noX d
  | .lst xs => noXA xs
  | .dct kvs => noXK kvs
  | .dcu kvs => noXK kvs
  | .ins _ fs => noXOF fs
  | .dco kvs => noXOK kvs
  | .dcv kvs => noXOK kvs
def noXOF : List (Str × O) → Bool
  | [] => true
  | (_, d) :: ds => noXO d && noXOF ds
def noXOK : List (D × O) → Bool
  | [] => true
  | (_, d) :: ds => noXO d && noXOK ds
end
def noXOA : List O → Bool
  | [] => true
  | d :: ds => noXO d && noXOA ds
theorem noXOF_map : ∀ fs : List (Str × O), noXOF fs = noXOA (fs.map (·.2))
  | [] => by rw [noXOF]; rfl
  | (_, d) :: r => by rw [noXOF, List.map_cons, noXOA, noXOF_map r]
theorem noXOK_map : ∀ fs : List (D × O), noXOK fs = noXOA (fs.map (·.2))
  | [] => by rw [noXOK]; rfl
  | (_, d) :: r => by rw [noXOK, List.map_cons, noXOA, noXOK_map r]
section
variable {G G' : Gi} {F H : Hp} {al : List Addr}
mutual
theorem Rp.nx (h0 : G.xo = none) : ∀ {v : V} {d : D}, Rp G F al v d → noX d = true
  | _, _, .non => by rw [noX]
  | _, _, .bl b => by rw [noX]
  | _, _, .int i => by rw [noX]
  | _, _, .str x => by rw [noX]
  | _, _, .tup h hs => by rw [noX]; exact RpA.nx h0 hs
  | _, _, .tuk h hs => by rw [noX]; exact RpA.nx h0 hs
  | _, _, .tun h k hs => by rw [noX]; exact RpA.nx h0 hs
  | _, _, .lst h hs => by rw [noX]; exact RpA.nx h0 hs
  | _, _, .lsk h hs => by rw [noX]; exact RpA.nx h0 hs
  | _, _, .dcK h k hs => by rw [noX, noXK_map]; exact RpA.nx h0 hs
  | _, _, .dcT h k hs => by rw [noX, noXK_map]; exact RpA.nx h0 hs
  | _, _, .ins h k m hs => by rw [noX, noXF_map]; exact RpA.nx h0 hs
  | _, _, .cel h => by rw [noX]
  | _, _, .fn h => by rw [noX]
  | _, _, .ty n => by rw [noX]
  | _, _, .xob h _ _ _ _ => by rw [h0] at h; cases h
  | _, _, .xob0 h _ => by rw [h0] at h; cases h
  | _, _, .xok h q k n hs => by rw [noX, noXF_map]; exact RpA.nx h0 hs
  | _, _, .xok0 h q => by rw [noX, noXF]
theorem RpA.nx (h0 : G.xo = none) : ∀ {vs : List V} {ds : List D}, RpA G F al vs ds → noXA ds = true
  | _, _, .nil => by rw [noXA]
  | _, _, .cons h hs => by rw [noXA, Rp.nx h0 h, RpA.nx h0 hs]; rfl
end
mutual
theorem OwnT.nx (h0 : G.xo = none) : ∀ {o : O} {v : V} {fp : List Addr}, OwnT G F al H o v fp → noXO o = true
  | _, _, _, .fz h => by rw [noXO]; exact h.nx h0
  | _, _, _, .lst h hs => by rw [noXO]; exact hs.nx h0
  | _, _, _, .dcK h q hs => by rw [noXO, noXK_map]; exact hs.nx h0
  | _, _, _, .dcT h q hs => by rw [noXO, noXK_map]; exact hs.nx h0
  | _, _, _, .ins h q m hs => by rw [noXO, noXOF_map]; exact OwnA.nx h0 hs
  | _, _, _, .dcoK h q hs => by rw [noXO, noXOK_map]; exact OwnA.nx h0 hs
  | _, _, _, .dcoT h q hs => by rw [noXO, noXOK_map]; exact OwnA.nx h0 hs
theorem OwnA.nx (h0 : G.xo = none) : ∀ {os : List O} {vs : List V} {fp : List Addr}, OwnA G F al H os vs fp → noXOA os = true
  | _, _, _, .nil => rfl
  | _, _, _, .cons h hs => by rw [noXOA, OwnT.nx h0 h, OwnA.nx h0 hs]; rfl
end
def noXE : List (Option O) → Bool
  | [] => true
  | none :: env => noXE env
  | some o :: env => noXO o && noXE env
theorem Slots.nx (h0 : G.xo = none) : ∀ {env : List (Option O)} {σ : L2.St} {fp : List Addr}, Slots G F al H env σ fp → noXE env = true
  | _, _, _, .nil => rfl
  | _, _, _, .un h => by rw [noXE]; exact Slots.nx h0 h
  | _, _, _, .so h hs => by rw [noXE, h.nx h0, Slots.nx h0 hs]; rfl
end
def chkV (env : List (Option O)) (vs : List Nat) : Bool := vs.all fun v => match getS env v with
  | some o => noXO o
  | none => true
/-! ### try .. except C as e -/
structure HdT (G : Gi) (c : Value) (tbl : List (Str × Bool)) : Prop where
  ex : ∀ x b, tbl.lookup x = some b → ∃ C, G.mg x = some (.ref C) ∧ PySem.W.exmOne G.K (.ref C) c = some b
def noXFl : Fl → Bool
  | .rt o => noXO o
  | _ => true
open Classical in
/-- the suite of a clause with a name: slot i bears the exception, the slots vs may be stored to -/
noncomputable def sSuite (i : Nat) (vs : List Nat) (ms : M Fl) (x : Exc) : M Fl := fun s => match ms ⟨setS s.env i (some (.fz (.xob x.cls x.fs))), s.mu⟩ with
  | .ok f s2 => if s2.mu = s.mu ∧ wipeE (setS s2.env i none) vs = wipeE (setS s.env i none) vs ∧ chkV (setS s2.env i none) vs = true ∧ noXFl f = true then .ok f ⟨setS s2.env i none, s2.mu⟩ else .no
  | _ => .no
noncomputable def sTryAs (i : Nat) (vs : List Nat) (tbl : List (Str × Bool)) (mb ms : M Fl) : M Fl := fun s => match mb s with
  | .exc x s' => (match tbl.lookup x.cls with
    | some true => sSuite i vs ms x s'
    | some false => .exc x s'
    | none => .no)
  | r => r
/-- .. without a name -/
def sTry1 (tbl : List (Str × Bool)) (mb ms : M Fl) : M Fl := fun s => match mb s with
  | .exc x s' => (match tbl.lookup x.cls with
    | some true => (match ms s' with
      | .exc _ _ => .no
      | r => r)
    | some false => .exc x s'
    | none => .no)
  | r => r
theorem _root_.L2.PSs.ex {α : Type} {X : Cx} {e : List Stmt} {t : α → TS} (h : ∀ x, PSs X e (t x)) : PSs X e (fun D σ H => ∃ x, t x D σ H) :=
  ⟨fun pins s σ H Q I ⟨x, q⟩ => (h x).run pins s σ H Q I q⟩
theorem rel_unset {G : Gi} {st : S} {σ : L2.St} {c0 c : Cf} {i : Nat} (r : Rel G st σ c) (g : Go c0 c) : ∃ c', c'.H = c.H ∧ Rel G ⟨setS st.env i none, st.mu⟩ (σ.set i none) c' ∧ Go c0 c' := by
  obtain ⟨f1, f2, f3, e, _, q⟩ := slots_put i r.slots
  have sub : ∀ a, a ∈ f1 ++ f3 → a ∈ c.fs := fun a h => by rw [e]; exact mem_ends h
  refine ⟨{ c with fs := f1 ++ f3 }, rfl, ⟨r.sub, fun a h => ?_, ?_, r.ndc, fun a h => r.dis a (sub a h), (q c.F c.H c.al (Mo.refl _ _) fun _ _ => rfl).2 none, r.cells⟩,
    ⟨g.mo, g.fr, fun a h => ?_, g.nF⟩⟩
  · rcases h with h | h
    · exact r.own a (.inl (sub a h))
    · exact r.own a (.inr h)
  · exact (nd_ends (by rw [← e]; exact r.nds)).1
  · rcases h with h | h
    · exact g.fp a (.inl (sub a h))
    · exact g.fp a (.inr h)
/-! ### e.f in a suite -/
structure Kx (G : Gi) (XT : CTab) : Prop where
  ex : ∀ c f, okF XT c f = true → ∃ C, G.mg c = some (.ref C) ∧ XfC G.K C ∧ PySem.W.findIn G.K (.ref C) f = some none
def xfO (XT : CTab) (f : Str) (o : O) : Option O := match o with
  | .fz (.xob c fs) => if okF XT c f = true then (fs.lookup f).map .fz else none
  | _ => none
def xXf (XT : CTab) (f : Str) (m : M O) : M O := bnd m fun o => ofO (xfO XT f o)
/-! ### tables -/
structure HdN (G : Gi) (x : Str) (tbl : List (Str × Bool)) : Prop where
  ex : ∃ c, G.mg x = some c ∧ HdT G c tbl
theorem lookup_mem {α : Type} {k : Str} {v : α} : ∀ {l : List (Str × α)}, l.lookup k = some v → (k, v) ∈ l
  | [], h => by cases h
  | (a, b) :: l, h => by
    rw [List.lookup] at h
    split at h
    · rename_i e
      cases h
      have e := eq_of_beq e
      subst e
      exact List.mem_cons_self
    · exact List.mem_cons_of_mem _ (lookup_mem h)
theorem hd_of {G : Gi} {x : Str} {c : Value} {tbl : List (Str × Bool)} (hc : G.mg x = some c) (h : ∀ p ∈ tbl, ∃ C, G.mg p.1 = some (.ref C) ∧ PySem.W.exmOne G.K (.ref C) c = some p.2) : HdN G x tbl :=
  ⟨c, hc, ⟨fun y b e => h (y, b) (lookup_mem e)⟩⟩
theorem kx_of {G : Gi} {XT : CTab} (h : ∀ p ∈ XT, ∃ C, G.mg p.1 = some (.ref C) ∧ XfC G.K C ∧ ∀ f ∈ p.2, PySem.W.findIn G.K (.ref C) f = some none) : Kx G XT := ⟨fun c f e => by
  unfold okF at e
  cases hl : XT.lookup c with
  | none => rw [hl] at e; cases e
  | some fl =>
    rw [hl] at e
    obtain ⟨C, h1, h2, h3⟩ := h (c, fl) (lookup_mem hl)
    exact ⟨C, h1, h2, h3 f (List.contains_iff_mem.mp e)⟩⟩
end L2.Tr
namespace L2.Tr
open PySem PySem.Spec PyProof.Rows L2 L2.Pc
/-- how many keywords (a name of its own, so that simp leaves it) -/
def nK (l : List Str) : Nat := l.length
/-! ### zip, enumerate, reversed -/
def lstD : D → Option (List D)
  | .lst ds => some ds
  | .lsk ds => some ds
  | _ => none
def tupD : D → Option (List D)
  | .tup ds => some ds
  | .tuk ds => some ds
  | .tun ds => some ds
  | _ => none
def pairD (xs ys : List D) : List D := (xs.zip ys).map fun p => .tup [p.1, p.2]
def zipD : List D → Option (List D)
  | [a, b] => match lstD a, lstD b with
    | some xs, some ys => some (pairD xs ys)
    | _, _ => (match tupD a, tupD b with
      | some xs, some ys => some (pairD xs ys)
      | _, _ => none)
  | _ => none
def numD (i : Nat) : List D → List D
  | [] => []
  | d :: ds => .tup [.int (i : Nat), d] :: numD (i + 1) ds
def enumD : List D → Option (List D)
  | [a] => (lstD a).map (numD 0)
  | _ => none
def revI (d : D) : Option (List D) := match lstD d with
  | some xs => some xs.reverse
  | none => (tupD d).map List.reverse
section
variable {G : Gi} {c : Cf} {st : S} {σ : L2.St} {v : V} {d : D} {ds : List D}
theorem lst_view {F : Hp} {al : List Addr} (t : Rp G F al v d) (e : lstD d = some ds) : ∃ a xs, v = .ref a ∧ SqL G.K F a xs ∧ RpA G F al xs ds := by
  cases t with
  | lst h hs => cases e; exact ⟨_, _, rfl, .inl (.inl h), hs⟩
  | lsk h hs => cases e; exact ⟨_, _, rfl, h, hs⟩
  | _ => cases e
theorem tup_view {F : Hp} {al : List Addr} (t : Rp G F al v d) (e : tupD d = some ds) : ∃ a xs, v = .ref a ∧ SqT G.K F a xs ∧ RpA G F al xs ds := by
  cases t with
  | tup h hs => cases e; exact ⟨_, _, rfl, .inl (.inl h), hs⟩
  | tuk h hs => cases e; exact ⟨_, _, rfl, h, hs⟩
  | tun h k hs => cases e; exact ⟨_, _, rfl, sqT_fz h, hs⟩
  | _ => cases e
theorem pair_get {xs ys : List D} {i : Nat} {d : D} (h : (pairD xs ys)[i]? = some d) : ∃ x y, xs[i]? = some x ∧ ys[i]? = some y ∧ d = .tup [x, y] := by
  unfold pairD at h
  rw [List.getElem?_map] at h
  obtain ⟨p, hp, rfl⟩ := map_some h
  rw [List.getElem?_zip_eq_some] at hp
  exact ⟨p.1, p.2, hp.1, hp.2, rfl⟩
/-- a fresh pair -/
theorem new_pair {T : Addr} {x y : V} {dx dy : D} (r : Rel G st σ c) (hT : c.H T = none) (rx : Rp G c.F c.al x dx) (ry : Rp G c.F c.al y dy) :
    ∃ c', c'.H = upd c.H T (.tup [x, y]) ∧ Rel G st σ c' ∧ GoE c c' ∧ Rp G c'.F c'.al (.ref T) (.tup [dx, dy]) := by
  have m := mo_new (o := .tup [x, y]) r hT
  have r2 := r.new (o := .tup [x, y]) hT
  have f2 := Fresh.new (o := .tup [x, y]) r hT
  have g2 := (GoE.new (o := .tup [x, y]) r hT).freeze (New.new hT) r2
  exact ⟨(c.new T (.tup [x, y])).frz [T], rfl, r2.freeze f2, g2, .tup frzF_same (.cons (rx.mo m) (.cons (ry.mo m) .nil))⟩
theorem srcs_zip {a b : Addr} {xs ys : List V} {ds es : List D} (h1 : SqL G.K c.F a xs) (h2 : SqL G.K c.F b ys) (r1 : RpA G c.F c.al xs ds) (r2 : RpA G c.F c.al ys es) : Srcs G (Itz G.K a b) (pairD ds es) c := fun st2 σ2 c2 rl g => by
  have k1 := rl.rdL (sqL_mr g.mo.mR h1)
  have k2 := rl.rdL (sqL_mr g.mo.mR h2)
  refine ⟨fun i d hd => ?_, xs, ys, k1, k2, ?_⟩
  · obtain ⟨dx, dy, e1, e2, rfl⟩ := pair_get hd
    obtain ⟨x, hx, rx⟩ := (r1.mo g.mo).get e1
    obtain ⟨y, hy, ry⟩ := (r2.mo g.mo).get e2
    refine ⟨⟨xs, ys, x, y, k1, k2, hx, hy⟩, fun w H' hw => ?_⟩
    obtain ⟨T, x', y', rfl, hT, rfl, q1, q2⟩ := hw
    have := q1 xs k1; rw [hx] at this; cases this
    have := q2 ys k2; rw [hy] at this; cases this
    exact new_pair rl hT rx ry
  · unfold pairD
    rw [List.length_map, List.length_zip, ← r1.len, ← r2.len]
    omega
theorem srcs_zipT {a b : Addr} {xs ys : List V} {ds es : List D} (h1 : SqT G.K c.F a xs) (h2 : SqT G.K c.F b ys) (r1 : RpA G c.F c.al xs ds) (r2 : RpA G c.F c.al ys es) : Srcs G (RZ.ItzT G.K a b) (pairD ds es) c := fun st2 σ2 c2 rl g => by
  have k1 := rl.rdT (sqT_mr g.mo.mR h1)
  have k2 := rl.rdT (sqT_mr g.mo.mR h2)
  refine ⟨fun i d hd => ?_, xs, ys, k1, k2, ?_⟩
  · obtain ⟨dx, dy, e1, e2, rfl⟩ := pair_get hd
    obtain ⟨x, hx, rx⟩ := (r1.mo g.mo).get e1
    obtain ⟨y, hy, ry⟩ := (r2.mo g.mo).get e2
    refine ⟨⟨xs, ys, x, y, k1, k2, hx, hy⟩, fun w H' hw => ?_⟩
    obtain ⟨T, x', y', rfl, hT, rfl, q1, q2⟩ := hw
    have := q1 xs k1; rw [hx] at this; cases this
    have := q2 ys k2; rw [hy] at this; cases this
    exact new_pair rl hT rx ry
  · unfold pairD
    rw [List.length_map, List.length_zip, ← r1.len, ← r2.len]
    omega
end
def mZip (ma : M (List D)) : M (List D) := bnd ma fun ds => ofO (zipD ds)
def mEnum (ma : M (List D)) : M (List D) := bnd ma fun ds => ofO (enumD ds)
def mRev (md : M D) : M (List D) := bnd md fun d => ofO (revI d)
section
variable {X : Cx} {G : Gi} {W : WX} {tg e e2 : Expr} {md : M D} {ma : M (List D)} {p pos tpos : Pos} {elts : List Expr} {kk : Nat}
theorem xi_zip (hK : X.K = G.K) (hg : Gl X "zip") (hm : X.mg "zip" = none) (ha : PA X [e, e2] (tAs G W ma))
    (hs : starEach [e, e2] X.env = (false, eval e X.env) :: starEach [e2] X.env := by rfl) (hpl : (backTo pos (starEach [e2] X.env)).any (·.1) = false := by rfl) :
    PI X (.Tuple elts kk tpos) (.Call (.Name "zip" p) [e, e2] [] pos) (tI G W (mZip ma)) := (RZ.pi_zipA hg hm ha hs hpl).weak fun σ H R q => by
  rw [hK]
  unfold RZ.iZipA
  refine q.seq0 _ (fun ds vs c c1 st1 r1 g1 p1 w => ?_)
  obtain ⟨l, e1, q⟩ := wp_ofO.mp w
  unfold zipD at e1
  split at e1
  · rename_i a b
    cases p1 with
    | cons ta ts =>
      cases ts with
      | cons tb ts =>
        cases ts
        split at e1
        · rename_i xs ys h1 h2
          cases e1
          obtain ⟨a', xs', rfl, k1, k2⟩ := lst_view ta h1
          obtain ⟨b', ys', rfl, k3, k4⟩ := lst_view tb h2
          exact ⟨a', b', xs', ys', rfl, .inl ⟨r1.rdL k1, r1.rdL k3, q _ c1 r1 g1 (srcs_zip k1 k3 k2 k4)⟩⟩
        · split at e1
          · rename_i xs ys h1 h2
            cases e1
            obtain ⟨a', xs', rfl, k1, k2⟩ := tup_view ta h1
            obtain ⟨b', ys', rfl, k3, k4⟩ := tup_view tb h2
            exact ⟨a', b', xs', ys', rfl, .inr ⟨r1.rdT k1, r1.rdT k3, q _ c1 r1 g1 (srcs_zipT k1 k3 k2 k4)⟩⟩
          · cases e1
  · cases e1
/-- {} -/
theorem x_dict0 {pos : Pos} : PE X (.Dict [] [] pos) (tO G W (ret (.dct []))) := (pe_dnewK (X := X)).weak fun σ H Q q => by
  obtain ⟨c, st, rfl, r, w⟩ := q
  intro p hp
  obtain ⟨c', e, r', g', p'⟩ := new_ow (G := G) (o := .dK []) (t := .dct []) r hp (.dcK upd_same rfl .nil)
  rw [← e]
  exact w _ c' r' g' p'
end
end L2.Tr
namespace L2.Tr
open PySem PySem.Spec PyProof.Rows L2 L2.Pc
/-! ### steps of raise, try, zip -/
def raiseK (x : Str) (fns : List Str) (ds : List D) : M Fl := fun s => if ds.length = fns.length ∧ ds.length ≤ 1000 then .exc ⟨x, (fns.zip ds).reverse⟩ s else .no
noncomputable def tryB (i : Nat) (vs : List Nat) (ms : M Fl) (x : Exc) (s : S) : Option Bool → R Fl
  | some true => sSuite i vs ms x s
  | some false => .exc x s
  | none => .no
noncomputable def tryK (i : Nat) (vs : List Nat) (tbl : List (Str × Bool)) (ms : M Fl) : R Fl → R Fl
  | .exc x s => tryB i vs ms x s (tbl.lookup x.cls)
  | r => r
def try1B (ms : M Fl) (x : Exc) (s : S) : Option Bool → R Fl
  | some true => noExc (ms s)
  | some false => .exc x s
  | none => .no
def try1K (tbl : List (Str × Bool)) (ms : M Fl) : R Fl → R Fl
  | .exc x s => try1B ms x s (tbl.lookup x.cls)
  | r => r
open Classical in
noncomputable def suiK (i : Nat) (vs : List Nat) (s : S) : R Fl → R Fl
  | .ok f s2 => if s2.mu = s.mu ∧ wipeE (setS s2.env i none) vs = wipeE (setS s.env i none) vs ∧ chkV (setS s2.env i none) vs = true ∧ noXFl f = true then .ok f ⟨setS s2.env i none, s2.mu⟩ else .no
  | _ => .no
section
variable {x f g c : Str} {fns : List Str} {ma : M (List D)} {mb ms : M Fl} {env e2 : List (Option O)} {mu : List O} {d d2 d3 : D} {i v : Nat} {vs : List Nat} {tbl : List (Str × Bool)} {fs : List (Str × D)} {fl : Fl} {s : S} {XT : CTab} {ex : Exc} {m : M O} {md : M D} {xs ys ds : List D} {o : O}
theorem st_raise : sRaise x fns ma ⟨env, mu⟩ = (ma ⟨env, mu⟩).bind (raiseK x fns) := rfl
theorem st_raise1 : raiseK x [f] [d] s = .exc ⟨x, [(f, d)]⟩ s := rfl
theorem st_raise2 : raiseK x [f, g] [d, d2] s = .exc ⟨x, [(g, d2), (f, d)]⟩ s := rfl
theorem st_raise3 : raiseK x [f, g, c] [d, d2, d3] s = .exc ⟨x, [(c, d3), (g, d2), (f, d)]⟩ s := rfl
theorem st_try : sTryAs i vs tbl mb ms ⟨env, mu⟩ = tryK i vs tbl ms (mb ⟨env, mu⟩) := by
  unfold sTryAs tryK
  cases mb ⟨env, mu⟩ with
  | exc x s => dsimp only; cases tbl.lookup x.cls with
    | none => rfl
    | some b => cases b <;> rfl
  | _ => rfl
theorem st_tryok : tryK i vs tbl ms (.ok fl s) = .ok fl s := rfl
theorem st_tryex : tryK i vs tbl ms (.exc ⟨c, fs⟩ s) = tryB i vs ms ⟨c, fs⟩ s (tbl.lookup c) := rfl
theorem st_tryt : tryB i vs ms ex s (some true) = sSuite i vs ms ex s := rfl
theorem st_tryf : tryB i vs ms ex s (some false) = .exc ex s := rfl
theorem st_suite : sSuite i vs ms ⟨c, fs⟩ ⟨env, mu⟩ = suiK i vs ⟨env, mu⟩ (ms ⟨setS env i (some (.fz (.xob c fs))), mu⟩) := by
  unfold sSuite suiK
  rfl
open Classical in
theorem st_suiok : suiK i vs ⟨env, mu⟩ (.ok fl ⟨e2, mu⟩) = if wipeE (setS e2 i none) vs = wipeE (setS env i none) vs ∧ chkV (setS e2 i none) vs = true ∧ noXFl fl = true then .ok fl ⟨setS e2 i none, mu⟩ else .no := by
  unfold suiK
  dsimp only
  by_cases h : wipeE (setS e2 i none) vs = wipeE (setS env i none) vs ∧ chkV (setS e2 i none) vs = true ∧ noXFl fl = true
  · rw [if_pos h, if_pos ⟨rfl, h⟩]
  · rw [if_neg h, if_neg (fun z => h z.2)]
theorem st_chk0 : chkV env [] = true := rfl
theorem st_chk1 : chkV env (v :: vs) = ((match getS env v with | some o => noXO o | none => true) && chkV env vs) := rfl
theorem st_nxo : noXO (.fz d) = noX d := by rw [noXO]
theorem st_nxl : noXO (.lst ds) = noXA ds := by rw [noXO]
theorem st_nxs : noX (.str x) = true := by rw [noX]
theorem st_nxb {b : Bool} : noX (.bl b) = true := by rw [noX]
theorem st_nxi {i : Int} : noX (.int i) = true := by rw [noX]
theorem st_nxn : noX .non = true := by rw [noX]
theorem st_nxt : noX (.tup ds) = noXA ds := by rw [noX]
theorem st_nxL : noX (.lst ds) = noXA ds := by rw [noX]
theorem st_nxa0 : noXA [] = true := by rw [noXA]
theorem st_nxa1 : noXA (d :: ds) = (noX d && noXA ds) := by rw [noXA]
theorem st_nxf : noXFl .nx = true := rfl
theorem st_nxr : noXFl (.rt o) = noXO o := rfl
theorem st_try1 : sTry1 tbl mb ms ⟨env, mu⟩ = try1K tbl ms (mb ⟨env, mu⟩) := by
  unfold sTry1 try1K
  cases mb ⟨env, mu⟩ with
  | exc x s => dsimp only; cases tbl.lookup x.cls with
    | none => rfl
    | some b =>
      cases b
      · rfl
      · show _ = noExc (ms s)
        cases ms s <;> rfl
  | _ => rfl
theorem st_try1ok : try1K tbl ms (.ok fl s) = .ok fl s := rfl
theorem st_try1ex : try1K tbl ms (.exc ⟨c, fs⟩ s) = try1B ms ⟨c, fs⟩ s (tbl.lookup c) := rfl
theorem st_try1t : try1B ms ex s (some true) = noExc (ms s) := rfl
theorem st_try1f : try1B ms ex s (some false) = .exc ex s := rfl
theorem st_xf : xXf XT f m ⟨env, mu⟩ = (m ⟨env, mu⟩).bind fun o => ofO (xfO XT f o) := rfl
theorem st_xfo (h : okF XT c f = true) : xfO XT f (.fz (.xob c fs)) = (fs.lookup f).map .fz := by unfold xfO; dsimp only; rw [if_pos h]
theorem st_mzip : mZip ma ⟨env, mu⟩ = (ma ⟨env, mu⟩).bind fun ds => ofO (zipD ds) := rfl
theorem st_menum : mEnum ma ⟨env, mu⟩ = (ma ⟨env, mu⟩).bind fun ds => ofO (enumD ds) := rfl
theorem st_mrev : mRev md ⟨env, mu⟩ = (md ⟨env, mu⟩).bind fun ds => ofO (revI ds) := rfl
theorem st_zipl : zipD [.lst xs, .lst ys] = some (pairD xs ys) := rfl
theorem st_zipt : zipD [.tup xs, .tup ys] = some (pairD xs ys) := rfl
theorem st_pair0 : pairD [] ys = [] := rfl
theorem st_pair1 : pairD (d :: xs) (d2 :: ys) = .tup [d, d2] :: pairD xs ys := rfl
theorem st_enuml : enumD [.lst xs] = some (numD 0 xs) := rfl
theorem st_num0 {k : Nat} : numD k [] = [] := rfl
theorem st_num1 {k : Nat} : numD k (d :: xs) = .tup [.int (k : Nat), d] :: numD (k + 1) xs := rfl
theorem st_revl : revI (.lst xs) = some xs.reverse := rfl
theorem st_revt : revI (.tup xs) = some xs.reverse := rfl
theorem st_fnI {N : Nat} {body : M Fl} : fnI N x body ds mu = if noCA ds = true then (match body ⟨some (.fz (.cel 0)) :: env0 (N - 1) ds, [.ins x []]⟩ with
  | .ok .nx ⟨_, [o]⟩ => if noCO o = true then .ok o ⟨[], mu⟩ else .no
  | .exc e _ => if noCF e.fs = true then .exc e ⟨[], mu⟩ else .no
  | _ => .no) else .no := rfl
theorem st_nk0 : ((0 : Nat) = nK []) = True := eq_true rfl
theorem st_nk1 {k0 : Str} : ((1 : Nat) = nK [k0]) = True := eq_true rfl
theorem st_nk2 {k0 k1 : Str} : ((2 : Nat) = nK [k0, k1]) = True := eq_true rfl
theorem st_nk3 {k0 k1 k2 : Str} : ((3 : Nat) = nK [k0, k1, k2]) = True := eq_true rfl
theorem st_nk4 {k0 k1 k2 k3 : Str} : ((4 : Nat) = nK [k0, k1, k2, k3]) = True := eq_true rfl
theorem st_nk5 {k0 k1 k2 k3 k4 : Str} : ((5 : Nat) = nK [k0, k1, k2, k3, k4]) = True := eq_true rfl
theorem st_nk6 {k0 k1 k2 k3 k4 k5 : Str} : ((6 : Nat) = nK [k0, k1, k2, k3, k4, k5]) = True := eq_true rfl
theorem st_nk7 {k0 k1 k2 k3 k4 k5 k6 : Str} : ((7 : Nat) = nK [k0, k1, k2, k3, k4, k5, k6]) = True := eq_true rfl
theorem st_nk8 {k0 k1 k2 k3 k4 k5 k6 k7 : Str} : ((8 : Nat) = nK [k0, k1, k2, k3, k4, k5, k6, k7]) = True := eq_true rfl
end
end L2.Tr
namespace L2.Tr
open PySem PySem.Spec PyProof.Rows L2 L2.Pc
/-! ### a dict of the module with text keys -/
inductive VTab (G : Gi) : List (Str × Value) → List (Str × D) → Prop
  | nil : VTab G [] []
  | cons {k : Str} {u : Value} {us : List (Str × Value)} {d : D} {ds : List (Str × D)} : (∃ v, RelV v u ∧ ∀ F al, Rp G F al v d) → VTab G us ds → VTab G ((k, u) :: us) ((k, d) :: ds)
theorem VTab.get {G : Gi} {us : List (Str × Value)} {ds : List (Str × D)} (h : VTab G us ds) (z : Str) : (∀ d, ds.lookup z = some d → ∃ u v, us.lookup z = some u ∧ RelV v u ∧ ∀ F al, Rp G F al v d) ∧ (us.lookup z).isSome = (ds.lookup z).isSome := by
  induction h with
  | nil => exact ⟨fun d h => (by cases h), rfl⟩
  | @cons k u us d ds hv _ ih =>
    obtain ⟨v, r, hr⟩ := hv
    by_cases hz : z = k
    · subst hz
      rw [List.lookup_cons_self, List.lookup_cons_self]
      exact ⟨fun d' h => by cases h; exact ⟨u, v, rfl, r, hr⟩, rfl⟩
    · have n2 : (z == k) = false := beq_eq_false_iff_ne.mpr hz
      rw [List.lookup, n2, List.lookup, n2]
      exact ih
/-! ### a call by a name that holds a def -/
theorem KnT.mono {P : Program} {w : World} {G : Gi} {base : Heap} {gb : Bool} {x : Str} {j k n : Nat} {ks : List Str} {gD : List D → List D → List D} {m : MF} (F : KnT P w G base gb x j n ks gD m) (h : j ≤ k) : KnT P w G base gb x k n ks gD m := by
  obtain ⟨f, fd, ps, F, r⟩ := F.ex
  exact ⟨f, fd, ps, F.mono h, r⟩
end L2.Tr
namespace L2.Tr
open PySem PySem.Spec PyProof.Rows L2 L2.Pc
/-! ### a slot's own thing made a cell; pop of a cell -/
section
variable {X : Cx} {G : Gi} {W : WX} {e : Expr} {st : Stmt} {m : M Fl} {me : M O} {pos apos cpos : Pos} {i : Nat}
def celS (i : Nat) : M Fl := fun s => match getS s.env i with
  | some o => if cellO o = true then .ok .nx ⟨setS s.env i (some (.fz (.cel s.mu.length))), s.mu ++ [o]⟩ else .no
  | none => .no
def celK (i : Nat) : Fl → M Fl
  | .nx => celS i
  | f => ret f
def sCel (i : Nat) (m : M Fl) : M Fl := bnd m (celK i)
def xPop (i : Nat) (me : M O) : M O := fun s => match getS s.env i with
  | some (.fz (.cel n)) => (match getM s.mu n with
    | some (.lst _) => (me s).bind fun o s1 => (match getS s1.env i, getM s1.mu n, o.toD with
      | some (.fz (.cel n')), some (.lst xs), .int k => if n' = n ∧ -(2 ^ 63) ≤ k ∧ k < 2 ^ 63 then (match seqIndex? k xs.length with
        | some j => (match xs[j]? with
          | some y => .ok (.fz y) ⟨s1.env, setM s1.mu n (.lst (xs.eraseIdx j))⟩
          | none => .no)
        | none => .no) else .no
      | _, _, _ => .no)
    | _ => .no)
  | _ => .no
end
/-! ### a list compared with [] -/
section
variable {X : Cx} {G : Gi} {W : WX} {a b : Expr} {ma mb : M O}
def rNil (K : PySem.W.Frag) (neg : Bool) : R2 := fun x y H Q => ∃ a b xs, x = .ref a ∧ y = .ref b ∧ SqL K H a xs ∧ SqL K H b [] ∧ Q (.bl (xs.isEmpty != neg)) H
theorem op_nil (neg : Bool) (hu : X.A.units + 64 < cLine) : OpR X (compareOp (cmpOpB neg)) (rNil X.K neg) := by
  intro pins s σ H x y v u Q I rx ry h
  obtain ⟨a, b, xs, rfl, rfl, ha, hb, q⟩ := h
  cases xs with
  | nil =>
    cases neg
    · exact op_eqD hu _ _ _ _ _ _ _ _ _ I rx ry ⟨.list [], .list [], .lst ha .nil, .lst hb .nil, rfl, rfl, q⟩
    · exact op_neD hu _ _ _ _ _ _ _ _ _ I rx ry ⟨.list [], .list [], .lst ha .nil, .lst hb .nil, rfl, rfl, q⟩
  | cons z zs =>
    cases rx
    cases ry
    obtain ⟨its, rv, ⟨o, n, ho, hc, _, hd⟩, _⟩ := I.list ha
    obtain ⟨its2, rv2, ⟨o2, n2, ho2, hc2, _, hd2⟩, _⟩ := I.list hb
    cases rv with
    | cons r1 r2 =>
      cases rv2
      have sz : ∀ u : Value, ∀ us : List Value, ((u :: us).toArray.size != (([] : List Value).toArray).size) = true := fun _ _ => rfl
      cases neg
      · exact SeqAt.RcAt.lists_lengths ⟨o, ho, hc, n, hd⟩ ⟨o2, ho2, hc2, n2, hd2⟩ (sz _ _) (by omega) _ _ _ _ ⟨.bl false, H, I, rfl, q⟩
      · exact SeqAt.RcNeAt.lists_lengths ⟨o, ho, hc, n, hd⟩ ⟨o2, ho2, hc2, n2, hd2⟩ (sz _ _) (by omega) _ _ _ _ ⟨.bl true, H, I, rfl, q⟩
def nilD (neg : Bool) : D → D → Option O
  | .lst xs, .lst [] => some (.fz (.bl (xs.isEmpty != neg)))
  | _, _ => none
theorem d_nil (neg : Bool) : OpD G (rNil G.K neg) (nilD neg) := by
  intro st σ c x y ox oy fx fy o Q r tx ty e q
  have vx := own_view r tx
  have vy := own_view r ty
  unfold nilD at e
  split at e
  · rename_i xs h1 h2
    rw [h1] at vx
    rw [h2] at vy
    cases e
    obtain ⟨a, vs, rfl, ha, ra⟩ := vx
    obtain ⟨b, ws, rfl, hb, rb⟩ := vy
    cases rb
    have : xs.isEmpty = vs.isEmpty := by cases ra <;> rfl
    rw [this] at q
    exact ⟨a, b, vs, rfl, rfl, .inl (.inl ha), .inl (.inl hb), q _ c r (GoE.refl r) ⟨[], .fz (.bl _), Fresh.nil _, New.nil _⟩⟩
  · cases e
theorem k_neN {K : PySem.W.Frag} (h : X.K = K) (hu : X.A.units + 64 < cLine) : OpR X (compareOp .NotEq) (rNil K true) := h ▸ op_nil true hu
end
/-! ### a function called by keywords alone -/
/-! ### a cell compared with [] -/
section
variable {X : Cx} {G : Gi} {W : WX} {b : Expr} {pos : Pos} {i : Nat}
def xNil (neg : Bool) (i : Nat) : M O := fun s => match getS s.env i with
  | some (.fz (.cel n)) => (match getM s.mu n with
    | some (.lst xs) => .ok (.fz (.bl (xs.isEmpty != neg))) s
    | _ => .no)
  | _ => .no
end
/-! ### `is` of two truths -/
end L2.Tr
namespace L2.Tr
open PySem PySem.Spec PyProof.Rows L2 L2.Pc
/-! ### cells that are dicts with text keys, their entries owned -/
def isK (k : Str) : D → Bool
  | .str s => decide (s = k)
  | _ => false
def getK (k : Str) : List (D × O) → Option O
  | [] => none
  | (d, o) :: r => if isK k d = true then some o else getK k r
/-- the first entry of a key exchanged -/
def setK (k : Str) (o' : O) : List (D × O) → List (D × O)
  | [] => []
  | (d, o) :: r => if isK k d = true then (d, o') :: r else (d, o) :: setK k o' r
end L2.Tr
namespace L2.Tr
open PySem PySem.Spec PyProof.Rows L2 L2.Pc
open Sem (wp)
open AutoSeq1 (wpAny_loadPart')
/-! ### enumerate(tuple) -/
section
variable {X : Cx} {G : Gi} {W : WX} {c : Cf} {e : Expr} {ma : M (List D)} {p pos tpos : Pos} {elts : List Expr} {kk : Nat}
def enumA (ds : List D) : Option (List D) := match ds with
  | [.lst xs] => some (numD 0 xs)
  | [.lsk xs] => some (numD 0 xs)
  | [.tup xs] => some (numD 0 xs)
  | [.tuk xs] => some (numD 0 xs)
  | _ => none
def mEnumA (ma : M (List D)) : M (List D) := bnd ma fun ds => ofO (enumA ds)
end
/-! ### {x!r} of data -/
/-! ### len by an own __len__ -/
def intB : O → Option O
  | .fz (.int i) => if 0 ≤ i ∧ i < 4611686018427387904 then some (.fz (.int i)) else none
  | _ => none
def runN (tbl : List (Str × MF)) (g : D → Option O) (d : D) : M O := fun s => match insOf d with
  | some c => (match tbl.lookup c with
    | some mf => (match noExc (runF mf [d] s) with
      | .ok o s' => ofO (intB o) s'
      | _ => .no)
    | none => .no)
  | none => ofO (g d) s
def xSn (tbl : List (Str × MF)) (g : D → Option O) (md : M D) : M O := bnd md (runN tbl g)
end L2.Tr
namespace L2.Tr
open PySem PySem.Spec PyProof.Rows L2 L2.Pc
/-! ### repr of a tuple of own instances -/
section
variable {X : Cx} {G : Gi} {W : WX} {gb : Bool} {k : Nat} {tbl : List (Str × MF)} {md : M D} {x : Str} {p pos : Pos} {e : Expr}
/-- the texts of instances by their own methods -/
def reprsM (tbl : List (Str × MF)) : List D → Nat → M (List Str)
  | [], _ => ret []
  | d :: ds, n => fun s => match insOf d with
    | some c => (match tbl.lookup c with
      | some mf => (match noExc (runF mf [d] s) with
        | .ok (.fz (.str y)) s' => if n + (y.length + 2) ≤ 16777000 then (reprsM tbl ds (n + (y.length + 2)) s').bind fun ts => ret (y :: ts) else .no
        | _ => .no)
      | none => .no)
    | none => .no
def xReprT (tbl : List (Str × MF)) (md : M D) : M O := bnd md fun d => match d with
  | .tup ds => bnd (reprsM tbl ds 0) fun ts => ret (.fz (.str (tupleText ts)))
  | _ => fun _ => .no
end
end L2.Tr
namespace L2.Tr
open PySem PySem.Spec PyProof.Rows L2 L2.Pc
/-! ### dicts with tuples as keys -/
def keyOfD : D → Option Key
  | .int i => some (.inl i)
  | .str s => some (.inr s)
  | _ => none
def keysL : List D → Option (List Key)
  | [] => some []
  | d :: ds => match keyOfD d, keysL ds with
    | some k, some ks => some (k :: ks)
    | _, _ => none
def tkeyD : D → Option (List Key)
  | .tup ds => keysL ds
  | _ => none
def getTD (ks : List Key) : List (D × D) → Option D
  | [] => none
  | (d, x) :: r => if tkeyD d = some ks then some x else getTD ks r
def putTD (ks : List Key) (x : D) (kvs : List (D × D)) : List (D × D) :=
  if (kvs.any fun p => decide (tkeyD p.1 = some ks)) = true then kvs.map (fun p => if tkeyD p.1 = some ks then (p.1, x) else p) else kvs ++ [(.tup (ks.map kD), x)]
section
variable {X : Cx} {G : Gi} {W : WX} {e e2 : Expr} {i : Nat} {x : Str} {px pos pos' apos cpos : Pos} {mk md : M D}
def putTAt (i : Nat) (d k : D) : M Fl := fun s => match getP s i, tkeyD k with
  | some (.dcu kvs), some ks => if kvs.length < 16777216 then .ok .nx (putP s i (.dcu (putTD ks d kvs))) else .no
  | _, _ => .no
/-- d[k] = e, k a tuple -/
def sPutT (i : Nat) (mk md : M D) : M Fl := bnd md fun d s1 => match getP s1 i with
  | none => .no
  | some _ => (mk s1).bind fun k => putTAt i d k
/-- what a slot's dict holds -/
def dctS (s : S) (i : Nat) : Option (List (D × D)) := match getS s.env i with
  | some (.dcu kvs) => some kvs
  | some (.fz (.dcu kvs)) => some kvs
  | some (.fz (.cel n)) => (match getM s.mu n with
    | some (.dcu kvs) => some kvs
    | _ => none)
  | _ => none
/-- d.get(k, z), k a tuple -/
def xGetT (i : Nat) (mk md : M D) : M O := fun s => match dctS s i with
  | none => .no
  | some _ => (mk s).bind fun k => bnd md fun z s2 => match dctS s2 i, tkeyD k with
    | some kvs, some ks => .ok (.fz ((getTD ks kvs).getD z)) s2
    | _, _ => .no
end
end L2.Tr
namespace L2.Tr
open PySem PySem.Spec PyProof.Rows L2 L2.Pc
open Sem (wp)
open AutoSeq1 (wpAny_loadPart')
/-! ### a, b = (.., ..) by a tuple in between, what is owned kept -/
end L2.Tr
namespace L2.Tr
open PySem PySem.Spec PyProof.Rows L2 L2.Pc
/-! ### dicts with numbers and texts as keys -/
def getKD (k : Key) : List (D × D) → Option D
  | [] => none
  | (d, x) :: r => if keyOfD d = some k then some x else getKD k r
def putKD (k : Key) (x : D) (kvs : List (D × D)) : List (D × D) :=
  if (kvs.any fun p => decide (keyOfD p.1 = some k)) = true then kvs.map (fun p => if keyOfD p.1 = some k then (p.1, x) else p) else kvs ++ [(kD k, x)]
section
variable {X : Cx} {G : Gi} {W : WX} {e e2 : Expr} {i : Nat} {x : Str} {px pos pos' apos cpos : Pos} {mk md : M D}
def putKAt (i : Nat) (d k : D) : M Fl := fun s => match getP s i, keyOfD k with
  | some (.dct kvs), some ks => if kvs.length < 16777216 then .ok .nx (putP s i (.dct (putKD ks d kvs))) else .no
  | _, _ => .no
/-- d[k] = e, k a number or a text -/
def sPutK (i : Nat) (mk md : M D) : M Fl := bnd md fun d s1 => match getP s1 i with
  | none => .no
  | some _ => (mk s1).bind fun k => putKAt i d k
/-- what a slot's dict holds -/
def dctK (s : S) (i : Nat) : Option (List (D × D)) := match getS s.env i with
  | some (.dct kvs) => some kvs
  | some (.fz (.dct kvs)) => some kvs
  | some (.fz (.cel n)) => (match getM s.mu n with
    | some (.dct kvs) => some kvs
    | _ => none)
  | _ => none
/-- d[k], k a number or a text -/
def xIxK (i : Nat) (mk : M D) : M O := fun s => match dctK s i with
  | none => .no
  | some _ => (mk s).bind fun k s2 => match dctK s2 i, keyOfD k with
    | some kvs, some ks => ofO ((getKD ks kvs).map .fz) s2
    | _, _ => .no
/-- d[k], k a tuple -/
def xIxT (i : Nat) (mk : M D) : M O := fun s => match dctS s i with
  | none => .no
  | some _ => (mk s).bind fun k s2 => match dctS s2 i, tkeyD k with
    | some kvs, some ks => ofO ((getTD ks kvs).map .fz) s2
    | _, _ => .no
/-- k in d, k not in d -/
def xInK (neg : Bool) (i : Nat) (mk : M D) : M O := bnd mk fun k s => match dctK s i, keyOfD k with
  | some kvs, some ks => .ok (.fz (.bl ((getKD ks kvs).isSome != neg))) s
  | _, _ => .no
def xInT (neg : Bool) (i : Nat) (mk : M D) : M O := bnd mk fun k s => match dctS s i, tkeyD k with
  | some kvs, some ks => .ok (.fz (.bl ((getTD ks kvs).isSome != neg))) s
  | _, _ => .no
/-- list(d), d a dict that stands in a slot -/
def xLsK (i : Nat) : M O := fun s => match getP s i with
  | some (.dct kvs) => .ok (.lst (kvs.map (·.1))) s
  | _ => .no
end
end L2.Tr
namespace L2.Tr
open PySem PySem.Spec PyProof.Rows L2 L2.Pc
/-! ### sorted lists -/
section
variable {α : Type}
def insB (lt : α → α → Bool) (x : α) : List α → List α
  | [] => [x]
  | y :: l => if lt y x = true then y :: insB lt x l else x :: y :: l
def isortB (lt : α → α → Bool) : List α → List α
  | [] => []
  | x :: l => insB lt x (isortB lt l)
end
def ltI (a b : Int) : Bool := decide (a < b)
def intD' : D → Option Int
  | .int a => some a
  | _ => none
def allM {α : Type} (f : D → Option α) : List D → Option (List α)
  | [] => some []
  | d :: ds => match f d, allM f ds with
    | some x, some xs => some (x :: xs)
    | _, _ => none
section
variable {G : Gi}
/-- xs[::-1] -/
def revD : D → Option O
  | .lst ds => some (.lst ds.reverse)
  | .lsk ds => some (.lst ds.reverse)
  | _ => none
end
section
variable {X : Cx} {G : Gi} {W : WX} {e : Expr} {m : M O} {k : Nat} {p1 p2 p3 pos : Pos}
/-- range(i, j, -1) -/
def rngC (i : Int) (n : Nat) : List D := (List.range n).map fun k : Nat => .int (i + (k : Int) * (-1))
def rng3 : List D → Option (List D)
  | [.int i, .int j, .int c] => if (-(2 ^ 62) ≤ i ∧ i < 2 ^ 62) ∧ (-(2 ^ 62) ≤ j ∧ j < 2 ^ 62) ∧ c = -1 then some (rngC i (i - j).toNat) else none
  | _ => none
end
end L2.Tr
namespace L2.Tr
open PySem PySem.Spec PyProof.Rows L2 L2.Pc
/-! ### a dict that is walked: locked for so long -/
def nf : HO → Bool
  | .frz _ _ => false
  | _ => true
/-- the keys of a dict that stands frozen in a slot -/
def mKeysT (i : Nat) : M (List D) := fun s => match getS s.env i with
  | some (.fz (.dcu kvs)) => .ok (kvs.map (·.1)) s
  | _ => .no
def frzS (s : S) (i : Nat) : S := match getS s.env i with
  | some (.dcu kvs) => ⟨setS s.env i (some (.fz (.dcu kvs))), s.mu⟩
  | _ => s
/-- [e for t in d if c], d a dict with tuples as keys that stands in a slot -/
def xLcT (i : Nat) (vs : List Nat) (t : MT) (mt : M Bool) (me : M D) : M O := fun s => xLc vs (mKeysT i) t mt me (frzS s i)
/-! ### range(i, j, -1) -/
section
variable {X : Cx} {G : Gi} {W : WX} {ma : M (List D)} {tg a b e3 : Expr} {p pos : Pos}
def mRng3 (ma : M (List D)) : M (List D) := bnd ma fun ds => ofO (rng3 ds)
end
end L2.Tr
namespace L2.Tr
open PySem L2 L2.Pc
/-! ### plain data compared -/
/-! ### sorted pairs -/
/-! ### loops and comprehensions -/
theorem all_mapD {α : Type} (l : List α) (f : α → Bool) : allD (.lst (l.map fun q => .bl (f q))) = some (.fz (.bl (l.all f))) := by
  show (blsD _).map _ = _
  rw [bls_map f l]
  show some (O.fz (D.bl ((l.map f).all id))) = _
  rw [List.all_map]; rfl
end L2.Tr
namespace L2.Tr
open PySem PySem.Spec PyProof.Rows L2 L2.Pc
variable {G : Gi} {F : Hp} {al : List Addr}
/-- {k: e}, both read quietly -/
def xOneK (fk fv : S → Option D) : M O := fun s => match fk s, fv s with
  | some k, some d => (match keyOfD k with
    | some _ => .ok (.dct [(k, d)]) s
    | none => .no)
  | _, _ => .no
/-! ### texts by their codes -/
abbrev tl (s : Str) : List Nat := s.cps.toList
theorem ix_str {a : Str} {i : Nat} {c : Nat} (hl : a.length ≤ 16777216) (h : (tl a)[i]? = some c) : ixD (.str a) (.int (i : Int)) = some (.fz (.str ⟨#[c]⟩)) := by
  rw [st_ixs, if_pos hl, atN, h]; rfl
theorem ix_mem {ds : List D} {r : Int} (h0 : 0 ≤ r) (h1 : r < ds.length) : ∃ d ∈ ds, ixD (.lst ds) (.int r) = some (.fz d) := by
  obtain ⟨j, rfl⟩ := Int.eq_ofNat_of_zero_le h0
  have hj : j < ds.length := by omega
  exact ⟨ds[j], List.getElem_mem hj, by rw [st_ixl, atN, List.getElem?_eq_getElem hj]; rfl⟩
/-! ### dicts with numbers as keys -/
end L2.Tr
namespace L2.Tr
open PySem PySem.Spec PyProof.Rows L2 L2.Pc
/-! ### readings by what is asked behind -/
/-- what code gives, not to be unfolded -/
@[irreducible] def wv {α : Type} (r : Tr.R α) (Q : α → S → Prop) (E : Exc → S → Prop) : Prop := wp r Q E
theorem wv_eq {α : Type} {r : Tr.R α} {Q : α → S → Prop} {E : Exc → S → Prop} : wv r Q E = wp r Q E := by unfold wv; rfl
theorem wv_mono {α : Type} {r : Tr.R α} {Q Q' : α → S → Prop} {E E' : Exc → S → Prop} (h : wv r Q E) (q : ∀ a s, Q a s → Q' a s) (e : ∀ x s, E x s → E' x s) : wv r Q' E' := by
  rw [wv_eq] at *; exact wp_mono h q e
abbrev noQ : Exc → S → Prop := fun _ _ => False
section
variable {α β : Type} {Q : α → S → Prop} {E : Exc → S → Prop} {env : List (Option O)} {mu : List O}
theorem w_ok {a : α} {s : S} (h : Q a s) : wv (.ok a s) Q E := by
  simp only [wv_eq] at *
  exact h
theorem w_id {r : Tr.R α} (h : wv r Q E) : wv r Q E := by
  simp only [wv_eq] at *
  exact h
theorem w_rw {r r' : Tr.R α} (e : r = r') (h : wv r' Q E) : wv r Q E := by simp only [wv_eq] at *; rw [e]; exact h
theorem w_exc {x : Exc} {s : S} (h : E x s) : wv (.exc x s) Q E := by
  simp only [wv_eq] at *
  exact h
theorem w_bd {r : Tr.R β} {f : β → M α} (h : wv r (fun a s => wv (f a s) Q E) E) : wv (r.bind f) Q E := by
  simp only [wv_eq] at *
  exact wp_bind.mpr h
theorem w_nox {r : Tr.R α} (h : wv r Q noQ) : wv (noExc r) Q E := by
  simp only [wv_eq] at *
  cases r with
  | ok a s => exact h
  | exc x s => exact h.elim
  | no => exact h
theorem w_to {r : Tr.R α} {a : α} {s : S} (e : r = .ok a s) (h : Q a s) : wv r Q E := by simp only [wv_eq] at *; rw [e]; exact h
theorem w_ex {r : Tr.R α} (h : wv r Q noQ) : ∃ a s, r = .ok a s ∧ Q a s := by
  simp only [wv_eq] at *
  cases r with
  | ok a s => exact ⟨a, s, rfl, h⟩
  | exc x s => exact h.elim
  | no => exact h.elim
theorem w_eq {r : Tr.R α} {a : α} {s : S} (h : wv r (fun b s' => b = a ∧ s' = s) noQ) : r = .ok a s := by
  obtain ⟨b, s', e, rfl, rfl⟩ := w_ex h
  exact e
theorem w_eqX {r : Tr.R α} {x : Exc} {s : S} (h : wv r (fun _ _ => False) (fun y s' => y = x ∧ s' = s)) : r = .exc x s := by
  simp only [wv_eq] at *
  cases r with
  | ok a s => exact h.elim
  | exc y s => obtain ⟨rfl, rfl⟩ := h; rfl
  | no => exact h.elim
theorem w_imp0 {r : Tr.R α} {Q' : α → S → Prop} (h : wv r Q' noQ) (q : ∀ a s, Q' a s → Q a s) : wv r Q E := by
  exact wv_mono h q fun _ _ z => z.elim
end
section
variable {Q : O → S → Prop} {E : Exc → S → Prop} {env : List (Option O)} {mu : List O}
theorem w_run {m : MF} {ds : List D} (h : wv (m ds mu) (fun o s => Q o ⟨env, s.mu⟩) (fun x s => E x ⟨env, s.mu⟩)) : wv (runF m ds ⟨env, mu⟩) Q E := by
  simp only [wv_eq] at *
  rw [st_runF]
  cases e : m ds mu with
  | ok o s => rw [e] at h; exact h
  | exc x s => rw [e] at h; exact h
  | no => rw [e] at h; exact h
theorem w_runE {m : MF} {ds : List D} {o : O} {s : S} (e : m ds mu = .ok o s) (h : Q o ⟨env, s.mu⟩) : wv (runF m ds ⟨env, mu⟩) Q E := by
  exact w_run (w_to e h)
theorem run_ok {m : MF} {ds : List D} {o : O} {s : S} (e : m ds mu = .ok o s) : runF m ds ⟨env, mu⟩ = .ok o ⟨env, s.mu⟩ := by rw [st_runF, e]
theorem run_ex {m : MF} {ds : List D} {x : Exc} {s : S} (e : m ds mu = .exc x s) : runF m ds ⟨env, mu⟩ = .exc x ⟨env, s.mu⟩ := by rw [st_runF, e]
/-- what is asked behind a def's body -/
def rtQ (Q : O → S → Prop) : Fl → S → Prop
  | .rt o, s => Q o ⟨[], s.mu⟩
  | .nx, s => Q (.fz .non) ⟨[], s.mu⟩
  | _, _ => False
theorem rtQ_rt {o : O} {s : S} (h : Q o ⟨[], s.mu⟩) : rtQ Q (.rt o) s := h
theorem rtQ_nx {s : S} (h : Q (.fz .non) ⟨[], s.mu⟩) : rtQ Q .nx s := h
theorem w_fnM {N : Nat} {body : M Fl} {ds : List D} (h : wv (body ⟨env0 N ds, mu⟩) (rtQ Q) (fun x s => E x ⟨[], s.mu⟩)) : wv (fnM N body ds mu) Q E := by
  simp only [wv_eq] at *
  rw [st_fnM]
  cases e : body ⟨env0 N ds, mu⟩ with
  | ok f s =>
    rw [e] at h
    cases f with
    | rt o => exact h
    | nx => exact h
    | bk => exact h.elim
    | ct => exact h.elim
  | exc x s => rw [e] at h; exact h
  | no => rw [e] at h; exact h
theorem fn_wv {N : Nat} {body : M Fl} {m : MF} (hm : m = fnM N body) {ds : List D} (h : wv (body ⟨env0 N ds, mu⟩) (rtQ Q) (fun x s => E x ⟨[], s.mu⟩)) : wv (m ds mu) Q E := by rw [hm]; exact w_fnM h
end
/-! ### loops -/
section
variable {E : Exc → S → Prop} {env : List (Option O)} {mu : List O}
/-- what is asked behind a turn -/
def fQ (I : S → Prop) (Q : Fl → S → Prop) : Fl → S → Prop
  | .nx, s => I s
  | .ct, s => I s
  | .bk, s => Q .nx s
  | .rt o, s => Q (.rt o) s
theorem fQ_nx {I : S → Prop} {Q : Fl → S → Prop} {s : S} (h : I s) : fQ I Q .nx s := h
theorem fQ_ct {I : S → Prop} {Q : Fl → S → Prop} {s : S} (h : I s) : fQ I Q .ct s := h
theorem fQ_bk {I : S → Prop} {Q : Fl → S → Prop} {s : S} (h : Q .nx s) : fQ I Q .bk s := h
theorem fQ_rt {I : S → Prop} {Q : Fl → S → Prop} {s : S} {o : O} (h : Q (.rt o) s) : fQ I Q (.rt o) s := h
theorem w_for {α : Type} {Q : Fl → S → Prop} {t : MT} {mb : M Fl} {enc : α → D} {l : List α} {s : S} (I : List α → List α → S → Prop) (h0 : I [] l s)
    (hs : ∀ done a todo s, l = done ++ a :: todo → I done (a :: todo) s → ∃ s1, t (enc a) s = some s1 ∧ wv (mb s1) (fQ (I (done ++ [a]) todo) Q) E) (hQ : ∀ s, I l [] s → Q .nx s) : wv (forL t mb (l.map enc) s) Q E := by
  suffices g : ∀ (todo done : List α) (s : S), l = done ++ todo → I done todo s → wv (forL t mb (todo.map enc) s) Q E from g l [] s rfl h0
  intro todo
  induction todo with
  | nil => intro done s e h; rw [List.append_nil] at e; subst e; exact w_ok (hQ s h)
  | cons a todo ih =>
    intro done s e h
    obtain ⟨s1, e1, w1⟩ := hs done a todo s e h
    obtain ⟨env, mu⟩ := s
    rw [List.map_cons, st_for1, e1]
    refine w_bd (wv_mono w1 (fun f s2 w2 => ?_) fun _ _ z => z)
    cases f with
    | nx => exact ih (done ++ [a]) s2 (by rw [e, List.append_assoc]; rfl) w2
    | ct => exact ih (done ++ [a]) s2 (by rw [e, List.append_assoc]; rfl) w2
    | bk => exact w_ok w2
    | rt o => exact w_ok w2
/-! ### comprehensions -/
/-- what is asked behind a comprehension's element -/
def lcE (vs : List Nat) (env : List (Option O)) (P : D → List O → Prop) (y : D) (s : S) : Prop := freeE s.env vs = true ∧ wipeE s.env vs = env ∧ P y s.mu
/-- .. behind its condition -/
def lcC (vs : List Nat) (env : List (Option O)) (me : M D) (P : Option D → List O → Prop) (b : Bool) (s : S) : Prop :=
  if b = true then wv (me s) (lcE vs env fun y mu => P (some y) mu) noQ else freeE s.env vs = true ∧ wipeE s.env vs = env ∧ P none s.mu
theorem lcC_t {vs : List Nat} {env : List (Option O)} {me : M D} {P : Option D → List O → Prop} {s : S} (h : wv (me s) (lcE vs env fun y mu => P (some y) mu) noQ) : lcC vs env me P true s := by
  exact h
/-- a turn of a comprehension -/
def lcQ (vs : List Nat) (t : MT) (mt : M Bool) (me : M D) (env : List (Option O)) (mu : List O) (d : D) (P : Option D → List O → Prop) : Prop :=
  ∃ s1, t d ⟨env, mu⟩ = some s1 ∧ wv (mt s1) (lcC vs env me P) noQ
theorem lcQ_of {vs : List Nat} {t : MT} {mt : M Bool} {me : M D} {env : List (Option O)} {mu : List O} {d : D} {P : Option D → List O → Prop} {s1 : S} (e : t d ⟨env, mu⟩ = some s1) (h : wv (mt s1) (lcC vs env me P) noQ) : lcQ vs t mt me env mu d P := by
  exact ⟨s1, e, h⟩
theorem w_lcI {α : Type} {Q : List D → S → Prop} {vs : List Nat} {t : MT} {mt : M Bool} {me : M D} {enc : α → D} {l : List α} (I : List α → List α → List D → List O → Prop) (h0 : I [] l [] mu)
    (hs : ∀ done a todo ys mu, l = done ++ a :: todo → I done (a :: todo) ys mu → lcQ vs t mt me env mu (enc a) (fun oy mu' => I (done ++ [a]) todo (ys ++ oy.toList) mu')) (hQ : ∀ ys mu', I l [] ys mu' → Q ys ⟨env, mu'⟩) :
    wv (lcL vs t mt me (l.map enc) ⟨env, mu⟩) Q E := by
  suffices g : ∀ (todo done : List α) (ys : List D) (mu : List O), l = done ++ todo → I done todo ys mu → wv (lcL vs t mt me (todo.map enc) ⟨env, mu⟩) (fun zs s => ∃ mu', s = ⟨env, mu'⟩ ∧ I l [] (ys ++ zs) mu') noQ from
    w_imp0 (g l [] [] mu rfl h0) fun zs s h => by obtain ⟨mu', rfl, h⟩ := h; exact hQ _ _ h
  intro todo
  induction todo with
  | nil => intro done ys mu e h; rw [List.append_nil] at e; subst e; exact w_ok ⟨mu, rfl, by rw [List.append_nil]; exact h⟩
  | cons a todo ih =>
    intro done ys mu e h
    have w := hs done a todo ys mu e h
    obtain ⟨s1, e1, w⟩ := w
    rw [List.map_cons, st_lc1]
    rw [e1]
    · refine w_bd (wv_mono w (fun b s2 w2 => ?_) fun _ _ z => z)
      obtain ⟨env2, mu2⟩ := s2
      rw [st_lcT]
      cases b with
      | false =>
        unfold lcC at w2
        rw [if_neg (by decide)] at w2
        obtain ⟨f1, f2, f3⟩ := w2
        rw [if_neg (by decide), if_pos f1, f2]
        have := ih (done ++ [a]) (ys ++ []) mu2 (by rw [e, List.append_assoc]; rfl) f3
        rw [List.append_nil] at this
        exact this
      | true =>
        rw [if_pos rfl]
        refine w_bd (wv_mono w2 (fun y s3 w3 => ?_) fun _ _ z => z)
        obtain ⟨env3, mu3⟩ := s3
        obtain ⟨f1, f2, f3⟩ := w3
        rw [st_lcY, if_pos f1]
        dsimp only at f2
        rw [f2]
        refine w_bd (wv_mono (ih (done ++ [a]) (ys ++ [y]) mu3 (by rw [e, List.append_assoc]; rfl) f3) (fun zs s4 w4 => ?_) fun _ _ z => z)
        obtain ⟨mu', rfl, w4⟩ := w4
        rw [List.append_assoc] at w4
        exact w_ok ⟨mu', rfl, w4⟩
/-- each thing gives one, nothing is changed -/
theorem w_lcm {α : Type} {Q : List D → S → Prop} {vs : List Nat} {t : MT} {mt : M Bool} {me : M D} {enc : α → D} {l : List α} (f : α → D)
    (hs : ∀ a ∈ l, lcQ vs t mt me env mu (enc a) (fun oy mu' => oy = some (f a) ∧ mu' = mu)) (hQ : Q (l.map f) ⟨env, mu⟩) : wv (lcL vs t mt me (l.map enc) ⟨env, mu⟩) Q E := by
  refine w_lcI (fun done _ ys mu' => ys = done.map f ∧ mu' = mu) ⟨rfl, rfl⟩ (fun done a todo ys mu' e h => ?_) fun ys mu' h => by obtain ⟨rfl, rfl⟩ := h; exact hQ
  obtain ⟨rfl, rfl⟩ := h
  have ma : a ∈ l := by rw [e]; exact List.mem_append_right _ List.mem_cons_self
  obtain ⟨s1, e1, w⟩ := hs a ma
  · refine ⟨s1, e1, wv_mono w (fun b s2 w2 => ?_) fun _ _ z => z⟩
    cases b with
    | false => obtain ⟨_, _, h, _⟩ := w2; cases h
    | true => exact wv_mono w2 (fun y s3 ⟨f1, f2, f3, f4⟩ => ⟨f1, f2, by cases f3; rw [List.map_append]; rfl, f4⟩) fun _ _ z => z
/-- no condition -/
theorem w_lcx {α : Type} {Q : List D → S → Prop} {vs : List Nat} {t : MT} {me : M D} {enc : α → D} {l : List α} (f : α → D)
    (hs : ∀ a ∈ l, ∃ s1, t (enc a) ⟨env, mu⟩ = some s1 ∧ wv (me s1) (lcE vs env fun y mu' => y = f a ∧ mu' = mu) noQ) (hQ : Q (l.map f) ⟨env, mu⟩) : wv (lcL vs t (Tr.ret true) me (l.map enc) ⟨env, mu⟩) Q E :=
  w_lcm f (fun a ha => by
    obtain ⟨s1, e1, w⟩ := hs a ha
    exact lcQ_of e1 (w_ok (lcC_t (wv_mono w (fun y s h => ⟨h.1, h.2.1, by rw [h.2.2.1], h.2.2.2⟩) fun _ _ z => z)))) hQ
end
/-! ### loops by their number -/
section
variable {E : Exc → S → Prop} {env : List (Option O)} {mu : List O}
theorem w_forI {α : Type} {Q : Fl → S → Prop} {t : MT} {mb : M Fl} {enc : α → D} {l : List α} {s : S} (I : Nat → S → Prop) (h0 : I 0 s)
    (hs : ∀ k a s, l[k]? = some a → I k s → ∃ s1, t (enc a) s = some s1 ∧ wv (mb s1) (fQ (I (k + 1)) Q) E) (hQ : ∀ s, I l.length s → Q .nx s) : wv (forL t mb (l.map enc) s) Q E :=
  w_for (fun done _ s => I done.length s) h0 (fun done a todo s e h => by
    obtain ⟨s1, e1, w⟩ := hs done.length a s (by rw [e, List.getElem?_append_right (Nat.le_refl _), Nat.sub_self]; rfl) h
    exact ⟨s1, e1, by rw [List.length_append]; exact w⟩) hQ
theorem w_rng {Q : Fl → S → Prop} {t : MT} {mb : M Fl} {i : Int} {n : Nat} {s : S} (I : Nat → S → Prop) (h0 : I 0 s)
    (hs : ∀ k s, k < n → I k s → ∃ s1, t (.int (i + (k : Int))) s = some s1 ∧ wv (mb s1) (fQ (I (k + 1)) Q) E) (hQ : ∀ s, I n s → Q .nx s) : wv (forL t mb (rngL i n) s) Q E :=
  w_forI I h0 (fun k a s e h => by
    have hk : k < n := by
      rcases Nat.lt_or_ge k n with z | z
      · exact z
      · rw [List.getElem?_eq_none (by rw [List.length_range]; exact z)] at e; cases e
    rw [List.getElem?_range hk] at e
    cases e
    exact hs k s hk h) (by rw [List.length_range]; exact hQ)
end
/-! ### steps of dicts -/
section
variable {env : List (Option O)} {mu : List O} {neg : Bool} {i : Nat} {mk md : M D} {kvs : List (D × D)} {j a b : Int} {x : Str} {d : D}
def inKK (neg : Bool) (i : Nat) (k : D) : M O := fun s => match dctK s i, keyOfD k with
  | some kvs, some ks => .ok (.fz (.bl ((getKD ks kvs).isSome != neg))) s
  | _, _ => .no
def inTK (neg : Bool) (i : Nat) (k : D) : M O := fun s => match dctS s i, tkeyD k with
  | some kvs, some ks => .ok (.fz (.bl ((getTD ks kvs).isSome != neg))) s
  | _, _ => .no
def ixKK (i : Nat) (k : D) : M O := fun s => match dctK s i, keyOfD k with
  | some kvs, some ks => ofO ((getKD ks kvs).map .fz) s
  | _, _ => .no
def ixTK (i : Nat) (k : D) : M O := fun s => match dctS s i, tkeyD k with
  | some kvs, some ks => ofO ((getTD ks kvs).map .fz) s
  | _, _ => .no
def putKK (i : Nat) (mk : M D) (d : D) : M Fl := fun s1 => match getP s1 i with
  | none => .no
  | some _ => (mk s1).bind fun k => putKAt i d k
def putTK (i : Nat) (mk : M D) (d : D) : M Fl := fun s1 => match getP s1 i with
  | none => .no
  | some _ => (mk s1).bind fun k => putTAt i d k
def getTK (i : Nat) (k z : D) : M O := fun s => match dctS s i, tkeyD k with
  | some kvs, some ks => .ok (.fz ((getTD ks kvs).getD z)) s
  | _, _ => .no
theorem sk_inK : xInK neg i mk ⟨env, mu⟩ = (mk ⟨env, mu⟩).bind (inKK neg i) := rfl
theorem sk_inT : xInT neg i mk ⟨env, mu⟩ = (mk ⟨env, mu⟩).bind (inTK neg i) := rfl
theorem sk_inKi : inKK neg i (.int j) ⟨env, mu⟩ = (match dctK ⟨env, mu⟩ i with | some kvs => .ok (.fz (.bl ((getKD (.inl j) kvs).isSome != neg))) ⟨env, mu⟩ | none => .no) := by unfold inKK; cases dctK ⟨env, mu⟩ i <;> rfl
theorem sk_inKs : inKK neg i (.str x) ⟨env, mu⟩ = (match dctK ⟨env, mu⟩ i with | some kvs => .ok (.fz (.bl ((getKD (.inr x) kvs).isSome != neg))) ⟨env, mu⟩ | none => .no) := by unfold inKK; cases dctK ⟨env, mu⟩ i <;> rfl
theorem sk_inT2 : inTK neg i (.tup [.int a, .int b]) ⟨env, mu⟩ = (match dctS ⟨env, mu⟩ i with | some kvs => .ok (.fz (.bl ((getTD [.inl a, .inl b] kvs).isSome != neg))) ⟨env, mu⟩ | none => .no) := by unfold inTK; cases dctS ⟨env, mu⟩ i <;> rfl
theorem sk_dctK : dctK ⟨env, mu⟩ i = (match getS env i with | some (.dct kvs) => some kvs | some (.fz (.dct kvs)) => some kvs | some (.fz (.cel n)) => (match getM mu n with | some (.dct kvs) => some kvs | _ => none) | _ => none) := rfl
theorem sk_dctS : dctS ⟨env, mu⟩ i = (match getS env i with | some (.dcu kvs) => some kvs | some (.fz (.dcu kvs)) => some kvs | some (.fz (.cel n)) => (match getM mu n with | some (.dcu kvs) => some kvs | _ => none) | _ => none) := rfl
theorem sk_ixK : xIxK i mk ⟨env, mu⟩ = (match dctK ⟨env, mu⟩ i with | some _ => (mk ⟨env, mu⟩).bind (ixKK i) | none => .no) := by unfold xIxK; cases dctK ⟨env, mu⟩ i <;> rfl
theorem sk_ixT : xIxT i mk ⟨env, mu⟩ = (match dctS ⟨env, mu⟩ i with | some _ => (mk ⟨env, mu⟩).bind (ixTK i) | none => .no) := by unfold xIxT; cases dctS ⟨env, mu⟩ i <;> rfl
theorem sk_ixKi : ixKK i (.int j) ⟨env, mu⟩ = (match dctK ⟨env, mu⟩ i with | some kvs => ofO ((getKD (.inl j) kvs).map .fz) ⟨env, mu⟩ | none => .no) := by unfold ixKK; cases dctK ⟨env, mu⟩ i <;> rfl
theorem sk_ixKs : ixKK i (.str x) ⟨env, mu⟩ = (match dctK ⟨env, mu⟩ i with | some kvs => ofO ((getKD (.inr x) kvs).map .fz) ⟨env, mu⟩ | none => .no) := by unfold ixKK; cases dctK ⟨env, mu⟩ i <;> rfl
theorem sk_ixT2 : ixTK i (.tup [.int a, .int b]) ⟨env, mu⟩ = (match dctS ⟨env, mu⟩ i with | some kvs => ofO ((getTD [.inl a, .inl b] kvs).map .fz) ⟨env, mu⟩ | none => .no) := by unfold ixTK; cases dctS ⟨env, mu⟩ i <;> rfl
theorem sk_putK : sPutK i mk md ⟨env, mu⟩ = (md ⟨env, mu⟩).bind (putKK i mk) := rfl
theorem sk_putT : sPutT i mk md ⟨env, mu⟩ = (md ⟨env, mu⟩).bind (putTK i mk) := rfl
theorem sk_putKK : putKK i mk d ⟨env, mu⟩ = (match getP ⟨env, mu⟩ i with | none => .no | some _ => (mk ⟨env, mu⟩).bind fun k => putKAt i d k) := rfl
theorem sk_putTK : putTK i mk d ⟨env, mu⟩ = (match getP ⟨env, mu⟩ i with | none => .no | some _ => (mk ⟨env, mu⟩).bind fun k => putTAt i d k) := rfl
theorem sk_putKi : putKAt i d (.int j) ⟨env, mu⟩ = (match getP ⟨env, mu⟩ i with | some (.dct kvs) => if kvs.length < 16777216 then .ok .nx (putP ⟨env, mu⟩ i (.dct (putKD (.inl j) d kvs))) else .no | _ => .no) := by unfold putKAt; cases getP ⟨env, mu⟩ i with | none => rfl | some o => cases o <;> rfl
theorem sk_putKs : putKAt i d (.str x) ⟨env, mu⟩ = (match getP ⟨env, mu⟩ i with | some (.dct kvs) => if kvs.length < 16777216 then .ok .nx (putP ⟨env, mu⟩ i (.dct (putKD (.inr x) d kvs))) else .no | _ => .no) := by unfold putKAt; cases getP ⟨env, mu⟩ i with | none => rfl | some o => cases o <;> rfl
theorem sk_putT2 : putTAt i d (.tup [.int a, .int b]) ⟨env, mu⟩ = (match getP ⟨env, mu⟩ i with | some (.dcu kvs) => if kvs.length < 16777216 then .ok .nx (putP ⟨env, mu⟩ i (.dcu (putTD [.inl a, .inl b] d kvs))) else .no | _ => .no) := by unfold putTAt; cases getP ⟨env, mu⟩ i with | none => rfl | some o => cases o <;> rfl
theorem sk_lsK : xLsK i ⟨env, mu⟩ = (match getP ⟨env, mu⟩ i with | some (.dct kvs) => .ok (.lst (kvs.map (·.1))) ⟨env, mu⟩ | _ => .no) := rfl
theorem sk_getT : xGetT i mk md ⟨env, mu⟩ = (match dctS ⟨env, mu⟩ i with | some _ => (mk ⟨env, mu⟩).bind fun k => bnd md fun z => getTK i k z | none => .no) := by unfold xGetT; cases dctS ⟨env, mu⟩ i <;> rfl
theorem sk_getT2 : getTK i (.tup [.int a, .int b]) d ⟨env, mu⟩ = (match dctS ⟨env, mu⟩ i with | some kvs => .ok (.fz ((getTD [.inl a, .inl b] kvs).getD d)) ⟨env, mu⟩ | none => .no) := by unfold getTK; cases dctS ⟨env, mu⟩ i <;> rfl
theorem sk_oneK {fk fv : S → Option D} : xOneK fk fv ⟨env, mu⟩ = (match fk ⟨env, mu⟩, fv ⟨env, mu⟩ with | some k, some d => (match keyOfD k with | some _ => .ok (.dct [(k, d)]) ⟨env, mu⟩ | none => .no) | _, _ => .no) := rfl
theorem sk_kyi : keyOfD (.int j) = some (.inl j) := rfl
theorem sk_kys : keyOfD (.str x) = some (.inr x) := rfl
theorem sk_isd : isFz (.dct kvs) = false := rfl
theorem sk_isu : isFz (.dcu kvs) = false := rfl
theorem sk_tod : O.toD (.dct kvs) = .dct kvs := by rw [O.toD]
theorem sk_tou : O.toD (.dcu kvs) = .dcu kvs := by rw [O.toD]
theorem sk_menum {ma : M (List D)} : mEnumA ma ⟨env, mu⟩ = (ma ⟨env, mu⟩).bind fun ds => ofO (enumA ds) := rfl
theorem sk_rg3 {ma : M (List D)} : mRng3 ma ⟨env, mu⟩ = (ma ⟨env, mu⟩).bind fun ds => ofO (rng3 ds) := rfl
theorem sk_ennl {ds : List D} : enumA [.lst ds] = some (numD 0 ds) := rfl
theorem sk_ennt {ds : List D} : enumA [.tup ds] = some (numD 0 ds) := rfl
theorem sk_rev {ds : List D} : revD (.lst ds) = some (.lst ds.reverse) := rfl
theorem sk_tupl {ds : List D} : tupleD (.lst ds) = some (.fz (.tup ds)) := rfl
theorem sk_tupt {ds : List D} : tupleD (.tup ds) = some (.fz (.tup ds)) := rfl
theorem sk_lstl {ds : List D} : listD (.lst ds) = some (.lst ds) := rfl
theorem sk_lstt {ds : List D} : listD (.tup ds) = some (.lst ds) := rfl
theorem sk_bne0 {b : Bool} : (b != false) = b := by cases b <;> rfl
theorem sk_bne1 {b : Bool} : (b != true) = !b := by cases b <;> rfl
end
section
variable {x y z w v u : D} {xs : List D}
theorem sk_x0 : ixD (.lst (x :: xs)) (.int 0) = some (.fz x) := by rw [st_ixl, st_at0]; rfl
theorem sk_x1 : ixD (.lst (x :: y :: xs)) (.int 1) = some (.fz y) := by rw [st_ixl, st_at1]; rfl
theorem sk_x2 : ixD (.lst (x :: y :: z :: xs)) (.int 2) = some (.fz z) := by rw [st_ixl, st_at2]; rfl
theorem sk_x3 : ixD (.lst (x :: y :: z :: w :: xs)) (.int 3) = some (.fz w) := by rw [st_ixl, st_at3]; rfl
theorem sk_x4 : ixD (.lst (x :: y :: z :: w :: v :: xs)) (.int 4) = some (.fz v) := by rw [st_ixl, st_at4]; rfl
theorem sk_t0 : ixD (.tup (x :: xs)) (.int 0) = some (.fz x) := by rw [st_ixt, st_at0]; rfl
theorem sk_t1 : ixD (.tup (x :: y :: xs)) (.int 1) = some (.fz y) := by rw [st_ixt, st_at1]; rfl
theorem sk_t2 : ixD (.tup (x :: y :: z :: xs)) (.int 2) = some (.fz z) := by rw [st_ixt, st_at2]; rfl
theorem sk_t3 : ixD (.tup (x :: y :: z :: w :: xs)) (.int 3) = some (.fz w) := by rw [st_ixt, st_at3]; rfl
theorem sk_t4 : ixD (.tup (x :: y :: z :: w :: v :: xs)) (.int 4) = some (.fz v) := by rw [st_ixt, st_at4]; rfl
theorem sk_t5 : ixD (.tup (x :: y :: z :: w :: v :: u :: xs)) (.int 5) = some (.fz u) := by rw [st_ixt, c_at5]; rfl
end
/-! ### things drawn -/
section
variable {Q : O → S → Prop} {E : Exc → S → Prop} {s : S} {ds : List D} {r : Int}
theorem ix_w (h0 : 0 ≤ r) (h1 : r < (ds.length : Int)) (hQ : ∀ d ∈ ds, Q (.fz d) s) : wv (ofO (ixD (.lst ds) (.int r)) s) Q E := by
  obtain ⟨d, hd, e⟩ := ix_mem h0 h1
  exact w_to (by rw [e]; rfl) (hQ d hd)
end
theorem sk_isit {xs : List D} : isiD [.tup xs, .ty "tuple"] = some (.fz (.bl true)) := rfl
/-! ### ifs of values -/
section
variable {p : Prop} [Decidable p] {α : Type} {a b : α} {s : S} {env : List (Option O)} {mu : List O}
theorem v_app {m1 m2 : M α} : (if p then m1 else m2) ⟨env, mu⟩ = if p then m1 ⟨env, mu⟩ else m2 ⟨env, mu⟩ := by split <;> rfl
theorem v_ok : (if p then Tr.R.ok a s else .ok b s) = Tr.R.ok (if p then a else b) s := by split <;> rfl
theorem v_fz {d e : D} : (if p then O.fz d else .fz e) = .fz (if p then d else e) := by split <;> rfl
theorem v_int {i j : Int} : (if p then D.int i else .int j) = .int (if p then i else j) := by split <;> rfl
theorem v_bl {i j : Bool} : (if p then D.bl i else .bl j) = .bl (if p then i else j) := by split <;> rfl
theorem v_str {i j : Str} : (if p then D.str i else .str j) = .str (if p then i else j) := by split <;> rfl
theorem v_ba {y : Bool} : (if p then y else false) = (decide p && y) := by by_cases h : p <;> simp [h]
theorem v_bo {y : Bool} : (if p then true else y) = (decide p || y) := by by_cases h : p <;> simp [h]
end
section
variable {a0 a1 a2 a3 a4 a5 a6 a7 a8 a9 a10 a11 a12 a13 a14 a15 a16 a17 a18 a19 a20 a21 a22 a23 a24 a25 a26 a27 a28 a29 a30 x : Option O} {env : List (Option O)}
theorem getS_15 : getS (a0 :: a1 :: a2 :: a3 :: a4 :: a5 :: a6 :: a7 :: a8 :: a9 :: a10 :: a11 :: a12 :: a13 :: a14 :: x :: env) 15 = x := rfl
theorem setS_15 : setS (a0 :: a1 :: a2 :: a3 :: a4 :: a5 :: a6 :: a7 :: a8 :: a9 :: a10 :: a11 :: a12 :: a13 :: a14 :: a15 :: env) 15 x = a0 :: a1 :: a2 :: a3 :: a4 :: a5 :: a6 :: a7 :: a8 :: a9 :: a10 :: a11 :: a12 :: a13 :: a14 :: x :: env := rfl
theorem getS_16 : getS (a0 :: a1 :: a2 :: a3 :: a4 :: a5 :: a6 :: a7 :: a8 :: a9 :: a10 :: a11 :: a12 :: a13 :: a14 :: a15 :: x :: env) 16 = x := rfl
theorem setS_16 : setS (a0 :: a1 :: a2 :: a3 :: a4 :: a5 :: a6 :: a7 :: a8 :: a9 :: a10 :: a11 :: a12 :: a13 :: a14 :: a15 :: a16 :: env) 16 x = a0 :: a1 :: a2 :: a3 :: a4 :: a5 :: a6 :: a7 :: a8 :: a9 :: a10 :: a11 :: a12 :: a13 :: a14 :: a15 :: x :: env := rfl
theorem getS_17 : getS (a0 :: a1 :: a2 :: a3 :: a4 :: a5 :: a6 :: a7 :: a8 :: a9 :: a10 :: a11 :: a12 :: a13 :: a14 :: a15 :: a16 :: x :: env) 17 = x := rfl
theorem setS_17 : setS (a0 :: a1 :: a2 :: a3 :: a4 :: a5 :: a6 :: a7 :: a8 :: a9 :: a10 :: a11 :: a12 :: a13 :: a14 :: a15 :: a16 :: a17 :: env) 17 x = a0 :: a1 :: a2 :: a3 :: a4 :: a5 :: a6 :: a7 :: a8 :: a9 :: a10 :: a11 :: a12 :: a13 :: a14 :: a15 :: a16 :: x :: env := rfl
theorem getS_18 : getS (a0 :: a1 :: a2 :: a3 :: a4 :: a5 :: a6 :: a7 :: a8 :: a9 :: a10 :: a11 :: a12 :: a13 :: a14 :: a15 :: a16 :: a17 :: x :: env) 18 = x := rfl
theorem setS_18 : setS (a0 :: a1 :: a2 :: a3 :: a4 :: a5 :: a6 :: a7 :: a8 :: a9 :: a10 :: a11 :: a12 :: a13 :: a14 :: a15 :: a16 :: a17 :: a18 :: env) 18 x = a0 :: a1 :: a2 :: a3 :: a4 :: a5 :: a6 :: a7 :: a8 :: a9 :: a10 :: a11 :: a12 :: a13 :: a14 :: a15 :: a16 :: a17 :: x :: env := rfl
theorem getS_19 : getS (a0 :: a1 :: a2 :: a3 :: a4 :: a5 :: a6 :: a7 :: a8 :: a9 :: a10 :: a11 :: a12 :: a13 :: a14 :: a15 :: a16 :: a17 :: a18 :: x :: env) 19 = x := rfl
theorem setS_19 : setS (a0 :: a1 :: a2 :: a3 :: a4 :: a5 :: a6 :: a7 :: a8 :: a9 :: a10 :: a11 :: a12 :: a13 :: a14 :: a15 :: a16 :: a17 :: a18 :: a19 :: env) 19 x = a0 :: a1 :: a2 :: a3 :: a4 :: a5 :: a6 :: a7 :: a8 :: a9 :: a10 :: a11 :: a12 :: a13 :: a14 :: a15 :: a16 :: a17 :: a18 :: x :: env := rfl
theorem getS_20 : getS (a0 :: a1 :: a2 :: a3 :: a4 :: a5 :: a6 :: a7 :: a8 :: a9 :: a10 :: a11 :: a12 :: a13 :: a14 :: a15 :: a16 :: a17 :: a18 :: a19 :: x :: env) 20 = x := rfl
theorem setS_20 : setS (a0 :: a1 :: a2 :: a3 :: a4 :: a5 :: a6 :: a7 :: a8 :: a9 :: a10 :: a11 :: a12 :: a13 :: a14 :: a15 :: a16 :: a17 :: a18 :: a19 :: a20 :: env) 20 x = a0 :: a1 :: a2 :: a3 :: a4 :: a5 :: a6 :: a7 :: a8 :: a9 :: a10 :: a11 :: a12 :: a13 :: a14 :: a15 :: a16 :: a17 :: a18 :: a19 :: x :: env := rfl
theorem getS_21 : getS (a0 :: a1 :: a2 :: a3 :: a4 :: a5 :: a6 :: a7 :: a8 :: a9 :: a10 :: a11 :: a12 :: a13 :: a14 :: a15 :: a16 :: a17 :: a18 :: a19 :: a20 :: x :: env) 21 = x := rfl
theorem setS_21 : setS (a0 :: a1 :: a2 :: a3 :: a4 :: a5 :: a6 :: a7 :: a8 :: a9 :: a10 :: a11 :: a12 :: a13 :: a14 :: a15 :: a16 :: a17 :: a18 :: a19 :: a20 :: a21 :: env) 21 x = a0 :: a1 :: a2 :: a3 :: a4 :: a5 :: a6 :: a7 :: a8 :: a9 :: a10 :: a11 :: a12 :: a13 :: a14 :: a15 :: a16 :: a17 :: a18 :: a19 :: a20 :: x :: env := rfl
theorem getS_22 : getS (a0 :: a1 :: a2 :: a3 :: a4 :: a5 :: a6 :: a7 :: a8 :: a9 :: a10 :: a11 :: a12 :: a13 :: a14 :: a15 :: a16 :: a17 :: a18 :: a19 :: a20 :: a21 :: x :: env) 22 = x := rfl
theorem setS_22 : setS (a0 :: a1 :: a2 :: a3 :: a4 :: a5 :: a6 :: a7 :: a8 :: a9 :: a10 :: a11 :: a12 :: a13 :: a14 :: a15 :: a16 :: a17 :: a18 :: a19 :: a20 :: a21 :: a22 :: env) 22 x = a0 :: a1 :: a2 :: a3 :: a4 :: a5 :: a6 :: a7 :: a8 :: a9 :: a10 :: a11 :: a12 :: a13 :: a14 :: a15 :: a16 :: a17 :: a18 :: a19 :: a20 :: a21 :: x :: env := rfl
theorem getS_23 : getS (a0 :: a1 :: a2 :: a3 :: a4 :: a5 :: a6 :: a7 :: a8 :: a9 :: a10 :: a11 :: a12 :: a13 :: a14 :: a15 :: a16 :: a17 :: a18 :: a19 :: a20 :: a21 :: a22 :: x :: env) 23 = x := rfl
theorem setS_23 : setS (a0 :: a1 :: a2 :: a3 :: a4 :: a5 :: a6 :: a7 :: a8 :: a9 :: a10 :: a11 :: a12 :: a13 :: a14 :: a15 :: a16 :: a17 :: a18 :: a19 :: a20 :: a21 :: a22 :: a23 :: env) 23 x = a0 :: a1 :: a2 :: a3 :: a4 :: a5 :: a6 :: a7 :: a8 :: a9 :: a10 :: a11 :: a12 :: a13 :: a14 :: a15 :: a16 :: a17 :: a18 :: a19 :: a20 :: a21 :: a22 :: x :: env := rfl
theorem getS_24 : getS (a0 :: a1 :: a2 :: a3 :: a4 :: a5 :: a6 :: a7 :: a8 :: a9 :: a10 :: a11 :: a12 :: a13 :: a14 :: a15 :: a16 :: a17 :: a18 :: a19 :: a20 :: a21 :: a22 :: a23 :: x :: env) 24 = x := rfl
theorem setS_24 : setS (a0 :: a1 :: a2 :: a3 :: a4 :: a5 :: a6 :: a7 :: a8 :: a9 :: a10 :: a11 :: a12 :: a13 :: a14 :: a15 :: a16 :: a17 :: a18 :: a19 :: a20 :: a21 :: a22 :: a23 :: a24 :: env) 24 x = a0 :: a1 :: a2 :: a3 :: a4 :: a5 :: a6 :: a7 :: a8 :: a9 :: a10 :: a11 :: a12 :: a13 :: a14 :: a15 :: a16 :: a17 :: a18 :: a19 :: a20 :: a21 :: a22 :: a23 :: x :: env := rfl
theorem getS_25 : getS (a0 :: a1 :: a2 :: a3 :: a4 :: a5 :: a6 :: a7 :: a8 :: a9 :: a10 :: a11 :: a12 :: a13 :: a14 :: a15 :: a16 :: a17 :: a18 :: a19 :: a20 :: a21 :: a22 :: a23 :: a24 :: x :: env) 25 = x := rfl
theorem setS_25 : setS (a0 :: a1 :: a2 :: a3 :: a4 :: a5 :: a6 :: a7 :: a8 :: a9 :: a10 :: a11 :: a12 :: a13 :: a14 :: a15 :: a16 :: a17 :: a18 :: a19 :: a20 :: a21 :: a22 :: a23 :: a24 :: a25 :: env) 25 x = a0 :: a1 :: a2 :: a3 :: a4 :: a5 :: a6 :: a7 :: a8 :: a9 :: a10 :: a11 :: a12 :: a13 :: a14 :: a15 :: a16 :: a17 :: a18 :: a19 :: a20 :: a21 :: a22 :: a23 :: a24 :: x :: env := rfl
theorem getS_26 : getS (a0 :: a1 :: a2 :: a3 :: a4 :: a5 :: a6 :: a7 :: a8 :: a9 :: a10 :: a11 :: a12 :: a13 :: a14 :: a15 :: a16 :: a17 :: a18 :: a19 :: a20 :: a21 :: a22 :: a23 :: a24 :: a25 :: x :: env) 26 = x := rfl
theorem setS_26 : setS (a0 :: a1 :: a2 :: a3 :: a4 :: a5 :: a6 :: a7 :: a8 :: a9 :: a10 :: a11 :: a12 :: a13 :: a14 :: a15 :: a16 :: a17 :: a18 :: a19 :: a20 :: a21 :: a22 :: a23 :: a24 :: a25 :: a26 :: env) 26 x = a0 :: a1 :: a2 :: a3 :: a4 :: a5 :: a6 :: a7 :: a8 :: a9 :: a10 :: a11 :: a12 :: a13 :: a14 :: a15 :: a16 :: a17 :: a18 :: a19 :: a20 :: a21 :: a22 :: a23 :: a24 :: a25 :: x :: env := rfl
theorem getS_27 : getS (a0 :: a1 :: a2 :: a3 :: a4 :: a5 :: a6 :: a7 :: a8 :: a9 :: a10 :: a11 :: a12 :: a13 :: a14 :: a15 :: a16 :: a17 :: a18 :: a19 :: a20 :: a21 :: a22 :: a23 :: a24 :: a25 :: a26 :: x :: env) 27 = x := rfl
theorem setS_27 : setS (a0 :: a1 :: a2 :: a3 :: a4 :: a5 :: a6 :: a7 :: a8 :: a9 :: a10 :: a11 :: a12 :: a13 :: a14 :: a15 :: a16 :: a17 :: a18 :: a19 :: a20 :: a21 :: a22 :: a23 :: a24 :: a25 :: a26 :: a27 :: env) 27 x = a0 :: a1 :: a2 :: a3 :: a4 :: a5 :: a6 :: a7 :: a8 :: a9 :: a10 :: a11 :: a12 :: a13 :: a14 :: a15 :: a16 :: a17 :: a18 :: a19 :: a20 :: a21 :: a22 :: a23 :: a24 :: a25 :: a26 :: x :: env := rfl
theorem getS_28 : getS (a0 :: a1 :: a2 :: a3 :: a4 :: a5 :: a6 :: a7 :: a8 :: a9 :: a10 :: a11 :: a12 :: a13 :: a14 :: a15 :: a16 :: a17 :: a18 :: a19 :: a20 :: a21 :: a22 :: a23 :: a24 :: a25 :: a26 :: a27 :: x :: env) 28 = x := rfl
theorem setS_28 : setS (a0 :: a1 :: a2 :: a3 :: a4 :: a5 :: a6 :: a7 :: a8 :: a9 :: a10 :: a11 :: a12 :: a13 :: a14 :: a15 :: a16 :: a17 :: a18 :: a19 :: a20 :: a21 :: a22 :: a23 :: a24 :: a25 :: a26 :: a27 :: a28 :: env) 28 x = a0 :: a1 :: a2 :: a3 :: a4 :: a5 :: a6 :: a7 :: a8 :: a9 :: a10 :: a11 :: a12 :: a13 :: a14 :: a15 :: a16 :: a17 :: a18 :: a19 :: a20 :: a21 :: a22 :: a23 :: a24 :: a25 :: a26 :: a27 :: x :: env := rfl
theorem getS_29 : getS (a0 :: a1 :: a2 :: a3 :: a4 :: a5 :: a6 :: a7 :: a8 :: a9 :: a10 :: a11 :: a12 :: a13 :: a14 :: a15 :: a16 :: a17 :: a18 :: a19 :: a20 :: a21 :: a22 :: a23 :: a24 :: a25 :: a26 :: a27 :: a28 :: x :: env) 29 = x := rfl
theorem setS_29 : setS (a0 :: a1 :: a2 :: a3 :: a4 :: a5 :: a6 :: a7 :: a8 :: a9 :: a10 :: a11 :: a12 :: a13 :: a14 :: a15 :: a16 :: a17 :: a18 :: a19 :: a20 :: a21 :: a22 :: a23 :: a24 :: a25 :: a26 :: a27 :: a28 :: a29 :: env) 29 x = a0 :: a1 :: a2 :: a3 :: a4 :: a5 :: a6 :: a7 :: a8 :: a9 :: a10 :: a11 :: a12 :: a13 :: a14 :: a15 :: a16 :: a17 :: a18 :: a19 :: a20 :: a21 :: a22 :: a23 :: a24 :: a25 :: a26 :: a27 :: a28 :: x :: env := rfl
theorem getS_30 : getS (a0 :: a1 :: a2 :: a3 :: a4 :: a5 :: a6 :: a7 :: a8 :: a9 :: a10 :: a11 :: a12 :: a13 :: a14 :: a15 :: a16 :: a17 :: a18 :: a19 :: a20 :: a21 :: a22 :: a23 :: a24 :: a25 :: a26 :: a27 :: a28 :: a29 :: x :: env) 30 = x := rfl
theorem setS_30 : setS (a0 :: a1 :: a2 :: a3 :: a4 :: a5 :: a6 :: a7 :: a8 :: a9 :: a10 :: a11 :: a12 :: a13 :: a14 :: a15 :: a16 :: a17 :: a18 :: a19 :: a20 :: a21 :: a22 :: a23 :: a24 :: a25 :: a26 :: a27 :: a28 :: a29 :: a30 :: env) 30 x = a0 :: a1 :: a2 :: a3 :: a4 :: a5 :: a6 :: a7 :: a8 :: a9 :: a10 :: a11 :: a12 :: a13 :: a14 :: a15 :: a16 :: a17 :: a18 :: a19 :: a20 :: a21 :: a22 :: a23 :: a24 :: a25 :: a26 :: a27 :: a28 :: a29 :: x :: env := rfl
end
/-! ### methods -/
def reprTK (tbl : List (Str × MF)) (d : D) : M O := match d with
  | .tup ds => bnd (reprsM tbl ds 0) fun ts => ret (.fz (.str (tupleText ts)))
  | _ => fun _ => .no
theorem v_chB {b : Bool} {m : M O} {env : List (Option O)} {mu : List O} : chB (some b) m ⟨env, mu⟩ = if b = true then m ⟨env, mu⟩ else .ok (.fz (.bl false)) ⟨env, mu⟩ := by cases b <;> rfl
theorem c_meth {c mn : Str} {m : MF} {gD : List D → List D → List D} {n k : Nat} {ma mk : M (List D)} {fs : List (Str × D)} (h : (fs.map (·.1)).contains mn = false) :
    methK c mn m gD n k ma mk (.ins c fs) = bnd ma fun ds => bnd mk fun es => if ds.length + 1 = n ∧ es.length = k then runF m (gD (.ins c fs :: ds) es) else fun _ => .no := by
  unfold methK
  dsimp only
  rw [if_pos ⟨rfl, h⟩]
theorem sk_sn {tbl : List (Str × MF)} {g : D → Option O} {md : M D} {env : List (Option O)} {mu : List O} : xSn tbl g md ⟨env, mu⟩ = (md ⟨env, mu⟩).bind (runN tbl g) := rfl
theorem sk_reprT {tbl : List (Str × MF)} {md : M D} {env : List (Option O)} {mu : List O} : xReprT tbl md ⟨env, mu⟩ = (md ⟨env, mu⟩).bind (reprTK tbl) := rfl
end L2.Tr
/-! tuples turned about: t[::-1] -/
namespace L2.Tr
open PySem PySem.Spec PyProof.Rows L2 L2.Pc
section
variable {prog : Program} {w : World} {A : Around} {E : Value → Shared → Prop} {s : Shared}
theorem rv_places (n : Nat) : Builtin.Slice.slicePlaces ((n : Int) - 1) (-1) (-1) = n := by
  unfold Builtin.Slice.slicePlaces
  rw [if_neg (by decide)]
  by_cases hn : 0 < n
  · rw [if_pos (by omega)]
    have : ((n : Int) - 1 - -1 - 1) / (- -1) + 1 = (n : Int) := by
      rw [show (- -1 : Int) = 1 from rfl, Int.ediv_one]; omega
    rw [this]; rfl
  · rw [if_neg (by omega)]
    show (0 : Int).toNat = n
    have : n = 0 := by omega
    rw [this]; rfl
theorem rv_adjust (n : Nat) : Builtin.Slice.sliceAdjust none none (-1) (n : Int) = ((n : Int) - 1, -1) := rfl
theorem fm_congr {α β : Type} {f g : α → Option β} : ∀ L : List α, (∀ m ∈ L, f m = g m) → L.filterMap f = L.filterMap g
  | [], _ => rfl
  | x :: L, h => by rw [List.filterMap_cons, List.filterMap_cons, h x List.mem_cons_self, fm_congr L fun m hm => h m (List.mem_cons_of_mem _ hm)]
theorem rv_pick (xs : Array Value) : ((List.range xs.size).filterMap fun (m : Nat) => xs[(((xs.size : Int) - 1) + (m : Int) * (-1)).toNat]?).toArray = xs.toList.reverse.toArray := by
  congr 1
  have h0 : ∀ i : Nat, xs[i]? = xs.toList[i]? := fun i => by rw [Array.getElem?_toList]
  simp only [h0]
  have hs : xs.size = xs.toList.length := by rw [Array.length_toList]
  rw [hs]
  generalize xs.toList = l
  show ((List.range l.length).filterMap fun (m : Nat) => l[(((l.length : Int) - 1) + (m : Int) * (-1)).toNat]?) = l.reverse
  have e : ∀ m ∈ List.range l.length, l[(((l.length : Int) - 1) + (m : Int) * (-1)).toNat]? = l.reverse[m]? := fun m hm => by
    have hm := List.mem_range.mp hm
    rw [List.getElem?_reverse hm]
    congr 1
    omega
  rw [fm_congr _ e]
  have : l.length = l.reverse.length := by rw [List.length_reverse]
  rw [this]
  generalize l.reverse = r
  induction r with
  | nil => rfl
  | cons x r ih =>
    rw [List.length_cons, List.range_succ_eq_map, List.filterMap_cons]
    show x :: _ = _
    rw [List.filterMap_map]
    congr 1
theorem rv_applied {sl : Addr} {vs : Value} {n : Nat} {Q : Int × Int × Nat → Shared → Prop} (hs : s.heap.IsSliceOf sl .none .none vs) (ps : IsPart vs (some (-1))) (h : Q ((n : Int) - 1, -1, n) s) :
    wpAny (model prog w) A (Builtin.Slice.sliceApplied (.ref sl) (pure (n : Int))) Q E s := by
  obtain ⟨o, h1, h2, h3⟩ := id hs
  unfold Builtin.Slice.sliceApplied Builtin.Slice.sliceFields
  refine wpAny_bind (wpAny_bind (wpAny_field h1 h3 (x := .none) rfl (wpAny_bind (wpAny_field h1 h3 (x := .none) rfl (wpAny_bind (wpAny_field h1 h3 (x := vs) rfl (wpAny_pure ?_)))))))
  refine wpAny_bind (HT.slicePart_ ps ?_)
  show wpAny _ _ (if ((-1 : Int) == 0) = true then _ else _) _ _ s
  rw [if_neg (by decide)]
  refine wpAny_bind (slicePart_none (wpAny_bind (slicePart_none (wpAny_bind (wpAny_pure ?_)))))
  show wpAny _ _ (match Builtin.Slice.sliceAdjust none none (-1) (n : Int) with | (lo, hi) => pure (lo, (-1 : Int), Builtin.Slice.slicePlaces lo hi (-1))) _ _ s
  rw [rv_adjust]
  show wpAny _ _ (pure ((n : Int) - 1, (-1 : Int), Builtin.Slice.slicePlaces ((n : Int) - 1) (-1) (-1))) _ _ s
  rw [rv_places]
  exact wpAny_pure h
theorem rv_get {t sl : Addr} {xs : Array Value} {vs : Value} {Q : Value → Shared → Prop} (ht : IsTup s.heap t xs) (hs : s.heap.IsSliceOf sl .none .none vs) (ps : IsPart vs (some (-1)))
    (h : Q (.ref s.heap.objs.size) { s with heap := s.heap.push { cls := .type "tuple", data := .seq xs.toList.reverse.toArray } }) (hz : xs.size ≤ sizeLine) :
    wpAny (model prog w) A (getItem (.ref t) (.ref sl)) Q E s := by
  obtain ⟨o, h1, h2, h3⟩ := id hs
  have ty : s.TypeIs (.ref sl) "slice" := ⟨o, h1, h2⟩
  have ok : sizeOk (.seq xs.toList.reverse.toArray) := by
    show xs.toList.reverse.toArray.size ≤ sizeLine
    rw [List.size_toArray, List.length_reverse, Array.length_toList]; exact hz
  unfold getItem
  try with_reducible refine wpAny_holding ?_
  first | refine wpAny_bind (wpAny_pure ?_) | skip
  refine wpAny_bind (wpAny_sequenceKey ht.typeIs (by decide) (wpAny_bind (wpAny_callSpecial?_slot (name := Str.ofString "__getitem__") ht.typeIs PyProof.Rows.slot_tuple_getitem (wpAny_call_entry PyProof.Rows.slot_tuple_getitem ht.typeIs PyProof.Rows.entry_tuple_getitem ?_ (PyProof.Rows.args_tuple_getitem _ _)))))
  show wpAny _ _ (Builtin.Tuple.tupleItemsOf (.ref t) >>= _) _ _ s
  refine wpAny_bind (tupleItemsOf_ ht (wpAny_bind (wpAny_typeOf ty ?_)))
  rw [if_pos (by decide)]
  refine wpAny_bind (rv_applied hs ps ?_)
  show wpAny _ _ (if ((((xs.size : Int) - 1) == 0 && (-1 : Int) == 1 && xs.size == xs.size) = true) then _ else _) _ _ s
  rw [if_neg (by intro q; rw [Bool.and_eq_true, Bool.and_eq_true] at q; exact absurd q.1.2 (by decide)), rv_pick]
  first
    | exact wpAny_bind (m := Builtin.Tuple.tupleExact _) (wpAny_newObj_type (wpAny_pure ⟨_, rfl, wpAny_pure h⟩) ok)
    | exact wpAny_bind (m := Builtin.Tuple.tupleExact _) (wpAny_newObj_type (wpAny_bind (wpAny_pure (wpAny_pure ⟨_, rfl, wpAny_pure h⟩))) ok)
    | exact wpAny_bind (wpAny_bind (m := Builtin.Tuple.tupleExact _) (wpAny_newObj_type (wpAny_pure (wpAny_pure ⟨_, rfl, wpAny_pure h⟩)) ok))
    | exact wpAny_bind (wpAny_bind (m := Builtin.Tuple.tupleExact _) (wpAny_newObj_type (wpAny_pure ⟨_, rfl, wpAny_pure h⟩) ok))
end
def tRevA (K : PySem.W.Frag) (te : TE) : TE := fun σ H Q => te σ H fun x H1 => ∃ a xs, x = .ref a ∧ ((SqL K H1 a xs ∧ ∀ p, H1 p = none → Q (.ref p) (upd H1 p (.lst xs.reverse))) ∨ (SqT K H1 a xs ∧ ∀ p, H1 p = none → Q (.ref p) (upd H1 p (.tup xs.reverse))))
section
variable {X : Cx} {G : Gi} {W : WX} {e : Expr} {te : TE} {m : M O} {k : Nat} {p1 p2 p3 pos : Pos}
theorem pe_revA (he : PE X e te) : PE X (.Subscript e (.Slice none none (some (.UnaryOp .USub (.Constant (.int 1) k p1) p2)) p3) pos) (tRevA X.K te) := by
  refine ⟨fun pins s σ H Q I h => Subscript_ (thn (he.run pins s σ H _ I h) fun v s1 ⟨x, H1, I1, r1, a, xs, ex, q⟩ => ?_)⟩
  subst ex
  cases r1
  have hst : PO X (some (.UnaryOp .USub (.Constant (.int 1) k p1) p2)) (tPart (tUn (rU fun i => .int (-i)) (tC (.int 1)))) := po_some (pe_un un_neg pe_int)
  refine wpAny_Slice (thn (po_none.run pins s1 σ H1 (fun o H2 => o = none ∧ H2 = H1) I1 ⟨rfl, rfl⟩) fun vl s2 ⟨l, H2, I2, pl, el, e2⟩ => ?_)
  subst el e2
  refine thn (po_none.run pins s2 σ H2 (fun o H3 => o = none ∧ H3 = H2) I2 ⟨rfl, rfl⟩) fun vu s3 ⟨u, H3, I3, pu, eu, e3⟩ => ?_
  subst eu e3
  refine thn (hst.run pins s3 σ H3 (fun o H4 => o = some (-1) ∧ H4 = H3) I3 ⟨1, rfl, -1, rfl, rfl, rfl⟩) fun vs s4 ⟨o, H4, I4, ps, eo, e4⟩ => ?_
  subst eo e4
  have I5 : Inv X pins σ H4 { s4 with heap := s4.heap.push { cls := .type "slice", data := .fields #[vl, vu, vs] } } := I4.kept (t' := s4.toks) fun b ob q => Heap.get?_push_of_some _ q
  show wpAny (model X.prog X.w) X.A (subscriptTail e (.Slice none none (some (.UnaryOp .USub (.Constant (.int 1) k p1) p2)) p3) (.ref a) (.ref s4.heap.objs.size)) (EP X pins σ Q) X.xe { s4 with heap := s4.heap.push { cls := .type "slice", data := .fields #[vl, vu, vs] } }
  cases pl
  cases pu
  rcases q with ⟨hx, q⟩ | ⟨hx, q⟩
  · obtain ⟨its, r, ht, hz⟩ := I5.list hx
    have hlen := r.length
    refine tail_any (ops := [.ref a, .ref s4.heap.objs.size]) ht.isList.typeIs (PySem.slot_list_getitem.lookup) (wpAny_getItem_list_slice ht.isList (Heap.IsSliceOf.new _ .none .none vs) .none .none ps (by decide) ?_ (by rw [List.size_toArray]; omega)) (by with_unfolding_all rfl)
    rw [PySem.W.krv_pick]
    exact ⟨.ref _, _, I5.laid (t' := s4.toks) (o := .lst xs.reverse) (fun b ob q => Heap.get?_push_of_some _ q) (Nat.le_refl _) ⟨by rw [List.length_reverse]; exact hz, _, 0, r.reverse, Heap.get?_push_size _ rfl⟩, rfl, q _ (I5.hok.fresh (Nat.le_refl _))⟩
  · obtain ⟨its, r, ht, hz⟩ := I5.tuple hx
    refine tail_any (ops := [.ref a, .ref s4.heap.objs.size]) ht.typeIs PyProof.Rows.slot_tuple_getitem.lookup (rv_get ht (Heap.IsSliceOf.new _ .none .none vs) ps ?_ (by rw [List.size_toArray, ← r.length]; exact hz)) (by with_unfolding_all rfl)
    exact ⟨.ref _, _, I5.laid (t' := s4.toks) (o := .tup xs.reverse) (fun b ob q => Heap.get?_push_of_some _ q) (Nat.le_refl _) ⟨by rw [List.length_reverse]; exact hz, _, r.reverse, IsTup.new _ _⟩, rfl, q _ (I5.hok.fresh (Nat.le_refl _))⟩
/-- xs[::-1] of lists and tuples -/
def rvD : D → Option O
  | .lst ds => some (.lst ds.reverse)
  | .lsk ds => some (.lst ds.reverse)
  | .tup ds => some (.fz (.tup ds.reverse))
  | .tuk ds => some (.fz (.tup ds.reverse))
  | _ => none
def rRevA (K : PySem.W.Frag) : V → Hp → VK → Prop := fun x H1 Q => ∃ a xs, x = .ref a ∧ ((SqL K H1 a xs ∧ ∀ p, H1 p = none → Q (.ref p) (upd H1 p (.lst xs.reverse))) ∨ (SqT K H1 a xs ∧ ∀ p, H1 p = none → Q (.ref p) (upd H1 p (.tup xs.reverse))))
theorem d_rv : UnD G (rRevA G.K) rvD := by
  intro st σ c x ox fx o Q r tx e q
  have vx := own_view r tx
  generalize ox.toD = dx at *
  unfold rvD at e
  split at e
  · cases e; obtain ⟨a, xs, rfl, hx, rx⟩ := vx; exact ⟨a, xs, rfl, .inl ⟨.inl (.inl hx), finL r rx.rev q⟩⟩
  · cases e; obtain ⟨a, xs, rfl, hx, rx⟩ := vx; exact ⟨a, xs, rfl, .inl ⟨hx, finL r rx.rev q⟩⟩
  · cases e; obtain ⟨a, xs, rfl, hx, rx, _⟩ := vx; exact ⟨a, xs, rfl, .inr ⟨hx, finT r rx.rev q⟩⟩
  · cases e; obtain ⟨a, xs, rfl, hx, rx⟩ := vx; exact ⟨a, xs, rfl, .inr ⟨hx, finT r rx.rev q⟩⟩
  · cases e
theorem x_revA (hK : X.K = G.K) (he : PE X e (tLa G W m)) : PE X (.Subscript e (.Slice none none (some (.UnaryOp .USub (.Constant (.int 1) k p1) p2)) p3) pos) (tO G W (xUn rvD m)) :=
  (pe_revA he).weak fun σ H Q q => by
    rw [hK]
    exact un_t d_rv q
end
theorem sk_rvl {ds : List D} : rvD (.lst ds) = some (.lst ds.reverse) := rfl
theorem sk_rvt {ds : List D} : rvD (.tup ds) = some (.fz (.tup ds.reverse)) := rfl
end L2.Tr
/-! x in xs, where the members are data of any depth -/
namespace L2.Tr
open PySem PySem.Spec PyProof.Rows L2 L2.Pc
theorem hu65 {k : Nat} {A : Around} (r : Room k A) : A.units + 65 < cLine := by have := r.un; omega
def rInE (K : PySem.W.Frag) (neg : Bool) : R2 := fun x y H Q => ∃ d e ds, Dp K H x d ∧ Dp K H y e ∧ (e = .list ds ∨ e = .tuple ds) ∧ SeqAt.shaped d = true ∧ PyData.canLayAll0 ds = true ∧ Q (.bl ((ds.any fun z => PyData.eqv z d) != neg)) H
section
variable {X : Cx} {G : Gi}
theorem op_inE (neg : Bool) (hu : X.A.units + 65 < cLine) : OpR X (compareOp (inOpB neg)) (rInE X.K neg) := by
  intro pins s σ H x y v u Q I rx ry h
  obtain ⟨d, e, ds, hd, he, hs, sd, se, q⟩ := h
  obtain ⟨as, r1⟩ := Dp.reads I d x v hd rx
  obtain ⟨bs, r2⟩ := Dp.reads I e y u he ry
  rcases hs with rfl | rfl
  · cases neg
    · exact SeqAt.in_list_reads r2 r1 se (SeqAt.canLay_of_shaped sd) (room_in_shaped sd hu) ⟨.bl _, H, I, rfl, by simpa using q⟩
    · exact SeqAt.notIn_list_reads r2 r1 se (SeqAt.canLay_of_shaped sd) (room_in_shaped sd hu) ⟨.bl _, H, I, rfl, by simpa using q⟩
  · cases neg
    · exact SeqAt.in_tuple_reads r2 r1 se (SeqAt.canLay_of_shaped sd) (room_in_shaped sd hu) ⟨.bl _, H, I, rfl, by simpa using q⟩
    · exact SeqAt.notIn_tuple_reads r2 r1 se (SeqAt.canLay_of_shaped sd) (room_in_shaped sd hu) ⟨.bl _, H, I, rfl, by simpa using q⟩
theorem k_ninE (hK : X.K = G.K) (hu : X.A.units + 65 < cLine) : OpR X (compareOp .NotIn) (rInE G.K true) := by rw [← hK]; exact op_inE true hu
def inEB (x y : D) : Option Bool := match D.py false x, D.py false y with
  | some d, some (.list ds) => if SeqAt.shaped d = true ∧ PyData.canLayAll0 ds = true then some (ds.any fun z => PyData.eqv z d) else none
  | some d, some (.tuple ds) => if SeqAt.shaped d = true ∧ PyData.canLayAll0 ds = true then some (ds.any fun z => PyData.eqv z d) else none
  | _, _ => none
def inED (neg : Bool) (x y : D) : Option O := (inEB x y).map fun b => .fz (.bl (b != neg))
theorem d_inE (neg : Bool) : OpD G (rInE G.K neg) (inED neg) := by
  intro st σ c x y ox oy fx fy o Q r tx ty e q
  obtain ⟨b, h1, rfl⟩ := map_some e
  unfold inEB at h1
  split at h1
  · rename_i d ds e1 e2
    split at h1
    · rename_i hf
      cases h1
      exact ⟨d, _, ds, own_dp r tx e1, own_dp r ty e2, .inl rfl, hf.1, hf.2, fin r (.bl _) q⟩
    · cases h1
  · rename_i d ds e1 e2
    split at h1
    · rename_i hf
      cases h1
      exact ⟨d, _, ds, own_dp r tx e1, own_dp r ty e2, .inr rfl, hf.1, hf.2, fin r (.bl _) q⟩
    · cases h1
  · cases h1
end
end L2.Tr
/-! max of a list of data that are alike (pairs) -/
namespace L2.Tr
open PySem PySem.Spec PyProof.Rows L2 L2.Pc
end L2.Tr
/-! a, b, c = (.., .., ..) by a tuple in between, what is owned kept -/
namespace L2.Tr
open PySem PySem.Spec PyProof.Rows L2 L2.Pc
end L2.Tr
/-! dict(xs), xs a list of pairs whose keys are numbers or texts, all different -/
namespace L2.Tr
open PySem PySem.Spec PyProof.Rows L2 L2.Pc
end L2.Tr
/-! what stands in a slot is frozen once the things to walk are at hand -/
namespace L2.Tr
open PySem PySem.Spec PyProof.Rows L2 L2.Pc
def frzO (s : S) (i : Nat) : S := match getS s.env i with
  | some o => ⟨setS s.env i (some (.fz o.toD)), s.mu⟩
  | none => s
def fzK (i : Nat) (ds : List D) : M (List D) := fun s => .ok ds (frzO s i)
def mFz (i : Nat) (it : M (List D)) : M (List D) := bnd it (fzK i)
theorem sk_fz {i : Nat} {it : M (List D)} {env : List (Option O)} {mu : List O} : mFz i it ⟨env, mu⟩ = (it ⟨env, mu⟩).bind (fzK i) := rfl
theorem sk_fzK {i : Nat} {ds : List D} {env : List (Option O)} {mu : List O} : fzK i ds ⟨env, mu⟩ = (match getS env i with | some o => .ok ds ⟨setS env i (some (.fz o.toD)), mu⟩ | none => .ok ds ⟨env, mu⟩) := by
  show Tr.R.ok ds (frzO ⟨env, mu⟩ i) = _
  unfold frzO
  cases getS env i <;> rfl
end L2.Tr
/-! len(set(xs)), xs a list or tuple of texts that all differ -/
namespace L2.Tr
open PySem PySem.Spec PyProof.Rows L2 L2.Pc
end L2.Tr
/-! zip(t, l), t a tuple and l a list: what the call makes and its turns -/
namespace L2.Tr
open PySem PySem.Spec PyProof.Rows L2 L2.Pc
end L2.Tr
namespace L2.Tr
open PySem PySem.Spec PyProof.Rows L2 L2.Pc
/-! ### cells by their numbers -/
section
variable {G : Gi}
/-- what a value stands for: itself, or what its cell holds -/
def derO (mu : List O) : O → Option O
  | .fz (.cel n) => getM mu n
  | o => some o
variable {X : Cx} {W : WX} {e e2 a b : Expr} {m : M O} {ma mb md mk : M D} {pos pos' apos cpos : Pos}
/-- read through a cell -/
def xDr (m : M O) : M O := bnd m fun o s => match derO s.mu o with
  | some o' => .ok o' s
  | none => .no
/-- an operator whose left operand is a cell, perhaps, read when both stand -/
def xOpD (g : D → D → Option O) (ma : M D) (mb : M O) : M O := bnd ma fun x => bnd mb fun y s => match derO s.mu (.fz x) with
  | some ox => ofO (g ox.toD y.toD) s
  | none => .no
end
/-! ### walks over what a cell holds, as long as it stays -/
section
variable {G : Gi}
abbrev Cw := Nat × O × List D
open Classical in
noncomputable def forCL (n : Nat) (o : O) (t : MT) (mb : M Fl) : List D → M Fl
  | [] => fun s => if getM s.mu n = some o then .ok .nx s else .no
  | d :: ds => fun s => if getM s.mu n = some o then (match t d s with
    | none => .no
    | some s1 => (mb s1).bind fun f => match f with
      | .nx => forCL n o t mb ds
      | .ct => forCL n o t mb ds
      | .bk => ret .nx
      | .rt o => ret (.rt o)) else .no
noncomputable def sForC (mi : M Cw) (t : MT) (mb : M Fl) : M Fl := bnd mi fun p => forCL p.1 p.2.1 t mb p.2.2
variable {X : Cx} {W : WX} {tg iter e : Expr} {body : List Stmt} {mi : M Cw} {t : MT} {mb : M Fl} {g : TG} {p pos : Pos} {md : M D} {ma : M (List D)}
/-- a cell's list walked -/
def mCel (md : M D) : M Cw := bnd md fun d s => match d with
  | .cel n => (match getM s.mu n with
    | some (.lst ds) => .ok (n, .lst ds, ds) s
    | _ => .no)
  | _ => .no
/-- enumerate of a cell's list -/
def mEnC (ma : M (List D)) : M Cw := bnd ma fun l s => match l with
  | [.cel n] => (match getM s.mu n with
    | some (.lst ds) => .ok (n, .lst ds, numD 0 ds) s
    | _ => .no)
  | _ => .no
/-! comprehensions -/
open Classical in
noncomputable def lcCL (n : Nat) (o : O) (vs : List Nat) (t : MT) (mt : M Bool) (me : M D) : List D → M (List D)
  | [] => fun s => if getM s.mu n = some o then .ok [] s else .no
  | d :: ds => fun s => if getM s.mu n = some o then (match t d s with
    | none => .no
    | some s1 => (mt s1).bind fun b s2 =>
      if b = true then (me s2).bind (fun y s3 => if freeE s3.env vs = true then (lcCL n o vs t mt me ds ⟨wipeE s3.env vs, s3.mu⟩).bind fun ys => ret (y :: ys) else .no)
      else if freeE s2.env vs = true then lcCL n o vs t mt me ds ⟨wipeE s2.env vs, s2.mu⟩ else .no) else .no
noncomputable def xLcC (vs : List Nat) (mi : M Cw) (t : MT) (mt : M Bool) (me : M D) : M O := bnd mi fun p s => if freeE s.env vs = true ∧ p.2.2.length ≤ 16777216 then
  (noExc (lcCL p.1 p.2.1 vs t mt me p.2.2 ⟨wipeE s.env vs, s.mu⟩)).bind fun ys s2 => .ok (.lst ys) ⟨backE s.env s2.env vs, s2.mu⟩ else .no
end
end L2.Tr
namespace L2.Tr
open PySem PySem.Spec PyProof.Rows L2 L2.Pc
/-! ### dicts: pop, d[k] -= e, sorted(d) -/
section
variable {X : Cx} {G : Gi} {W : WX} {e e2 : Expr} {i : Nat} {x : Str} {px pos pos' apos cpos : Pos} {mk : M D} {mb : M O}
def dropKD (k : Key) : List (D × D) → List (D × D)
  | [] => []
  | (d, x) :: r => if keyOfD d = some k then dropKD k r else (d, x) :: dropKD k r
/-- x.pop(k) of a dict -/
def xPopK (i : Nat) (mk : M D) : M O := fun s => match getS s.env i with
  | some (.fz (.cel n)) => (match getM s.mu n with
    | some (.dct _) => (mk s).bind fun k s1 => (match getS s1.env i, keyOfD k with
      | some (.fz (.cel n')), some ks => if n' = n then (match getM s1.mu n with
        | some (.dct kvs) => (match getKD ks kvs with
          | some y => .ok (.fz y) ⟨s1.env, setM s1.mu n (.dct (dropKD ks kvs))⟩
          | none => .no)
        | _ => .no) else .no
      | _, _ => .no)
    | _ => .no)
  | _ => .no
/-- d[k] -= e and its like, k a tuple -/
def augTAt (g : D → D → Option O) (i : Nat) (mk : M D) (mb : M O) : M Fl := fun s => match dctS s i with
  | none => .no
  | some _ => (mk s).bind fun k s2 => match dctS s2 i, tkeyD k with
    | some kvs, some ks => (match getTD ks kvs with
      | some v => (mb s2).bind fun oy s3 => (match g v oy.toD, getP s3 i with
        | some (.fz z), some (.dcu kvs3) => if kvs3.length < 16777216 then .ok .nx (putP s3 i (.dcu (putTD ks z kvs3))) else .no
        | _, _ => .no)
      | none => .no)
    | _, _ => .no
/-! comparisons whose left operand is a cell, perhaps -/
variable {a b : Expr} {ma md : M D}
/-! list(range(n)) -/
def xLstRg (md : M D) : M O := bnd md fun d s => match d with
  | .int n => if n < 16777216 ∧ -(2 ^ 62) ≤ n then .ok (.lst (rngL 0 n.toNat)) s else .no
  | _ => .no
/-! x.remove(e), numbers -/
def sRem (i : Nat) (md : M D) : M Fl := fun s => match getP s i with
  | some (.lst _) => (md s).bind fun d s1 => match getP s1 i, d with
    | some (.lst xs), .int k => (match allM intD' xs with
      | some ns => if k ∈ ns then .ok .nx (putP s1 i (.lst ((ns.erase k).map .int))) else .no
      | none => .no)
    | _, _ => .no
  | _ => .no
/-! sorted(d), d a dict with numbers as keys -/
def xSrtK (i : Nat) : M O := fun s => match getP s i with
  | some (.dct kvs) => (match allM intD' (kvs.map (·.1)) with
    | some ns => if ns.length < 64 then .ok (.lst ((isortB ltI ns).map .int)) s else .no
    | none => .no)
  | _ => .no
end
/-! sorted(xs), texts -/
def ltS (a b : Str) : Bool := decide (a.cps.toList < b.cps.toList)
def strD' : D → Option Str
  | .str a => some a
  | _ => none
theorem rpA_ofStrs {G : Gi} {F : Hp} {al : List Addr} : ∀ ns : List Str, RpA G F al (ns.map V.str) (ns.map .str)
  | [] => .nil
  | n :: ns => .cons (.str n) (rpA_ofStrs ns)
end L2.Tr
namespace L2.Tr
open PySem PySem.Spec PyProof.Rows L2 L2.Pc
/-! ### steps: cells walked, dicts -/
section
variable {env : List (Option O)} {mu : List O} {i n : Nat} {mk md ma : M D} {mb m : M O} {kvs : List (D × D)} {j : Int} {x : Str} {d : D} {g : D → D → Option O} {mi : M Cw} {t : MT} {mbd : M Fl} {mal : M (List D)}
def srtO (kvs : List (D × D)) : Option O := match allM intD' (kvs.map (·.1)) with
  | some ns => if ns.length < 64 then some (.lst ((isortB ltI ns).map .int)) else none
  | none => none
theorem sk_srtK : xSrtK i ⟨env, mu⟩ = (match getP ⟨env, mu⟩ i with | some (.dct kvs) => ofO (srtO kvs) ⟨env, mu⟩ | _ => .no) := by
  unfold xSrtK
  cases getP ⟨env, mu⟩ i with
  | none => rfl
  | some o =>
    cases o with
    | dct kvs =>
      dsimp only
      unfold srtO
      cases allM intD' (kvs.map (·.1)) with
      | none => rfl
      | some ns =>
        dsimp only
        by_cases h : ns.length < 64
        · rw [if_pos h, if_pos h]; rfl
        · rw [if_neg h, if_neg h]; rfl
    | _ => rfl
def popKK (i n : Nat) (k : D) : M O := fun s1 => (match getS s1.env i, keyOfD k with
      | some (.fz (.cel n')), some ks => if n' = n then (match getM s1.mu n with
        | some (.dct kvs) => (match getKD ks kvs with
          | some y => .ok (.fz y) ⟨s1.env, setM s1.mu n (.dct (dropKD ks kvs))⟩
          | none => .no)
        | _ => .no) else .no
      | _, _ => .no)
theorem sk_popK : xPopK i mk ⟨env, mu⟩ = (match getS env i with | some (.fz (.cel n)) => (match getM mu n with | some (.dct _) => (mk ⟨env, mu⟩).bind (popKK i n) | _ => .no) | _ => .no) := rfl
theorem sk_popKi : popKK i n (.int j) ⟨env, mu⟩ = (match getS env i with | some (.fz (.cel n')) => (if n' = n then (match getM mu n with | some (.dct kvs) => (match getKD (.inl j) kvs with | some y => .ok (.fz y) ⟨env, setM mu n (.dct (dropKD (.inl j) kvs))⟩ | none => .no) | _ => .no) else .no) | _ => .no) := by
  unfold popKK
  show (match getS env i, keyOfD (.int j) with | some (.fz (.cel n')), some ks => _ | _, _ => _) = _
  cases getS env i with
  | none => rfl
  | some o => cases o with
    | fz d => cases d <;> rfl
    | _ => rfl
theorem sk_popKs : popKK i n (.str x) ⟨env, mu⟩ = (match getS env i with | some (.fz (.cel n')) => (if n' = n then (match getM mu n with | some (.dct kvs) => (match getKD (.inr x) kvs with | some y => .ok (.fz y) ⟨env, setM mu n (.dct (dropKD (.inr x) kvs))⟩ | none => .no) | _ => .no) else .no) | _ => .no) := by
  unfold popKK
  show (match getS env i, keyOfD (.str x) with | some (.fz (.cel n')), some ks => _ | _, _ => _) = _
  cases getS env i with
  | none => rfl
  | some o => cases o with
    | fz d => cases d <;> rfl
    | _ => rfl
def remK (i : Nat) (d : D) : M Fl := fun s1 => match getP s1 i, d with
    | some (.lst xs), .int k => (match allM intD' xs with
      | some ns => if k ∈ ns then .ok .nx (putP s1 i (.lst ((ns.erase k).map .int))) else .no
      | none => .no)
    | _, _ => .no
theorem sk_rem : sRem i md ⟨env, mu⟩ = (match getP ⟨env, mu⟩ i with | some (.lst _) => (md ⟨env, mu⟩).bind (remK i) | _ => .no) := rfl
theorem sk_remi : remK i (.int j) ⟨env, mu⟩ = (match getP ⟨env, mu⟩ i with | some (.lst xs) => (match allM intD' xs with | some ns => if j ∈ ns then .ok .nx (putP ⟨env, mu⟩ i (.lst ((ns.erase j).map .int))) else .no | none => .no) | _ => .no) := by
  unfold remK
  cases getP ⟨env, mu⟩ i with
  | none => rfl
  | some o => cases o <;> rfl
def lstRgK (d : D) : M O := fun s => match d with
  | .int n => if n < 16777216 ∧ -(2 ^ 62) ≤ n then .ok (.lst (rngL 0 n.toNat)) s else .no
  | _ => .no
theorem sk_lstRg : xLstRg md ⟨env, mu⟩ = (md ⟨env, mu⟩).bind lstRgK := rfl
theorem sk_lstRgi : lstRgK (.int j) ⟨env, mu⟩ = if j < 16777216 ∧ -4611686018427387904 ≤ j then .ok (.lst (rngL 0 j.toNat)) ⟨env, mu⟩ else .no := rfl
def augTKk (g : D → D → Option O) (i : Nat) (mb : M O) (k : D) : M Fl := fun s2 => match dctS s2 i, tkeyD k with
    | some kvs, some ks => (match getTD ks kvs with
      | some v => (mb s2).bind fun oy s3 => (match g v oy.toD, getP s3 i with
        | some (.fz z), some (.dcu kvs3) => if kvs3.length < 16777216 then .ok .nx (putP s3 i (.dcu (putTD ks z kvs3))) else .no
        | _, _ => .no)
      | none => .no)
    | _, _ => .no
def augTKz (g : D → D → Option O) (i : Nat) (ks : List Key) (v : D) (oy : O) : M Fl := fun s3 => match g v oy.toD, getP s3 i with
        | some (.fz z), some (.dcu kvs3) => if kvs3.length < 16777216 then .ok .nx (putP s3 i (.dcu (putTD ks z kvs3))) else .no
        | _, _ => .no
theorem sk_augT : augTAt g i mk mb ⟨env, mu⟩ = (match dctS ⟨env, mu⟩ i with | some _ => (mk ⟨env, mu⟩).bind (augTKk g i mb) | none => .no) := by
  unfold augTAt
  cases dctS ⟨env, mu⟩ i <;> rfl
theorem sk_augT2 {a b : Int} : augTKk g i mb (.tup [.int a, .int b]) ⟨env, mu⟩ = (match dctS ⟨env, mu⟩ i with | some kvs => (match getTD [.inl a, .inl b] kvs with | some v => (mb ⟨env, mu⟩).bind (augTKz g i [.inl a, .inl b] v) | none => .no) | none => .no) := by
  unfold augTKk
  cases dctS ⟨env, mu⟩ i <;> rfl
theorem sk_augTz {ks : List Key} {v : D} {oy : O} : augTKz g i ks v oy ⟨env, mu⟩ = (match g v oy.toD with | some (.fz z) => (match getP ⟨env, mu⟩ i with | some (.dcu kvs3) => if kvs3.length < 16777216 then .ok .nx (putP ⟨env, mu⟩ i (.dcu (putTD ks z kvs3))) else .no | _ => .no) | _ => .no) := by
  unfold augTKz
  cases g v oy.toD with
  | none => rfl
  | some o =>
    cases o with
    | fz z =>
      dsimp only
      cases getP ⟨env, mu⟩ i with
      | none => rfl
      | some o => cases o <;> rfl
    | _ => rfl
def drK (o : O) : M O := fun s => match derO s.mu o with
  | some o' => .ok o' s
  | none => .no
theorem sk_dr : xDr m ⟨env, mu⟩ = (m ⟨env, mu⟩).bind drK := rfl
def opDk (g : D → D → Option O) (x : D) (y : O) : M O := fun s => match derO s.mu (.fz x) with
  | some ox => ofO (g ox.toD y.toD) s
  | none => .no
theorem sk_opD : xOpD g ma mb ⟨env, mu⟩ = (ma ⟨env, mu⟩).bind fun x => bnd mb (opDk g x) := rfl
theorem sk_opDk {y : O} : opDk g d y ⟨env, mu⟩ = (match derO mu (.fz d) with | some ox => ofO (g ox.toD y.toD) ⟨env, mu⟩ | none => .no) := rfl
theorem sk_der : derO mu (.fz (.cel n)) = getM mu n := rfl
theorem sk_forC : sForC mi t mbd ⟨env, mu⟩ = (mi ⟨env, mu⟩).bind fun p => forCL p.1 p.2.1 t mbd p.2.2 := rfl
def celK' (d : D) : M Cw := fun s => match d with
  | .cel n => (match getM s.mu n with
    | some (.lst ds) => .ok (n, .lst ds, ds) s
    | _ => .no)
  | _ => .no
theorem sk_mCel : mCel md ⟨env, mu⟩ = (md ⟨env, mu⟩).bind celK' := rfl
theorem sk_mCelk : celK' (.cel n) ⟨env, mu⟩ = (match getM mu n with | some (.lst ds) => .ok (n, .lst ds, ds) ⟨env, mu⟩ | _ => .no) := rfl
def enCk (l : List D) : M Cw := fun s => match l with
  | [.cel n] => (match getM s.mu n with
    | some (.lst ds) => .ok (n, .lst ds, numD 0 ds) s
    | _ => .no)
  | _ => .no
theorem sk_mEnC : mEnC mal ⟨env, mu⟩ = (mal ⟨env, mu⟩).bind enCk := rfl
theorem sk_mEnCk : enCk [.cel n] ⟨env, mu⟩ = (match getM mu n with | some (.lst ds) => .ok (n, .lst ds, numD 0 ds) ⟨env, mu⟩ | _ => .no) := rfl
end
/-! a slot's thing made a cell; pop; lists compared with [] -/
section
variable {env : List (Option O)} {mu : List O} {i n : Nat} {m : M Fl} {me : M O} {neg : Bool} {k : Int} {o o' o2 : O} {d : D} {xs : List D} {kvs : List (D × D)} {c : Str} {fs : List (Str × O)}
theorem sk_cel : sCel i m ⟨env, mu⟩ = (m ⟨env, mu⟩).bind (celK i) := rfl
theorem sk_celn : celK i .nx ⟨env, mu⟩ = (match getS env i with | some o => if cellO o = true then .ok .nx ⟨setS env i (some (.fz (.cel mu.length))), mu ++ [o]⟩ else .no | none => .no) := rfl
theorem sk_celr : celK i (.rt o) ⟨env, mu⟩ = .ok (.rt o) ⟨env, mu⟩ := rfl
theorem sk_col : cellO (.lst xs) = true := rfl
theorem sk_cod : cellO (.dct kvs) = true := rfl
theorem sk_cou : cellO (.dcu kvs) = true := rfl
theorem sk_coi : cellO (.ins c fs) = true := rfl
def popLK (i n : Nat) (o : O) : M O := fun s1 => (match getS s1.env i, getM s1.mu n, o.toD with
      | some (.fz (.cel n')), some (.lst xs), .int k => if n' = n ∧ -(2 ^ 63) ≤ k ∧ k < 2 ^ 63 then (match seqIndex? k xs.length with
        | some j => (match xs[j]? with
          | some y => .ok (.fz y) ⟨s1.env, setM s1.mu n (.lst (xs.eraseIdx j))⟩
          | none => .no)
        | none => .no) else .no
      | _, _, _ => .no)
theorem sk_pop : xPop i me ⟨env, mu⟩ = (match getS env i with | some (.fz (.cel n)) => (match getM mu n with | some (.lst _) => (me ⟨env, mu⟩).bind (popLK i n) | _ => .no) | _ => .no) := rfl
theorem sk_popi : popLK i n (.fz (.int k)) ⟨env, mu⟩ = (match getS env i with | some (.fz (.cel n')) => (match getM mu n with | some (.lst xs) => (if n' = n ∧ -9223372036854775808 ≤ k ∧ k < 9223372036854775808 then (match seqIndex? k xs.length with | some j => (match xs[j]? with | some y => .ok (.fz y) ⟨env, setM mu n (.lst (xs.eraseIdx j))⟩ | none => .no) | none => .no) else .no) | _ => .no) | _ => .no):= by
  unfold popLK
  rw [st_tdf]
  cases getS env i with
  | none => rfl
  | some a => cases a with
    | fz d => cases d with
      | cel n' => cases getM mu n with
        | none => rfl
        | some b => cases b <;> rfl
      | _ => rfl
    | _ => rfl
theorem sk_nilD : nilD neg (.lst xs) (.lst []) = some (.fz (.bl (xs.isEmpty != neg))) := rfl
theorem sk_nil : xNil neg i ⟨env, mu⟩ = (match getS env i with | some (.fz (.cel n)) => (match getM mu n with | some (.lst xs) => .ok (.fz (.bl (xs.isEmpty != neg))) ⟨env, mu⟩ | _ => .no) | _ => .no) := rfl
theorem gap1 : ∀ (mu : List O) (o : O), getM (mu ++ [o]) mu.length = some o
  | [], _ => rfl
  | _ :: mu, o => gap1 mu o
theorem sk_gap : getM (mu ++ [o]) mu.length = some o := gap1 mu o
theorem sap1 : ∀ (mu : List O) (o o' : O), setM (mu ++ [o]) mu.length o' = mu ++ [o']
  | [], _, _ => rfl
  | x :: mu, o, o' => by show x :: setM (mu ++ [o]) mu.length o' = _; rw [sap1 mu o o']; rfl
theorem sk_sap : setM (mu ++ [o]) mu.length o' = mu ++ [o'] := sap1 mu o o'
theorem gap2 : ∀ (mu : List O) (o o2 : O), getM (mu ++ [o] ++ [o2]) mu.length = some o
  | [], _, _ => rfl
  | _ :: mu, o, o2 => gap2 mu o o2
theorem sk_gap2 : getM (mu ++ [o] ++ [o2]) mu.length = some o := gap2 mu o o2
theorem sap2 : ∀ (mu : List O) (o o2 o' : O), setM (mu ++ [o] ++ [o2]) mu.length o' = mu ++ [o'] ++ [o2]
  | [], _, _, _ => rfl
  | x :: mu, o, o2, o' => by show x :: setM (mu ++ [o] ++ [o2]) mu.length o' = _; rw [sap2 mu o o2 o']; rfl
theorem sk_sap2 : setM (mu ++ [o] ++ [o2]) mu.length o' = mu ++ [o'] ++ [o2] := sap2 mu o o2 o'
end
/-! ### rules -/
section
variable {env : List (Option O)} {mu : List O} {vs : List Nat} {t : MT} {mt : M Bool} {me : M D} {mi : M Cw} {n : Nat} {o : O} {ds : List D}
noncomputable def lcCK (vs : List Nat) (t : MT) (mt : M Bool) (me : M D) (p : Cw) : M O := fun s => if freeE s.env vs = true ∧ p.2.2.length ≤ 16777216 then
  (noExc (lcCL p.1 p.2.1 vs t mt me p.2.2 ⟨wipeE s.env vs, s.mu⟩)).bind (lcB s.env vs) else .no
theorem sk_lcC : xLcC vs mi t mt me ⟨env, mu⟩ = (mi ⟨env, mu⟩).bind (lcCK vs t mt me) := rfl
theorem sk_lcCK : lcCK vs t mt me (n, o, ds) ⟨env, mu⟩ = if freeE env vs = true ∧ ds.length ≤ 16777216 then (noExc (lcCL n o vs t mt me ds ⟨wipeE env vs, mu⟩)).bind (lcB env vs) else .no := rfl
end
end L2.Tr
namespace L2.Tr
open PySem PySem.Spec PyProof.Rows L2 L2.Pc
/-! ### sorted(t), t a tuple of texts -/
/-! ### len(set(xs)), xs a list of numbers -/
theorem sk_nnt {ds : List D} : isNon (.tup ds) = false := rfl
theorem sk_nnl {ds : List D} : isNon (.lst ds) = false := rfl
theorem sk_nni {c : Str} {fs : List (Str × D)} : isNon (.ins c fs) = false := rfl
theorem sk_nnb {b : Bool} : isNon (.bl b) = false := rfl
end L2.Tr
namespace L2.Tr
open PySem PySem.Spec PyProof.Rows L2 L2.Pc
/-! {k: e}, e any expression -/
def xDispK (fk : S → Option D) (md : M D) : M O := fun s => match fk s with
  | some kd => (match keyOfD kd with
    | some _ => (md s).bind fun d => ret (.dct [(kd, d)])
    | none => .no)
  | none => .no
/-! bool(x) -/
def boolD : D → Option O
  | .int i => some (.fz (.bl (i != 0)))
  | .bl b => some (.fz (.bl b))
  | _ => none
section
variable {env : List (Option O)} {mu : List O} {x : Str} {md : M D} {i : Int}
theorem sk_booli : boolD (.int i) = some (.fz (.bl (i != 0))) := rfl
theorem sk_dispK : xDispK (fun _ => some (.str x)) md ⟨env, mu⟩ = (md ⟨env, mu⟩).bind fun d => ret (.dct [(.str x, d)]) := rfl
end
end L2.Tr
namespace L2
open PySem PySem.Spec PyProof.Rows
/-! ### setdefault, tuple keys -/
end L2
namespace L2.Tr
open PySem PySem.Spec PyProof.Rows L2 L2.Pc
/-! ### dicts with tuple keys whose entries are owned -/
def getV (ks : List Key) : List (D × O) → Option O
  | [] => none
  | (d, o) :: r => if tkeyD d = some ks then some o else getV ks r
/-- the first entry of a key exchanged -/
def setV (ks : List Key) (o' : O) : List (D × O) → List (D × O)
  | [] => []
  | (d, o) :: r => if tkeyD d = some ks then (d, o') :: r else (d, o) :: setV ks o' r
section
variable {X : Cx} {G : Gi} {W : WX} {e e2 : Expr} {i : Nat} {x : Str} {px pos pos' apos apos2 cpos cpos2 lpos : Pos} {mk md : M D}
def sSd2 (i : Nat) (ks : List Key) (md : M D) : M Fl := fun s => match getS s.env i with
  | some (.dcv kvs) => (match getV ks kvs with
    | some (.lst _) => (md s).bind fun d s2 => (match getS s2.env i with
      | some (.dcv kvs2) => (match getV ks kvs2 with
        | some (.lst xs) => if xs.length < 16777216 then .ok .nx ⟨setS s2.env i (some (.dcv (setV ks (.lst (xs ++ [d])) kvs2))), s2.mu⟩ else .no
        | _ => .no)
      | _ => .no)
    | _ => .no)
  | _ => .no
/-- d.setdefault(k, []).append(e), k a tuple -/
def sSdApp (i : Nat) (mk md : M D) : M Fl := fun s => match getS s.env i with
  | some (.dcv _) => (mk s).bind fun k s1 => (match getS s1.env i, tkeyD k with
    | some (.dcv kvs), some ks => if kvs.length < 16777216 then (match getV ks kvs with
        | some _ => sSd2 i ks md s1
        | none => sSd2 i ks md ⟨setS s1.env i (some (.dcv (kvs ++ [(.tup (ks.map kD), .lst [])]))), s1.mu⟩) else .no
    | _, _ => .no)
  | _ => .no
theorem getS_setS : ∀ {env : List (Option O)} {i : Nat} {o x : O}, getS env i = some o → getS (setS env i (some x)) i = some x
  | [], i, _, _, h => by cases i <;> cases h
  | _ :: _, 0, _, _, _ => rfl
  | _ :: env, i + 1, _, _, h => getS_setS (env := env) (i := i) h
/-! steps -/
def sdK (i : Nat) (ks : List Key) (d : D) : M Fl := fun s2 => match getS s2.env i with
  | some (.dcv kvs2) => (match getV ks kvs2 with
    | some (.lst xs) => if xs.length < 16777216 then .ok .nx ⟨setS s2.env i (some (.dcv (setV ks (.lst (xs ++ [d])) kvs2))), s2.mu⟩ else .no
    | _ => .no)
  | _ => .no
def sdK2 (i : Nat) (md : M D) (k : D) : M Fl := fun s1 => match getS s1.env i, tkeyD k with
  | some (.dcv kvs), some ks => if kvs.length < 16777216 then (match getV ks kvs with
      | some _ => sSd2 i ks md s1
      | none => sSd2 i ks md ⟨setS s1.env i (some (.dcv (kvs ++ [(.tup (ks.map kD), .lst [])]))), s1.mu⟩) else .no
  | _, _ => .no
theorem sk_sdApp {env : List (Option O)} {mu : List O} : sSdApp i mk md ⟨env, mu⟩ = (match getS env i with | some (.dcv _) => (mk ⟨env, mu⟩).bind (sdK2 i md) | _ => .no) := rfl
theorem sk_sdK2 {env : List (Option O)} {mu : List O} {a b : Int} : sdK2 i md (.tup [.int a, .int b]) ⟨env, mu⟩ = (match getS env i with
    | some (.dcv kvs) => if kvs.length < 16777216 then (match getV [.inl a, .inl b] kvs with
      | some _ => sSd2 i [.inl a, .inl b] md ⟨env, mu⟩
      | none => sSd2 i [.inl a, .inl b] md ⟨setS env i (some (.dcv (kvs ++ [(.tup [.int a, .int b], .lst [])]))), mu⟩) else .no
    | _ => .no) := by
  unfold sdK2
  cases getS env i with
  | none => rfl
  | some o => cases o <;> rfl
theorem sk_sd2 {env : List (Option O)} {mu : List O} {ks : List Key} : sSd2 i ks md ⟨env, mu⟩ = (match getS env i with | some (.dcv kvs) => (match getV ks kvs with | some (.lst _) => (md ⟨env, mu⟩).bind (sdK i ks) | _ => .no) | _ => .no) := rfl
theorem sk_sdK {env : List (Option O)} {mu : List O} {ks : List Key} {d : D} : sdK i ks d ⟨env, mu⟩ = (match getS env i with
  | some (.dcv kvs2) => (match getV ks kvs2 with
    | some (.lst xs) => if xs.length < 16777216 then .ok .nx ⟨setS env i (some (.dcv (setV ks (.lst (xs ++ [d])) kvs2))), mu⟩ else .no
    | _ => .no)
  | _ => .no) := rfl
theorem sk_isv {kvs : List (D × O)} : isFz (.dcv kvs) = false := rfl
theorem sk_tdv {kvs : List (D × O)} : O.toD (.dcv kvs) = .dcu (O.toDk kvs) := by rw [O.toD]
end
/-! a list, or another one where it is empty -/
section
variable {X : Cx} {G : Gi} {W : WX} {a b : Expr} {ma mb : M O} {pos : Pos}
def orLK (mb : M O) (o : O) : M O := fun s => match o with
  | .lst xs => if xs.isEmpty = true then mb s else .ok (.lst xs) s
  | .fz (.lst xs) => if xs.isEmpty = true then mb s else .ok (.fz (.lst xs)) s
  | _ => .no
def xOrL (ma mb : M O) : M O := bnd ma (orLK mb)
theorem sk_orL {env : List (Option O)} {mu : List O} : xOrL ma mb ⟨env, mu⟩ = (ma ⟨env, mu⟩).bind (orLK mb) := rfl
theorem sk_orLo {env : List (Option O)} {mu : List O} {xs : List D} : orLK mb (.lst xs) ⟨env, mu⟩ = if xs.isEmpty = true then mb ⟨env, mu⟩ else .ok (.lst xs) ⟨env, mu⟩ := rfl
theorem sk_orLf {env : List (Option O)} {mu : List O} {xs : List D} : orLK mb (.fz (.lst xs)) ⟨env, mu⟩ = if xs.isEmpty = true then mb ⟨env, mu⟩ else .ok (.fz (.lst xs)) ⟨env, mu⟩ := rfl
end
end L2.Tr
namespace L2.Tr
open PySem PySem.Spec PyProof.Rows L2 L2.Pc
/-! ### repr of a tuple of tuples of own instances and of data -/
/-- an own instance lies in it -/
inductive UnH (H : Hp) : Addr → Prop
  | ins {a C dx : Addr} {fs : List (Str × V)} : H a = some (.ins C dx fs) → UnH H a
  | tup {a b : Addr} {vs : List V} : H a = some (.tup vs) → V.ref b ∈ vs → UnH H b → UnH H a
theorem readsAll_mem {h : Heap} : ∀ {vs : List Value} {ds : List PyData} {as : List Addr}, ReadsAll h vs ds as → ∀ v ∈ vs, ∃ d as', Reads h v d as'
  | _, _, _, .nil, v, hv => by cases hv
  | _, _, _, .cons r rs, v, hv => by
    rcases List.mem_cons.mp hv with e | hv
    · subst e; exact ⟨_, _, r⟩
    · exact readsAll_mem rs v hv
theorem vals_mem : ∀ {vs : List V} {us : List Value} {b : Addr}, Vals vs us → V.ref b ∈ vs → Value.ref b ∈ us
  | _, _, _, .nil, h => by cases h
  | _, _, _, .cons r rs, h => by
    rcases List.mem_cons.mp h with e | h
    · subst e; cases r; exact List.mem_cons_self
    · exact List.mem_cons_of_mem _ (vals_mem rs h)
section
variable {X : Cx} {pins : List (Addr × Obj)} {σ : L2.St} {H : Hp} {s : Shared} {G : Gi}
theorem UnH.no (I : Inv X pins σ H s) {a : Addr} (u : UnH H a) : ∀ d as, ¬ Reads s.heap (.ref a) d as := by
  induction u with
  | ins h =>
    intro d as r
    obtain ⟨mA, J, _⟩ := ins_get I.hok h
    obtain ⟨od, J, _⟩ := J.look
    have ho := J.at_
    have hc := J.cls
    cases r with
    | list h1 h2 h3 h4 => rw [ho] at h1; cases h1; rw [hc] at h2; cases h2
    | tuple h1 h2 h3 h4 => rw [ho] at h1; cases h1; rw [hc] at h2; cases h2
    | dict h1 h2 h3 h4 h5 => rw [ho] at h1; cases h1; rw [hc] at h2; cases h2
  | tup h m u ih =>
    intro d as r
    obtain ⟨its, rv, ⟨o, ho, hc, n, hd⟩, _⟩ := I.tuple (.inl (.inl h))
    cases r with
    | list h1 h2 h3 h4 => rw [ho] at h1; cases h1; rw [hc] at h2; exact absurd h2 (by decide)
    | tuple h1 h2 h3 h4 =>
      rw [ho] at h1; cases h1
      rw [hd] at h3; cases h3
      obtain ⟨d', as', r'⟩ := readsAll_mem h4 _ (by simpa using vals_mem rv m)
      exact ih d' as' r'
    | dict h1 h2 h3 h4 h5 => rw [ho] at h1; cases h1; rw [hc] at h2; exact absurd h2 (by decide)
end
/-! ### a method whose text is that of a field's data, within builtin reprs -/
section
variable {X : Cx} {G : Gi} {W : WX} {k : Nat} {tbl : List (Str × MF)} {tp : List (Str × (Str × Str × Str))} {md : M D} {x : Str} {p pos : Pos} {e : Expr}
abbrev phTx (p : Str × Str × Str) (y : Str) : Str := Str.empty ++ p.1 ++ y ++ p.2.2
/-- instances' texts by their own methods, or by a field's data -/
def jM (tbl : List (Str × MF)) (tp : List (Str × (Str × Str × Str))) : List D → Nat → M (List Str)
  | [], _ => ret []
  | d :: ds, n => fun s => match insOf d with
    | some c => (match tbl.lookup c with
      | some mf => (match noExc (runF mf [d] s) with
        | .ok (.fz (.str y)) s' => if n + (y.length + 2) ≤ 16777000 then (jM tbl tp ds (n + (y.length + 2)) s').bind fun ts => ret (y :: ts) else .no
        | _ => .no)
      | none => (match tp.lookup c with
        | some p => (match d with
          | .ins _ fs => (match fs.lookup p.2.1 with
            | some (.tup rs) => (match reprD (.tup rs) with
              | some (.fz (.str y)) => if n + ((phTx p y).length + 2) ≤ 16777000 then (jM tbl tp ds (n + ((phTx p y).length + 2)) s).bind fun ts => ret (phTx p y :: ts) else .no
              | _ => .no)
            | _ => .no)
          | _ => .no)
        | none => .no))
    | none => .no
def hasIns : D → Bool
  | .tup (.ins _ _ :: _) => true
  | _ => false
def tlD : D → Bool
  | .tup _ => true
  | .lst _ => true
  | _ => false
def oM (tbl : List (Str × MF)) (tp : List (Str × (Str × Str × Str))) : List D → Nat → M (List Str)
  | [], _ => ret []
  | d :: ds, n => if hasIns d = true then (match d with
      | .tup es => if n + 1 ≤ 16777000 then bnd (jM tbl tp es (n + 1)) fun ts => if n + ((tupleText ts).length + 2) ≤ 16777000 then bnd (oM tbl tp ds (n + ((tupleText ts).length + 2))) fun us => ret (tupleText ts :: us) else fun _ => .no
        else fun _ => .no
      | _ => fun _ => .no)
    else match reprD d with
      | some (.fz (.str y)) => if n + (y.length + 2) ≤ 16777000 then bnd (oM tbl tp ds (n + (y.length + 2))) fun us => ret (y :: us) else fun _ => .no
      | _ => fun _ => .no
def reprXK (tbl : List (Str × MF)) (tp : List (Str × (Str × Str × Str))) : D → M O
  | .tup ds => if ds.any hasIns = true ∧ ds.all tlD = true then bnd (oM tbl tp ds 0) fun ts => ret (.fz (.str (tupleText ts))) else fun s => ofO (reprD (.tup ds)) s
  | d => fun s => ofO (reprD d) s
/-- repr of things, of tuples of instances among them -/
def xReprX (tbl : List (Str × MF)) (tp : List (Str × (Str × Str × Str))) (md : M D) : M O := bnd md (reprXK tbl tp)
theorem UnH.mo {F F' : Hp} (e : ∀ a o, F a = some o → dictO o = false → F' a = some o) {a : Addr} (u : UnH F a) : UnH F' a := by
  induction u with
  | ins h => exact .ins (e _ _ h rfl)
  | tup h m u ih => exact .tup (e _ _ h rfl) m ih
end
theorem sk_reprX {tbl : List (Str × MF)} {tp : List (Str × (Str × Str × Str))} {md : M D} {env : List (Option O)} {mu : List O} : xReprX tbl tp md ⟨env, mu⟩ = (md ⟨env, mu⟩).bind (reprXK tbl tp) := rfl
end L2.Tr
namespace L2
open PySem PySem.Spec PyProof.Rows
/-! ### sorted(xs), xs a list of tuples of numbers and texts -/
def isT : Key → Bool
  | .inl _ => false
  | .inr _ => true
end L2
namespace L2.Tr
open PySem PySem.Spec PyProof.Rows L2 L2.Pc
/-! ### d.setdefault(k, e), k a tuple -/
section
variable {X : Cx} {G : Gi} {W : WX} {e e2 : Expr} {i : Nat} {x : Str} {px pos apos cpos : Pos} {mk md : M D}
/-- d.setdefault(k, e) as a statement -/
def sSdT (i : Nat) (mk md : M D) : M Fl := fun s => match getS s.env i with
  | some (.dcu _) => (mk s).bind fun k s1 => (md s1).bind fun d s2 => (match getS s2.env i, tkeyD k with
    | some (.dcu kvs), some ks => if kvs.length < 16777216 then (match getTD ks kvs with
        | some _ => .ok .nx s2
        | none => .ok .nx ⟨setS s2.env i (some (.dcu (putTD ks d kvs))), s2.mu⟩) else .no
    | _, _ => .no)
  | _ => .no
end
/-! steps -/
section
variable {env : List (Option O)} {mu : List O} {mk md : M D} {i : Nat} {neg : Bool} {a b : Str} {d : D}
theorem sk_inTs : inTK neg i (.tup [.str a, .str b]) ⟨env, mu⟩ = (match dctS ⟨env, mu⟩ i with | some kvs => .ok (.fz (.bl ((getTD [.inr a, .inr b] kvs).isSome != neg))) ⟨env, mu⟩ | none => .no) := by unfold inTK; cases dctS ⟨env, mu⟩ i <;> rfl
theorem sk_ixTs : ixTK i (.tup [.str a, .str b]) ⟨env, mu⟩ = (match dctS ⟨env, mu⟩ i with | some kvs => ofO ((getTD [.inr a, .inr b] kvs).map .fz) ⟨env, mu⟩ | none => .no) := by unfold ixTK; cases dctS ⟨env, mu⟩ i <;> rfl
theorem sk_putTs : putTAt i d (.tup [.str a, .str b]) ⟨env, mu⟩ = (match getP ⟨env, mu⟩ i with | some (.dcu kvs) => if kvs.length < 16777216 then .ok .nx (putP ⟨env, mu⟩ i (.dcu (putTD [.inr a, .inr b] d kvs))) else .no | _ => .no) := by unfold putTAt; cases getP ⟨env, mu⟩ i with | none => rfl | some o => cases o <;> rfl
theorem sk_getTs : getTK i (.tup [.str a, .str b]) d ⟨env, mu⟩ = (match dctS ⟨env, mu⟩ i with | some kvs => .ok (.fz ((getTD [.inr a, .inr b] kvs).getD d)) ⟨env, mu⟩ | none => .no) := by unfold getTK; cases dctS ⟨env, mu⟩ i <;> rfl
def sdTK (i : Nat) (k d : D) : M Fl := fun s2 => match getS s2.env i, tkeyD k with
    | some (.dcu kvs), some ks => if kvs.length < 16777216 then (match getTD ks kvs with
        | some _ => .ok .nx s2
        | none => .ok .nx ⟨setS s2.env i (some (.dcu (putTD ks d kvs))), s2.mu⟩) else .no
    | _, _ => .no
theorem sk_sdT : sSdT i mk md ⟨env, mu⟩ = (match getS env i with | some (.dcu _) => (mk ⟨env, mu⟩).bind fun k => bnd md (sdTK i k) | _ => .no) := rfl
theorem sk_sdTs : sdTK i (.tup [.str a, .str b]) d ⟨env, mu⟩ = (match getS env i with
    | some (.dcu kvs) => if kvs.length < 16777216 then (match getTD [.inr a, .inr b] kvs with
        | some _ => .ok .nx ⟨env, mu⟩
        | none => .ok .nx ⟨setS env i (some (.dcu (putTD [.inr a, .inr b] d kvs))), mu⟩) else .no
    | _ => .no) := by
  unfold sdTK
  cases getS env i with
  | none => rfl
  | some o => cases o <;> rfl
theorem sk_lcTk {vs : List Nat} {t : MT} {mt : M Bool} {me : M D} : xLcT i vs t mt me ⟨env, mu⟩ = (match getS env i with
    | some (.dcu kvs) => lcK vs t mt me (kvs.map (·.1)) ⟨setS env i (some (.fz (.dcu kvs))), mu⟩
    | some (.fz (.dcu kvs)) => lcK vs t mt me (kvs.map (·.1)) ⟨env, mu⟩
    | _ => .no) := by
  unfold xLcT frzS
  cases h : getS env i with
  | none =>
    show (mKeysT i ⟨env, mu⟩).bind _ = _
    unfold mKeysT
    dsimp only
    rw [h]; rfl
  | some o =>
    cases o with
    | dcu kvs =>
      show (mKeysT i ⟨setS env i (some (.fz (.dcu kvs))), mu⟩).bind _ = _
      unfold mKeysT
      dsimp only
      rw [getS_setS h]; rfl
    | fz d =>
      cases d with
      | dcu kvs =>
        show (mKeysT i ⟨env, mu⟩).bind _ = _
        unfold mKeysT
        dsimp only
        rw [h]; rfl
      | _ =>
        show (mKeysT i ⟨env, mu⟩).bind _ = _
        unfold mKeysT
        dsimp only
        rw [h]; rfl
    | _ =>
      show (mKeysT i ⟨env, mu⟩).bind _ = _
      unfold mKeysT
      dsimp only
      rw [h]; rfl
end
end L2.Tr
namespace L2.Tr
open PySem PySem.Spec PyProof.Rows L2 L2.Pc
/-! ### dict([(t, []) for t in xs]): a dict of new lists -/
structure Mk (H1 H' : Hp) (L : Addr) (ks : List Key) (ps qs : List Addr) (kvs : List (Key × V)) : Prop where
  eL : H' L = some (.lst (qs.map V.ref))
  eq : Paired (fun q kv => H' q = some (.tup [kV kv.1, kv.2])) qs kvs
  e1 : kvs.map (·.1) = ks
  e2 : kvs.map (·.2) = ps.map V.ref
  ep : ∀ p ∈ ps, H' p = some (.lst [])
  nd : ps.Nodup
  nL : L ∉ ps
  nq : L ∉ qs
  no : ∀ p ∈ ps, H1 p = none
  nl : H1 L = none
  fr : ∀ a, H1 a ≠ none → H' a = H1 a
/-- dict([(t, []) for t in xs]), xs a list of texts that stands in a slot -/
def xDictL (j v : Nat) : M O := fun s => match getS s.env j with
  | some o => (match o.toD with
    | .lst ds => (match allM strD' ds with
      | some ss => if ss.Nodup ∧ ss.length ≤ 16777215 ∧ v < s.env.length then .ok (.dco (ss.map fun s => (.str s, .lst []))) s else .no
      | none => .no)
    | _ => .no)
  | none => .no
/-! ### d[k].append(e), the entries of d its own lists -/
section
variable {X : Cx} {G : Gi} {W : WX} {e e2 : Expr} {i : Nat} {x : Str} {px pos pos2 apos cpos : Pos} {mk md : M D}
def sDa2 (i : Nat) (k : Str) (md : M D) : M Fl := fun s => match getS s.env i with
  | some (.dco kvs) => (match getK k kvs with
    | some (.lst _) => (md s).bind fun d s2 => (match getS s2.env i with
      | some (.dco kvs2) => (match getK k kvs2 with
        | some (.lst xs) => if xs.length < 16777216 then .ok .nx ⟨setS s2.env i (some (.dco (setK k (.lst (xs ++ [d])) kvs2))), s2.mu⟩ else .no
        | _ => .no)
      | _ => .no)
    | _ => .no)
  | _ => .no
def daK (i : Nat) (md : M D) (k : D) : M Fl := fun s1 => match k with
  | .str x => sDa2 i x md s1
  | _ => .no
/-- d[k].append(e), k a text -/
def sDaApp (i : Nat) (mk md : M D) : M Fl := fun s => match getS s.env i with
  | some (.dco _) => (mk s).bind (daK i md)
  | _ => .no
/-! ### d.setdefault(k, e), k a text or a number -/
def sSdKy (i : Nat) (mk md : M D) : M Fl := fun s => match getS s.env i with
  | some (.dct _) => (mk s).bind fun k s1 => (md s1).bind fun d s2 => (match getS s2.env i, keyOfD k with
    | some (.dct kvs), some ks => if kvs.length < 16777216 then (match getKD ks kvs with
        | some _ => .ok .nx s2
        | none => .ok .nx ⟨setS s2.env i (some (.dct (putKD ks d kvs))), s2.mu⟩) else .no
    | _, _ => .no)
  | _ => .no
end
/-! {k: e}, both any expressions -/
def dispGK (md : M D) (k : D) : M O := match keyOfD k with
  | some _ => bnd md fun d => ret (.dct [(k, d)])
  | none => fun _ => .no
def xDispG (mk md : M D) : M O := bnd mk (dispGK md)
/-! steps -/
section
variable {env : List (Option O)} {mu : List O} {mk md : M D} {i j v : Nat} {x : Str} {d : D}
theorem sk_dispG : xDispG mk md ⟨env, mu⟩ = (mk ⟨env, mu⟩).bind (dispGK md) := rfl
theorem sk_dispGs : dispGK md (.str x) ⟨env, mu⟩ = (md ⟨env, mu⟩).bind fun d => ret (.dct [(.str x, d)]) := rfl
theorem sk_dictL : xDictL j v ⟨env, mu⟩ = (match getS env j with
  | some o => (match o.toD with
    | .lst ds => (match allM strD' ds with
      | some ss => if ss.Nodup ∧ ss.length ≤ 16777215 ∧ v < env.length then .ok (.dco (ss.map fun s => (.str s, .lst []))) ⟨env, mu⟩ else .no
      | none => .no)
    | _ => .no)
  | none => .no) := rfl
theorem sk_daApp : sDaApp i mk md ⟨env, mu⟩ = (match getS env i with | some (.dco _) => (mk ⟨env, mu⟩).bind (daK i md) | _ => .no) := rfl
def da3 (i : Nat) (x : Str) (d : D) : M Fl := fun s2 => match getS s2.env i with
      | some (.dco kvs2) => (match getK x kvs2 with
        | some (.lst xs) => if xs.length < 16777216 then .ok .nx ⟨setS s2.env i (some (.dco (setK x (.lst (xs ++ [d])) kvs2))), s2.mu⟩ else .no
        | _ => .no)
      | _ => .no
theorem sk_daKs : daK i md (.str x) ⟨env, mu⟩ = (match getS env i with
  | some (.dco kvs) => (match getK x kvs with
    | some (.lst _) => (md ⟨env, mu⟩).bind (da3 i x)
    | _ => .no)
  | _ => .no) := rfl
theorem sk_da3 : da3 i x d ⟨env, mu⟩ = (match getS env i with
      | some (.dco kvs2) => (match getK x kvs2 with
        | some (.lst xs) => if xs.length < 16777216 then .ok .nx ⟨setS env i (some (.dco (setK x (.lst (xs ++ [d])) kvs2))), mu⟩ else .no
        | _ => .no)
      | _ => .no) := rfl
def sdKyK (i : Nat) (k d : D) : M Fl := fun s2 => match getS s2.env i, keyOfD k with
    | some (.dct kvs), some ks => if kvs.length < 16777216 then (match getKD ks kvs with
        | some _ => .ok .nx s2
        | none => .ok .nx ⟨setS s2.env i (some (.dct (putKD ks d kvs))), s2.mu⟩) else .no
    | _, _ => .no
theorem sk_sdKy : sSdKy i mk md ⟨env, mu⟩ = (match getS env i with | some (.dct _) => (mk ⟨env, mu⟩).bind fun k => bnd md (sdKyK i k) | _ => .no) := rfl
theorem sk_sdKys : sdKyK i (.str x) d ⟨env, mu⟩ = (match getS env i with
    | some (.dct kvs) => if kvs.length < 16777216 then (match getKD (.inr x) kvs with
        | some _ => .ok .nx ⟨env, mu⟩
        | none => .ok .nx ⟨setS env i (some (.dct (putKD (.inr x) d kvs))), mu⟩) else .no
    | _ => .no) := by
  unfold sdKyK
  cases getS env i with
  | none => rfl
  | some o => cases o <;> rfl
theorem sk_isw {kvs : List (D × O)} : isFz (.dco kvs) = false := rfl
theorem sk_tdw {kvs : List (D × O)} : O.toD (.dco kvs) = .dct (O.toDk kvs) := by rw [O.toD]
end
end L2.Tr
namespace L2
open PySem PySem.Spec PyProof.Rows
/-! ### xs.remove(t), texts -/
end L2
namespace L2.Tr
open PySem PySem.Spec PyProof.Rows L2 L2.Pc
section
variable {X : Cx} {G : Gi} {W : WX} {e : Expr} {i : Nat} {x : Str} {px pos apos cpos : Pos} {md : M D}
def remSK (i : Nat) (d : D) : M Fl := fun s1 => match getP s1 i, d with
    | some (.lst xs), .str k => (match allM strD' xs with
      | some ns => if k ∈ ns then .ok .nx (putP s1 i (.lst ((ns.erase k).map .str))) else .no
      | none => .no)
    | _, _ => .no
/-- x.remove(t), x a list of texts -/
def sRemS (i : Nat) (md : M D) : M Fl := fun s => match getP s i with
  | some (.lst _) => (md s).bind (remSK i)
  | _ => .no
/-! sorted(d), d a dict with texts as keys -/
def xSrtKS (i : Nat) : M O := fun s => match getP s i with
  | some (.dct kvs) => (match allM strD' (kvs.map (·.1)) with
    | some ns => if ns.length < 64 then .ok (.lst ((isortB ltS ns).map .str)) s else .no
    | none => .no)
  | _ => .no
end
section
variable {env : List (Option O)} {mu : List O} {md : M D} {i : Nat} {x : Str}
theorem sk_remS : sRemS i md ⟨env, mu⟩ = (match getP ⟨env, mu⟩ i with | some (.lst _) => (md ⟨env, mu⟩).bind (remSK i) | _ => .no) := rfl
theorem sk_remSs : remSK i (.str x) ⟨env, mu⟩ = (match getP ⟨env, mu⟩ i with | some (.lst xs) => (match allM strD' xs with | some ns => if x ∈ ns then .ok .nx (putP ⟨env, mu⟩ i (.lst ((ns.erase x).map .str))) else .no | none => .no) | _ => .no) := by
  unfold remSK
  cases getP ⟨env, mu⟩ i with
  | none => rfl
  | some o => cases o <;> rfl
theorem sk_srtKS : xSrtKS i ⟨env, mu⟩ = (match getP ⟨env, mu⟩ i with | some (.dct kvs) => (match allM strD' (kvs.map (·.1)) with | some ns => if ns.length < 64 then .ok (.lst ((isortB ltS ns).map .str)) ⟨env, mu⟩ else .no | none => .no) | _ => .no) := rfl
end
end L2.Tr
namespace L2
open PySem PySem.Spec PyProof.Rows
/-! ### sorted(d), d a dict with tuples as keys -/
/-! ### d == {}, d != {} -/
end L2
namespace L2.Tr
open PySem PySem.Spec PyProof.Rows L2 L2.Pc
end L2.Tr
namespace L2
open PySem PySem.Spec PyProof.Rows
/-! ### an exception kept behind its suite -/
section
variable {X : Cx} {pins : List (Addr × Obj)} {σ : St} {H : Hp} {s : Shared}
theorem Inv.track {a : Addr} {oe : Obj} {vs : Array Value} (I : Inv X pins σ H s) (he : s.heap.get? a = some oe) (hd : oe.data = .fields vs) (hn : H a = none) (h0 : X.s_0.heap.get? a = none) (nL : a ≠ X.env.locals) (np : ∀ p ∈ X.pn ++ pins, p.1 ≠ a) :
    Inv X pins σ (upd H a (L2.Tr.xkH oe a)) s := by
  refine ⟨I.ok, I.os, I.bare, ⟨I.base.keep, I.base.slot, fun b u e n hx => ?_, I.base.there, fun b xs e => ?_, fun b o u e => ?_, fun b ps e => ?_⟩, I.loc, I.cell, ?_, fun x c e => ?_, fun p hp => ?_, fun b u e => ?_, I.len⟩
  · rw [upd_ne (fun z => by rw [z, h0] at e; cases e)]; exact I.base.free b u e n hx
  · have q := I.base.tups b xs e
    rw [upd_ne (ne_of_none q hn)]; exact q
  · have q := I.base.frzs b o u e
    rw [upd_ne (ne_of_none q hn)]; exact q
  · obtain ⟨m, q⟩ := I.base.tbls b ps e
    exact ⟨m, by rw [upd_ne (ne_of_none q hn)]; exact q⟩
  · rw [upd_ne (Ne.symm nL)]; exact I.free
  · obtain ⟨v, o, ho, hv⟩ := I.cell x c e
    rw [upd_ne (fun z => by rw [z, he] at ho; cases ho; rw [hd] at hv; cases hv)]
    exact I.freeC x c e
  · obtain ⟨q1, q2, q3⟩ := I.pin p hp
    exact ⟨q1, by rw [upd_ne (np p hp)]; exact q2, q3⟩
  · by_cases hb : b = a
    · subst hb
      rw [upd_same] at e
      cases e
      exact ⟨he, ⟨oe, he⟩, fun h1 h2 q k => k _ q⟩
    · rw [upd_ne hb] at e
      exact (I.hok b u e).stay (fun _ _ _ q => q) (fun c q => by rw [upd_ne (ne_of_none q hn)]; exact q) fun c ys q => by rw [upd_ne (ne_of_none q hn)]; exact q
variable {x n : Str} {c : Value} {i : Nat} {body suite : List Stmt} {b₀ : Stmt} {np pos pos' : Pos} {tb : WX → TS} {ts : Addr → Value → Option Addr → TS} {Wout : WX}
end
end L2
namespace L2
open PySem PySem.Spec PyProof.Rows
/-! ### isinstance of a kept exception, its fields -/
/-- a kept exception of class C -/
def KeptX (H : Hp) (a C : Addr) : Prop := ∃ d, L2.Tr.XKp H a C d ∧ (d = none ∨ ∃ dx fs, d = some dx ∧ H dx = some (.xd fs))
section
variable {X : Cx}
def tXk (K : PySem.W.Frag) (n : Str) (te : TE) : TE := fun σ H Q => te σ H fun x H1 => ∃ (a C dd : Addr) (fs : List (Str × V)) (v : V), x = .ref a ∧ L2.Tr.XKp H1 a C (some dd) ∧ XfC K C ∧ PySem.W.findIn K (.ref C) n = some none ∧ H1 dd = some (.xd fs) ∧ fs.lookup n = some v ∧ Q v H1
theorem pe_xk {e : Expr} {te : TE} {pos : Pos} {n : Str} (he : PE X e te) (hb : attributeBase e n X.env (eval e X.env) = eval e X.env := by rfl) : PE X (.Attribute e n pos) (tXk X.K n te) := by
  refine ⟨fun pins s σ H Q I h => ?_⟩
  refine attr_of hb (thn (he.run pins s σ H _ I h) fun u s1 hh => ?_)
  obtain ⟨x, H1, I1, rx, a, C, dd, fs, v, rfl, ⟨oe, k1, ⟨z1, z2⟩, vs, hv⟩, T, hno, hx, l, q⟩ := hh
  cases rx
  obtain ⟨mA, hns, hr⟩ := (show ObjOk X.prog X.w H1 s1.heap dd (.xd fs) from I1.hok dd _ hx)
  obtain ⟨od, ho, hl⟩ := lookIn_ns hns
  obtain ⟨u, hu, ru⟩ := RelO.some_of (v := v) (o := mA n) (by rw [← l]; exact hr n)
  have J : PySem.W.InstAt s1.heap a oe C (some od) := ⟨(I1.hok a _ k1).1, z1, by unfold PySem.W.notCls; rw [hv], by rw [z2]; exact ho⟩
  exact HandSPX.exc_get I1.kIn J T.ga T.gg T.exC (PySem.W.findObj_own T.hdC hno rfl (by rw [hl, hu])) (handed_of ru) ⟨v, H1, I1.tok _, ru, q⟩
end
end L2
namespace L2.Tr
open PySem PySem.Spec PyProof.Rows L2 L2.Pc
/-! ### try: .. except C as e: v = e -/
/-! ### isinstance(e, C), isinstance(e, (C, ..)), e.f of a kept exception -/
theorem own_xok {G : Gi} {st : S} {σ : L2.St} {c : Cf} {x : V} {d : D} {cn : Str} {ds : List (Str × D)} (r : Rel G st σ c) (h : Rp G c.F c.al x d) (e : d = .xok cn ds) :
    ∃ a C, x = .ref a ∧ G.mg cn = some (.ref C) ∧ KeptX c.H a C ∧ (∀ f d2, ds.lookup f = some d2 → ∃ dx fs u, XKp c.H a C (some dx) ∧ c.H dx = some (.xd fs) ∧ fs.lookup f = some u ∧ Rp G c.F c.al u d2) := by
  subst e
  cases h with
  | xok k1 k2 k3 k4 k5 =>
    obtain ⟨oe, q1, q2⟩ := k1
    have kk : XKp c.H _ _ _ := ⟨oe, r.sub _ _ q1, q2⟩
    refine ⟨_, _, rfl, k2, ⟨_, kk, .inr ⟨_, _, rfl, r.sub _ _ k3⟩⟩, fun f d2 hl => ?_⟩
    obtain ⟨u, l1, l2⟩ := lk_rp k4 k5 hl
    exact ⟨_, _, u, kk, r.sub _ _ k3, l1, l2⟩
  | xok0 k1 k2 =>
    obtain ⟨oe, q1, q2⟩ := k1
    exact ⟨_, _, rfl, k2, ⟨_, ⟨oe, r.sub _ _ q1, q2⟩, .inl rfl⟩, fun f d2 hl => by cases hl⟩
def xkO (XT : CTab) (f : Str) (d : D) : Option O := match d with
  | .xok c fs => if okF XT c f = true then (fs.lookup f).map .fz else none
  | _ => none
/-- e.f, e a kept exception -/
def xXk (XT : CTab) (f : Str) (m : M D) : M O := bnd m fun d => ofO (xkO XT f d)
theorem x_xk {X : Cx} {G : Gi} {XT : CTab} {e : Expr} {W : WX} {m : M D} {pos : Pos} {f : Str} (hK : X.K = G.K) (T : Kx G XT) (he : PE X e (tD G W m)) (hb : attributeBase e f X.env (eval e X.env) = eval e X.env := by rfl) :
    PE X (.Attribute e f pos) (tO G W (xXk XT f m)) :=
  (pe_xk he hb).weak fun σ H Q q => by
    show tD G W m σ H fun x H1 => ∃ (a C dd : Addr) (fs : List (Str × V)) (v : V), x = .ref a ∧ XKp H1 a C (some dd) ∧ XfC X.K C ∧ PySem.W.findIn X.K (.ref C) f = some none ∧ H1 dd = some (.xd fs) ∧ fs.lookup f = some v ∧ Q v H1
    refine q.seq bkO _ (fun d v c c1 st1 r1 g1 p1 w => ?_)
    obtain ⟨o', e1, q3⟩ := wp_ofO.mp w
    unfold xkO at e1
    split at e1
    · rename_i cn fs
      split at e1
      · rename_i hk
        obtain ⟨d2, e2, rfl⟩ := map_some e1
        obtain ⟨a, C, rfl, hC, _, hl⟩ := own_xok r1 p1 rfl
        obtain ⟨dx, fs2, u, k1, k2, k3, k4⟩ := hl f d2 e2
        obtain ⟨C2, t1, t2, t3⟩ := T.ex _ _ hk
        rw [hC] at t1
        cases t1
        rw [hK]
        exact ⟨a, C, dx, fs2, u, rfl, k1, t2, t3, k2, k3, q3 u c1 r1 (GoE.refl r1) (prO_fz k4)⟩
      · cases e1
    · cases e1
section
variable {env : List (Option O)} {mu : List O} {md : M D} {mb : M Fl} {i j : Nat} {tbl : List (Str × Bool)} {s s' : S} {x : Exc} {f : Fl} {c : Str} {fs : List (Str × D)} {XT : CTab}
theorem sk_xXk {n : Str} : xXk XT n md ⟨env, mu⟩ = (md ⟨env, mu⟩).bind fun d => ofO (xkO XT n d) := rfl
end
/-! ### tables -/
/-! ### x += e, x -= e, numbers -/
def augK (neg : Bool) (i : Nat) (a : Int) (d : D) : M Fl := fun s => match d with
  | .int b => .ok .nx ⟨setS s.env i (some (.fz (.int (if neg = true then a - b else a + b)))), s.mu⟩
  | _ => .no
def sAugI (neg : Bool) (i : Nat) (md : M D) : M Fl := fun s => match getS s.env i with
  | some (.fz (.int a)) => (md s).bind (augK neg i a)
  | _ => .no
section
variable {env : List (Option O)} {mu : List O} {md : M D} {i : Nat} {neg : Bool} {a b : Int}
theorem sk_augI : sAugI neg i md ⟨env, mu⟩ = (match getS env i with | some (.fz (.int a)) => (md ⟨env, mu⟩).bind (augK neg i a) | _ => .no) := rfl
theorem sk_augKa : augK false i a (.int b) ⟨env, mu⟩ = .ok .nx ⟨setS env i (some (.fz (.int (a + b)))), mu⟩ := rfl
theorem sk_augKb : augK true i a (.int b) ⟨env, mu⟩ = .ok .nx ⟨setS env i (some (.fz (.int (a - b)))), mu⟩ := rfl
end
end L2.Tr
namespace L2
open PySem PySem.Spec PyProof.Rows
/-! ### tuple(xs) whose object is known to have no dict, and t.index(x) of such -/
end L2
namespace L2.Tr
open PySem PySem.Spec PyProof.Rows L2 L2.Pc
section
variable {X : Cx} {G : Gi} {W : WX} {st : S} {σ : L2.St} {c : Cf} {o e : Expr} {m : M O} {md : M D} {pos apos : Pos}
def tunD : D → Option O
  | .lst ds => some (.fz (.tun ds))
  | .lsk ds => some (.fz (.tun ds))
  | _ => none
/-- t.index(x) -/
def tixD : D → List D → Option O
  | .tun ds, [.str z] => match allM strD' ds with
    | some ss => if z ∈ ss then some (.fz (.int (ss.idxOf z : Nat))) else none
    | none => none
  | _, _ => none
def isTn : D → Bool
  | .tun _ => true
  | _ => false
def xTix (mo : M O) (md : M D) : M O := bnd mo fun ox => if isTn ox.toD then bnd md fun d => ofO (tixD ox.toD [d]) else fun _ => .no
@[simp] theorem xTix_app (mo : M O) (md : M D) (s : S) : xTix mo md s = (mo s).bind fun ox s1 => (if isTn ox.toD then bnd md fun d => ofO (tixD ox.toD [d]) else fun _ => .no) s1 := rfl
/-! ### steps -/
theorem sk_tunl {ds : List D} : tunD (.lst ds) = some (.fz (.tun ds)) := rfl
theorem sk_xTix {env : List (Option O)} {mu : List O} : xTix m md ⟨env, mu⟩ = (m ⟨env, mu⟩).bind fun x => if isTn x.toD = true then bnd md fun d => ofO (tixD x.toD [d]) else fun _ => .no := rfl
theorem sk_isitn {xs : List D} : isiD [.tun xs, .ty "tuple"] = some (.fz (.bl true)) := rfl
theorem sk_nntn {xs : List D} : Tr.isNon (.tun xs) = false := rfl
theorem sk_lentn {xs : List D} : lenD (.tun xs) = some (.fz (.int xs.length)) := rfl
theorem sk_istn {ds : List D} : isTn (.tun ds) = true := rfl
theorem sk_sitn {ds : List D} : seqI (.tun ds) = some ds := rfl
end
end L2.Tr
namespace L2
open PySem PySem.Spec PyProof.Rows
/-! ### except C as e: a suite in which e is an object like others -/
section
variable {X : Cx} {pins : List (Addr × Obj)} {σ : St} {H : Hp} {s : Shared}
theorem Inv.suite0 (I : Inv X pins σ H s) {a : Addr} : Inv (X.suite a (X.pn ++ pins)) [] σ H s :=
  ⟨I.ok.suite _ _, I.os, I.bare, I.base, I.loc, I.cell, I.free, I.freeC, fun p hp => by
    have hp' : p ∈ X.pn ++ pins := by rw [List.append_nil] at hp; exact hp
    exact I.pin p hp', I.hok, I.len⟩
theorem Inv.unsuite0 {a : Addr} {pn' : List (Addr × Obj)} (I : Inv (X.suite a (X.pn ++ pins)) pn' σ H s) (ok : X.Ok) : Inv X pins σ H s :=
  ⟨ok, I.os, I.bare, I.base, I.loc, I.cell, I.free, I.freeC, fun p hp => I.pin p (List.mem_append_left _ hp), I.hok, I.len⟩
def goneE (D : Ends) (i : Nat) : Ends where
  nx := fun σ' H' => D.nx (σ'.set i none) H'
  rt := fun v H' => D.rt v H'
  bk := fun σ' H' => D.bk (σ'.set i none) H'
  ct := fun σ' H' => D.ct (σ'.set i none) H'
def wBind (K : PySem.W.Frag) (c : Value) (i : Nat) (ts : Addr → Value → Option Addr → TS) (Wout : WX) (D : Ends) : WX := fun cls d σ H =>
  ∃ b, PySem.W.exmOne K cls c = some b ∧ (b = true → ∀ a oe vs, H a = none → Zc cls d oe → oe.data = .fields vs → ts a cls d (goneE D i) (σ.set i (some (.ref a))) (upd H a (L2.Tr.xkH oe a))) ∧ (b = false → Wout cls d σ H)
variable {x n : Str} {c : Value} {i : Nat} {body suite : List Stmt} {b₀ : Stmt} {np pos pos' : Pos} {tb : WX → TS} {ts : Addr → Value → Option Addr → TS} {Wout : WX}
theorem ps_tryBind (hs : X.stack = X.env :: X.outer) (hf : X.env.frame = some X.env.locals) (hex : X.ex = []) (hN : X.N.Nodup) (hi : X.N[i]? = some n) (hln : X.env.kindOf n = some .local) (hc : Names X x c) (tk : Takes X Wout)
    (hb : ∀ (W : WX) (pn : List (Addr × Obj)) (xe : Value → Shared → Prop), Takes (X.tr pn xe) W → PassesOwn (model X.prog X.w) X.A X.env xe → PSs (X.tr pn xe) body (tb W))
    (hsu : ∀ (a : Addr) (cls : Value) (d : Option Addr) (pn : List (Addr × Obj)), PSs (X.suite a pn) (b₀ :: suite) (ts a cls d)) :
    PS X (.Try body [.ExceptHandler (some (.Name x np)) (some n) (b₀ :: suite) pos'] [] [] pos) (fun D σ H => tb (wBind X.K c i ts Wout D) D σ H) := by
  refine ⟨fun pins s σ H D I0 h => ?_⟩
  have k0 := I0.ok
  have kfr : X.A.frames = some (X.env :: X.outer) := by rw [k0.frames, hs]
  have kloc : Loc X.env.scope n := .inl hln
  refine wpAny_Try_except (wpAny_mono ((hb (wBind X.K c i ts Wout D) (X.pn ++ pins) (fun e t1 => wpAny (model X.prog X.w) X.A (noteFrame e X.env) (fun _ t2 => wpAny (model X.prog X.w) X.A (setFlight e none) (fun _ t3 =>
    wpAny (model X.prog X.w) X.A (handleBy e X.env [.ExceptHandler (some (.Name x np)) (some n) (b₀ :: suite) pos']) (SP X pins D) X.xe t3) X.xe t2) X.xe t1) (fun u t wx => ?_) PassesOwn.looking).run [] s σ H D (I0.toTry _) h) (fun fl t1 sp => ?_) (fun
    _ _ wx => wx))
  · obtain ⟨a, B, t0, pins', σ2, H2, cls, d, rfl, Jx, nb, up, sky, na, os, ag, b, w1, wy, wn⟩ := wx
    have J : Inv X pins σ2 H2 t0 := Jx.ofTry k0
    have sky2 : Sky B (X.env :: X.outer) a (Zc cls d) X.env.locals t.heap := by rw [← hs]; exact sky
    show wpAny _ X.A (noteFrame (.ref a) X.env) _ _ _
    refine Sky.land Zc.steady kfr hf sky2 fun g3 f3 up3 => ?_
    have J3 : Inv X pins σ2 H2 { t with heap := g3 } := J.landed nb f3.1 (up.trans up3) os ag
    obtain ⟨o3, v3, e3, z3, d3⟩ := f3.there
    have nofr : ∀ {g : Heap} {o : Obj} {vs : Array Value}, g.FunFrames B (X.env :: X.outer) → g.get? a = some o → o.data = .fields vs → a ∉ frs (X.env :: X.outer) := fun {g o vs} ff e dd m => by
      obtain ⟨_, o', e', hnf⟩ := ff.mem m
      rw [e] at e'
      cases e'
      exact hnf _ dd
    have nfr := nofr f3.2.2.1 e3 d3
    have aL : a ≠ X.env.locals := fun z => nfr (List.mem_filterMap.mpr ⟨X.env, List.mem_cons_self, by rw [hf, z]⟩)
    have aF : a ∉ X.fs := fun m => by
      obtain ⟨e, m2, q⟩ := List.mem_filterMap.mp m
      exact nfr (List.mem_filterMap.mpr ⟨e, List.mem_cons_of_mem _ m2, q⟩)
    have noB : ∀ o, t0.heap.get? a ≠ some o := fun o e => by
      have := nb a o e (by rw [hs]; exact nfr)
      rw [f3.2.1] at this
      cases this
    have n0 : X.s_0.heap.get? a = none := by
      cases e : X.s_0.heap.get? a with
      | none => rfl
      | some o =>
        obtain ⟨o', e'⟩ := J.base.there a o e (by rw [hex]; exact fun z => nomatch z)
        exact absurd e' (noB o')
    have npin : ∀ p ∈ X.pn ++ pins, p.1 ≠ a := fun p hp z => by
      have := (J.pin p hp).1
      rw [z] at this
      exact noB _ this
    have S3 := J3.suite e3 d3 na aL aF
    refine wpAny_handleBy_cons (codeAny_handlers_test ?_) (by intro q; cases q)
    have lty : PySem.W.Looks (model X.prog X.w) g3 (typeOf (.ref a)) cls := fun A Q E s k q => wpAny_typeOf_ref (k _ _ e3) (by rw [z3.1]; exact q)
    have lme := PySem.W.exm_one (M := model X.prog X.w) (J3.kIn) lty w1
    have tst : ∀ {Q : Value → Shared → Prop} {E : Value → Shared → Prop}, Q c { t with heap := g3 } → wpAny (model X.prog X.w) (X.A.mark (some (.ref a))) (eval (.Name x np) X.env) Q E { t with heap := g3 } := fun {Q E} q => by
      obtain ⟨hg, hdbg, hm | ⟨hm, hv, hnn⟩⟩ := hc
      · exact ld_glob (X := X.suite a ((a, o3) :: (X.pn ++ pins))) S3 hg hm q hdbg
      · exact ld_blt (X := X.suite a ((a, o3) :: (X.pn ++ pins))) S3 hg hm hv q hnn hdbg
    refine tst (lme.here ?_)
    cases b with
    | true =>
      refine codeAny_handlers_suite_as ?_
      refine HandSPX.lands_againZ f3 fun g4 f4 up4 => ?_
      have J4 : Inv X pins σ2 H2 { t with heap := g4 } := J.landed nb f4.1 ((up.trans up3).trans up4) os ag
      obtain ⟨o4, v4, e4, z4, d4⟩ := f4.there
      have S4 := (J4.track e4 d4 na n0 aL npin).suite0 (a := a)
      refine store_ok (X := X.suite a (X.pn ++ pins)) (v := .ref a) S4 hN hi kloc rfl (fun t5 S5 => ?_) (.inr hln)
      refine wpAny_mono ((hsu a cls d (X.pn ++ pins)).run [] t5 _ _ _ S5 (wy rfl a o4 v4 na z4 d4)) (fun fl t6 sp => ?_) (fun _ _ z => False.elim z)
      have fin : ∀ {σ6 : St} {H6 : Hp} {Q : Shared → Prop}, Inv (X.suite a (X.pn ++ pins)) [] σ6 H6 t6 → (∀ t7, Inv X pins (σ6.set i none) H6 t7 → Q t7) →
          wpAny (model X.prog X.w) X.A (do bindName X.env n .none; unbindBehindTheSuite X.env n pos') (fun _ t7 => Q t7) X.xe t6 := fun {σ6 H6 Q} S6 hq =>
        gone_ok (S6.unsuite0 k0) hN hi hln hq
      cases fl with
      | next =>
        obtain ⟨σ6, H6, S6, q⟩ := sp
        exact fin S6 fun t7 J7 => ⟨_, _, J7, q⟩
      | brk =>
        obtain ⟨σ6, H6, S6, q⟩ := sp
        exact fin S6 fun t7 J7 => ⟨_, _, J7, q⟩
      | cont =>
        obtain ⟨σ6, H6, S6, q⟩ := sp
        exact fin S6 fun t7 J7 => ⟨_, _, J7, q⟩
      | ret u =>
        obtain ⟨y, σ6, H6, S6, r6, q⟩ := sp
        exact fin S6 fun t7 J7 => ⟨_, _, _, J7, r6, q⟩
    | false =>
      show wpAny _ X.A (handleBy (.ref a) X.env []) _ _ _
      refine wpAny_handleBy_nil ?_
      obtain ⟨k1, k2, k3, o5, v5, T, oT, ts', e5, z5, d5, h5, r5⟩ := id f3
      unfold PySem.passOn
      refine wpAny_bind (wpAny_field e5 d5 h5 ?_)
      rw [if_neg (show ¬ ((Value.ref T == Value.none) = true) from by simp)]
      have go : wpAny (model X.prog X.w) X.A (setFlight (.ref a) X.env.frame) (fun _ t4 => wpAny (model X.prog X.w) X.A (throw (.ref a) : Sem Flow) (SP X pins D) X.xe t4) X.xe { t with heap := g3 } := by
        rw [hf]
        refine HandSPX.setFlight_upZ f3 fun g4 f4 up4 => wpAny_throw (tk _ _ ?_)
        exact ⟨a, B, t0, pins, σ2, H2, cls, d, rfl, J, nb, (up.trans up3).trans up4, .inr (.inr (by rw [hs]; exact f4)), na, os, ag, wn rfl⟩
      first
        | exact wpAny_bind (wpAny_pure (wpAny_bind go))
        | exact wpAny_bind go
  · cases fl with
    | next =>
      obtain ⟨σ2, H2, J2, q⟩ := sp
      exact wpAny_execs_nil ⟨σ2, H2, J2.ofTry k0, q⟩
    | brk =>
      obtain ⟨σ2, H2, J2, q⟩ := sp
      exact ⟨σ2, H2, J2.ofTry k0, q⟩
    | cont =>
      obtain ⟨σ2, H2, J2, q⟩ := sp
      exact ⟨σ2, H2, J2.ofTry k0, q⟩
    | ret u =>
      obtain ⟨y, σ2, H2, J2, r, q⟩ := sp
      exact ⟨y, σ2, H2, J2.ofTry k0, r, q⟩
end
end L2
namespace L2.Tr
open PySem PySem.Spec PyProof.Rows L2 L2.Pc
def tkB (i : Nat) (tbl : List (Str × Bool)) (ms : M Fl) (r : Tr.R Fl) : Tr.R Fl := match r with
  | .exc x s' => (match tbl.lookup x.cls with
    | some true => if i < s'.env.length then (match ms ⟨setS s'.env i (some (.fz (.xok x.cls x.fs))), s'.mu⟩ with
      | .ok f s2 => .ok f ⟨setS s2.env i none, s2.mu⟩
      | _ => .no) else .no
    | some false => .exc x s'
    | none => .no)
  | r => r
/-- try: .. except C as e: .. -/
def sTryB (i : Nat) (tbl : List (Str × Bool)) (mb ms : M Fl) : M Fl := fun s => tkB i tbl ms (mb s)
def tsB (G : Gi) (ms : M Fl) (_ : Addr) (_ : Value) (_ : Option Addr) : TS := tS G noW ms
theorem tryB_t {G : Gi} {Wout : WX} {c : Value} {tbl : List (Str × Bool)} {i : Nat} {mb ms : M Fl} {D : Ends} {σ : L2.St} {H : Hp} (T : HdT G c tbl) (q : tS G Wout (sTryB i tbl mb ms) D σ H) :
    tS G (wBind G.K c i (tsB G ms) Wout D) mb D σ H := by
  obtain ⟨c0, st, e0, r0, w⟩ := q
  refine ⟨c0, st, e0, r0, ?_⟩
  unfold sTryB tkB at w
  cases e : mb st with
  | no => rw [e] at w; exact w
  | ok f s' => rw [e] at w; exact w
  | exc x s' =>
    rw [e] at w
    dsimp only at w
    intro σ' v d c' r' g' x'
    obtain ⟨C, rfl, hC, hf⟩ := x'
    cases hlk : tbl.lookup x.cls with
    | none => rw [hlk] at w; exact w.elim
    | some b =>
      rw [hlk] at w
      obtain ⟨C2, hC2, hb⟩ := T.ex _ _ hlk
      rw [hC] at hC2
      cases hC2
      cases b with
      | false => exact ⟨false, hb, (fun z => by cases z), fun _ => w σ' (.ref C) d c' r' g' ⟨C, rfl, hC, hf⟩⟩
      | true =>
        refine ⟨true, hb, fun _ a oe vs na hz hd => ?_, fun z => by cases z⟩
        dsimp only at w
        by_cases hl : i < s'.env.length
        case neg => rw [if_neg hl] at w; exact w.elim
        rw [if_pos hl] at w
        have r2 := r'.new (o := xkH oe a) na
        have f2 := Fresh.new (o := xkH oe a) r' na
        have g2 := (GoE.new (o := xkH oe a) r' na).freeze (New.new na) r2
        have r3 := r2.freeze f2
        have ka : XKp ((c'.new a (xkH oe a)).frz [a]).F a C d := ⟨oe, frzF_same, hz, vs, hd⟩
        have tx : Rp G ((c'.new a (xkH oe a)).frz [a]).F ((c'.new a (xkH oe a)).frz [a]).al (.ref a) (.xok x.cls x.fs) := by
          rcases hf with ⟨e1, rfl⟩ | ⟨dx, ws, rfl, e2, e3, e4⟩
          · rw [e1]; exact .xok0 ka hC
          · exact .xok ka hC (g2.mo.mF _ _ e2 rfl) e3 (e4.mo g2.mo)
        obtain ⟨c4, eH, r4, g4, _⟩ := rel_put (i := i) r3 (.fz tx) (Fresh.nil _) (g'.trans g2.toGo) (New.nil _)
        refine ⟨c4, _, by rw [eH]; rfl, r4, ?_⟩
        cases e5 : ms ⟨setS s'.env i (some (.fz (.xok x.cls x.fs))), s'.mu⟩ with
        | no => rw [e5] at w; exact w.elim
        | exc y s2 => rw [e5] at w; exact w.elim
        | ok f s2 =>
          rw [e5] at w
          dsimp only at w
          have fin : ∀ σ5 c5, Rel G s2 σ5 c5 → Go c4 c5 → ∃ c6, c6.H = c5.H ∧ Rel G ⟨setS s2.env i none, s2.mu⟩ (σ5.set i none) c6 ∧ Go c0 c6 := fun σ5 c5 r5 g5 => rel_unset (i := i) r5 (g4.trans g5)
          cases f with
          | nx =>
            intro σ5 c5 r5 g5
            obtain ⟨c6, e6, r6, g6⟩ := fin σ5 c5 r5 g5
            show D.nx (σ5.set i none) c5.H
            rw [← e6]
            exact w (σ5.set i none) c6 r6 g6
          | bk =>
            intro σ5 c5 r5 g5
            obtain ⟨c6, e6, r6, g6⟩ := fin σ5 c5 r5 g5
            show D.bk (σ5.set i none) c5.H
            rw [← e6]
            exact w (σ5.set i none) c6 r6 g6
          | ct =>
            intro σ5 c5 r5 g5
            obtain ⟨c6, e6, r6, g6⟩ := fin σ5 c5 r5 g5
            show D.ct (σ5.set i none) c5.H
            rw [← e6]
            exact w (σ5.set i none) c6 r6 g6
          | rt o =>
            intro v c5 fp r5 g5 t5 f5 w5
            have w : Fw G D c0 (.rt o) ⟨setS s2.env i none, s2.mu⟩ := w
            exact w v c5 fp r5 (g4.trans g5) t5 f5 (w5.go g4)
section
variable {X : Cx} {G : Gi} {Wout : WX} {x n : Str} {tbl : List (Str × Bool)} {i : Nat} {body suite : List Stmt} {b₀ : Stmt} {np pos pos' : Pos} {mb ms : M Fl}
theorem s_tryB (hK : X.K = G.K) (hM : X.mg = G.mg) (T : HdN G x tbl) (hg : Gl X x) (hex : X.ex = []) (hs : X.stack = X.env :: X.outer) (hf : X.env.frame = some X.env.locals) (hN : X.N.Nodup) (hi : X.N[i]? = some n) (hln : X.env.kindOf n = some .local) (tk : Takes X Wout)
    (hb : ∀ (W : WX) (pn : List (Addr × Obj)) (xe : Value → Shared → Prop), Takes (X.tr pn xe) W → PassesOwn (model X.prog X.w) X.A X.env xe → PSs (X.tr pn xe) body (tS G W mb))
    (hsu : ∀ (a : Addr) (pn : List (Addr × Obj)), PSs (X.suite a pn) (b₀ :: suite) (tS G noW ms))
    (hdb : (x == ("__debug__" : Str)) = false := by decide) :
    PS X (.Try body [.ExceptHandler (some (.Name x np)) (some n) (b₀ :: suite) pos'] [] [] pos) (tS G Wout (sTryB i tbl mb ms)) := by
  obtain ⟨c, hm, T⟩ := T.ex
  refine (ps_tryBind (ts := tsB G ms) hs hf hex hN hi hln ⟨hg, hdb, .inl (by rw [hM]; exact hm)⟩ tk hb (fun a cls d pn => hsu a pn)).weak fun D σ H q => ?_
  rw [hK]
  exact tryB_t T q
end
/-- behind a try whose suite reads the exception -/
theorem w_tryB {i : Nat} {tbl : List (Str × Bool)} {mb ms : M Fl} {s : S} {Q : Fl → S → Prop} {E : Exc → S → Prop}
    (h : wv (mb s) Q (fun x s' => match tbl.lookup x.cls with
      | some true => i < s'.env.length ∧ wv (ms ⟨setS s'.env i (some (.fz (.xok x.cls x.fs))), s'.mu⟩) (fun f s2 => Q f ⟨setS s2.env i none, s2.mu⟩) noQ
      | some false => E x s'
      | none => False)) : wv (sTryB i tbl mb ms s) Q E := by
  simp only [wv_eq] at *
  show wp (tkB i tbl ms (mb s)) Q E
  cases e : mb s with
  | no => rw [e] at h; exact h
  | ok f s' => rw [e] at h; exact h
  | exc x s' =>
    rw [e] at h
    have h : match tbl.lookup x.cls with
      | some true => i < s'.env.length ∧ wp (ms ⟨setS s'.env i (some (.fz (.xok x.cls x.fs))), s'.mu⟩) (fun f s2 => Q f ⟨setS s2.env i none, s2.mu⟩) noQ
      | some false => E x s'
      | none => False := h
    unfold tkB
    dsimp only
    cases hl : tbl.lookup x.cls with
    | none => rw [hl] at h; exact h
    | some b =>
      rw [hl] at h
      cases b with
      | false => exact h
      | true =>
        dsimp only at h ⊢
        rw [if_pos h.1]
        have h2 := h.2
        cases e5 : ms ⟨setS s'.env i (some (.fz (.xok x.cls x.fs))), s'.mu⟩ with
        | no => rw [e5] at h2; exact h2
        | exc y s2 => rw [e5] at h2; exact h2.elim
        | ok f s2 => rw [e5] at h2; exact h2
end L2.Tr
namespace L2.Tr
open PySem PySem.Spec PyProof.Rows L2 L2.Pc
/-! ### texts parted and counted -/
variable {G : Gi}
def splitD (x : D) (ds : List D) : Option O := match x, ds with
  | .str a, [.str b] => if b.length ≠ 0 ∧ a.length ≤ 16777214 then some (.lst ((Txt.split a b).map .str)) else none
  | _, _ => none
abbrev rSplit : V → List V → Hp → VK → Prop := fun x xs H Q => ∃ a b, x = .str a ∧ xs = [.str b] ∧ (b.length == 0) = false ∧ a.length + 2 ≤ sizeLine ∧ rNewStrs (Txt.split a b) H Q
theorem mt_splitM {X : Cx} : MtR X "str.split" rSplit := mt_split
theorem d_split : MnD G rSplit splitD := by
  intro st σ c x vs ox fx ds o Q r tx rv e q
  have vx := own_view r tx
  generalize ox.toD = dx at *
  unfold splitD at e
  split at e
  · split at e
    · rename_i hl
      cases e
      obtain rfl : x = _ := vx
      cases rv with
      | cons h hs =>
        cases h; cases hs
        exact ⟨_, _, rfl, rfl, by simpa using hl.1, by rw [szl]; omega, finL r (rpA_ofStrs _) q⟩
    · cases e
  · cases e
def countD (x : D) (ds : List D) : Option O := match x, ds with
  | .str a, [.str b] => some (.fz (.int (Txt.count a b)))
  | _, _ => none
abbrev rCount : V → List V → Hp → VK → Prop := fun x xs H Q => ∃ a b, x = .str a ∧ xs = [.str b] ∧ Q (.int (Txt.count a b)) H
theorem mt_countM {X : Cx} : MtR X "str.count" rCount := mt_count
theorem d_count : MnD G rCount countD := by
  intro st σ c x vs ox fx ds o Q r tx rv e q
  have vx := own_view r tx
  generalize ox.toD = dx at *
  unfold countD at e
  split at e
  · cases e
    obtain rfl : x = _ := vx
    cases rv with
    | cons h hs =>
      cases h; cases hs
      exact ⟨_, _, rfl, rfl, fin r (.int _) q⟩
  · cases e
theorem sk_split {a b : Str} (hb : b.length ≠ 0) (ha : a.length ≤ 16777214) : splitD (.str a) [.str b] = some (.lst ((Txt.split a b).map .str)) := if_pos ⟨hb, ha⟩
end L2.Tr
namespace L2.Tr
open PySem PySem.Spec PyProof.Rows L2 L2.Pc
/-! ### raise X('m'): own classes without an own __init__ -/
end L2.Tr
namespace L2.Tr
open PySem PySem.Spec PyProof.Rows L2 L2.Pc
/-! ### xs[a::k] of lists: from a place on, each k-th -/
def stepI (a k : Int) (n : Nat) : List Nat := sliceRange (sliceBounds (some a) none (some k) n).1 (sliceBounds (some a) none (some k) n).2.1 (sliceBounds (some a) none (some k) n).2.2
def pickN {α : Type} (ns : List Nat) (xs : List α) : List α := ns.filterMap (xs[·]?)
theorem vals_pick {xs : List V} {us : List Value} (h : Vals xs us) : ∀ ns : List Nat, Vals (pickN ns xs) (pickN ns us)
  | [] => .nil
  | i :: ns => by
    have ih := vals_pick h ns
    unfold pickN at *
    rw [List.filterMap_cons, List.filterMap_cons]
    cases e : xs[i]? with
    | some x =>
      obtain ⟨u, h1, h2⟩ := Vals.get h e
      rw [h1]
      exact .cons h2 ih
    | none =>
      have : us[i]? = none := List.getElem?_eq_none (by rw [← h.length]; exact List.getElem?_eq_none_iff.mp e)
      rw [this]
      exact ih
theorem rpA_pick {G : Gi} {F : Hp} {al : List Addr} {vs : List V} {ds : List D} (h : RpA G F al vs ds) : ∀ ns : List Nat, RpA G F al (pickN ns vs) (pickN ns ds)
  | [] => .nil
  | i :: ns => by
    have ih := rpA_pick h ns
    unfold pickN at *
    rw [List.filterMap_cons, List.filterMap_cons]
    cases e : vs[i]? with
    | some v =>
      obtain ⟨d, h1, h2⟩ := RpA.getV h e
      rw [h1]
      exact .cons h2 ih
    | none =>
      have : ds[i]? = none := List.getElem?_eq_none (by rw [← h.len]; exact List.getElem?_eq_none_iff.mp e)
      rw [this]
      exact ih
theorem pick_le {α : Type} (ns : List Nat) (xs : List α) : (pickN ns xs).length ≤ ns.length := List.length_filterMap_le _ _
theorem step_le (a : Int) (n : Nat) : (stepI a 2 n).length ≤ n := by
  unfold stepI
  refine sliceRange_length_le _ _ _ n (fun _ => ?_) (fun h => absurd (by decide : (2 : Int) > 0) h)
  have e1 : (sliceBounds (some a) none (some 2) n).1 = max 0 (min (if a < 0 then a + n else a) n) := by simp [sliceBounds]
  have e2 : (sliceBounds (some a) none (some 2) n).2.1 = n := by simp [sliceBounds]
  rw [e1, e2]
  omega
theorem pick_arr (its : List Value) (a : Int) : slicePick its.toArray (some a) none (some 2) = (pickN (stepI a 2 its.length) its).toArray := by
  unfold slicePick stepI pickN
  rw [List.size_toArray]
  have e : (fun i : Nat => its.toArray[i]?) = (fun i : Nat => its[i]?) := funext fun i => by simp
  rw [e]
def tEv (K : PySem.W.Frag) (a : Int) (te : TE) : TE := fun σ H Q => te σ H fun x H1 => ∃ l xs, x = .ref l ∧ SqL K H1 l xs ∧ ∀ p, H1 p = none → Q (.ref p) (upd H1 p (.lst (pickN (stepI a 2 xs.length) xs)))
section
variable {X : Cx} {G : Gi} {W : WX} {e : Expr} {te : TE} {m : M O} {a : Int} {k k2 : Nat} {p1 p2 p3 pos : Pos}
theorem pe_ev (he : PE X e te) : PE X (.Subscript e (.Slice (some (.Constant (.int a) k p1)) none (some (.Constant (.int 2) k2 p2)) p3) pos) (tEv X.K a te) := by
  refine ⟨fun pins s σ H Q I h => Subscript_ (thn (he.run pins s σ H _ I h) fun v s1 ⟨x, H1, I1, r1, l, xs, ex, hx, q⟩ => ?_)⟩
  subst ex
  cases r1
  have hlo : PO X (some (.Constant (.int a) k p1)) (tPart (tC (.int a))) := po_some pe_int
  have hst : PO X (some (.Constant (.int 2) k2 p2)) (tPart (tC (.int 2))) := po_some pe_int
  refine wpAny_Slice (thn (hlo.run pins s1 σ H1 (fun o H2 => o = some a ∧ H2 = H1) I1 ⟨a, rfl, rfl, rfl⟩) fun vl s2 ⟨lo, H2, I2, pl, el, e2⟩ => ?_)
  subst el e2
  refine thn (po_none.run pins s2 σ H2 (fun o H3 => o = none ∧ H3 = H2) I2 ⟨rfl, rfl⟩) fun vu s3 ⟨u, H3, I3, pu, eu, e3⟩ => ?_
  subst eu e3
  refine thn (hst.run pins s3 σ H3 (fun o H4 => o = some 2 ∧ H4 = H3) I3 ⟨2, rfl, rfl, rfl⟩) fun vs s4 ⟨o, H4, I4, ps, eo, e4⟩ => ?_
  subst eo e4
  have I5 : Inv X pins σ H4 { s4 with heap := s4.heap.push { cls := .type "slice", data := .fields #[vl, vu, vs] } } := I4.kept (t' := s4.toks) fun b ob q => Heap.get?_push_of_some _ q
  show wpAny (model X.prog X.w) X.A (subscriptTail e (.Slice (some (.Constant (.int a) k p1)) none (some (.Constant (.int 2) k2 p2)) p3) (.ref l) (.ref s4.heap.objs.size)) (EP X pins σ Q) X.xe { s4 with heap := s4.heap.push { cls := .type "slice", data := .fields #[vl, vu, vs] } }
  obtain ⟨its, r, ht, hz⟩ := I5.list hx
  have hlen := r.length
  refine tail_any (ops := [.ref l, .ref s4.heap.objs.size]) ht.isList.typeIs (PySem.slot_list_getitem.lookup) (wpAny_getItem_list_slice ht.isList (Heap.IsSliceOf.new _ vl vu vs) pl pu ps (by decide) ?_ (by rw [List.size_toArray]; omega)) (by with_unfolding_all rfl)
  rw [pick_arr, ← hlen]
  exact ⟨.ref _, _, I5.laid (t' := s4.toks) (o := .lst (pickN (stepI a 2 xs.length) xs)) (fun b ob q => Heap.get?_push_of_some _ q) (Nat.le_refl _) ⟨Nat.le_trans (pick_le _ _) (Nat.le_trans (step_le _ _) hz), _, 0, vals_pick r _, Heap.get?_push_size _ rfl⟩, rfl, q _ (I5.hok.fresh (Nat.le_refl _))⟩
/-- xs[a::2] of lists -/
def evD (a : Int) : D → Option O
  | .lst ds => some (.lst (pickN (stepI a 2 ds.length) ds))
  | .lsk ds => some (.lst (pickN (stepI a 2 ds.length) ds))
  | _ => none
def rEv (K : PySem.W.Frag) (a : Int) : V → Hp → VK → Prop := fun x H1 Q => ∃ l xs, x = .ref l ∧ SqL K H1 l xs ∧ ∀ p, H1 p = none → Q (.ref p) (upd H1 p (.lst (pickN (stepI a 2 xs.length) xs)))
theorem d_ev : UnD G (rEv G.K a) (evD a) := by
  intro st σ c x ox fx o Q r tx e q
  have vx := own_view r tx
  generalize ox.toD = dx at *
  unfold evD at e
  split at e
  · cases e; obtain ⟨l, xs, rfl, hx, rx⟩ := vx; exact ⟨l, xs, rfl, .inl (.inl hx), by rw [rx.len]; exact finL r (rpA_pick rx _) q⟩
  · cases e; obtain ⟨l, xs, rfl, hx, rx⟩ := vx; exact ⟨l, xs, rfl, hx, by rw [rx.len]; exact finL r (rpA_pick rx _) q⟩
  · cases e
theorem x_ev (hK : X.K = G.K) (he : PE X e (tLa G W m)) : PE X (.Subscript e (.Slice (some (.Constant (.int a) k p1)) none (some (.Constant (.int 2) k2 p2)) p3) pos) (tO G W (xUn (evD a) m)) :=
  (pe_ev he).weak fun σ H Q q => by
    rw [hK]
    exact un_t d_ev q
theorem sk_ev {ds : List D} : evD a (.lst ds) = some (.lst (pickN (stepI a 2 ds.length) ds)) := rfl
end
end L2.Tr
namespace L2.Tr
open PySem PySem.Spec PyProof.Rows L2 L2.Pc
/-! ### a, b = a list -/
def lstOf : D → Option (List D)
  | .lst ds => some ds
  | .lsk ds => some ds
  | _ => none
def gL (ts : List MT) : MT := fun d s => (lstOf d).bind fun ds => gsN ts ds s
theorem tg_unl {G : Gi} {gs : TGs} {ts : List MT} {n : Nat} (h : TgsOk G gs ts) (hn : ts.length = n) : TgOk G (gUnl G.K n gs) (gL ts) := by
  intro st st' σ c v d Q r hv e q
  obtain ⟨ds, e1, e2⟩ := bind_some e
  have hl := gsN_len e2
  have vv := rp_view r hv
  cases d with
  | lst ds' =>
    cases e1
    obtain ⟨a, xs, rfl, hx, rx⟩ := vv
    exact ⟨a, xs, rfl, .inl (.inl hx), by rw [rx.len]; omega, h st st' σ c xs _ Q r rx e2 q⟩
  | lsk ds' =>
    cases e1
    obtain ⟨a, xs, rfl, hx, rx⟩ := vv
    exact ⟨a, xs, rfl, hx, by rw [rx.len]; omega, h st st' σ c xs _ Q r rx e2 q⟩
  | _ => cases e1
theorem tg_unlK {G : Gi} {K : PySem.W.Frag} {gs : TGs} {ts : List MT} {n : Nat} (hK : G.K = K) (h : TgsOk G gs ts) (hn : ts.length = n := by rfl) : TgOk G (gUnl K n gs) (gL ts) := hK ▸ tg_unl h hn
section
variable {X : Cx} {pos : Pos}
theorem pg_unlK {es : List Expr} {k : Nat} {t : TGs} {n : Nat} {K : PySem.W.Frag} (hK : X.K = K) (hc : X.calm = true) (h : PGs X es t)
    (hn : (assignEach es X.env).length = n := by rfl) (hst : (assignEach es X.env).findIdx? (·.1) = none := by rfl) : PG X (.Tuple es k pos) (gUnl K n t) := hK ▸ pg_unl hc h hn hst
end
theorem sk_gL {ts : List MT} {ds : List D} {s : S} : gL ts (.lst ds) s = gsN ts ds s := rfl
end L2.Tr
namespace F05
open PySem PyProof.Rows L2 L2.Pc L2.Tr
def topS (i : Nat) : Stmt := PySem.Challenge.pw_pinnedcards_k05_cards_read.main.body.getD i (.Pass ⟨0, 0, 0, 0⟩)
abbrev s_is_whole : Stmt := topS 8
theorem sc_is_whole : FnScope ["thing", "least", "most"] ["thing", "least", "most"] (defScope s_is_whole) :=
  ⟨rfl, rfl, rfl, by decide +kernel, rfl, by decide +kernel, by decide +kernel⟩
abbrev s_is_moment : Stmt := topS 9
theorem sc_is_moment : FnScope ["thing"] ["thing"] (defScope s_is_moment) :=
  ⟨rfl, rfl, rfl, by decide +kernel, rfl, by decide +kernel, by decide +kernel⟩
abbrev s_number_of : Stmt := topS 10
theorem sc_number_of : FnScope ["text", "least", "most"] ["text", "least", "most"] (defScope s_number_of) :=
  ⟨rfl, rfl, rfl, by decide +kernel, rfl, by decide +kernel, by decide +kernel⟩
abbrev s_show_moment : Stmt := topS 11
theorem sc_show_moment : FnScope ["moment"] ["moment"] (defScope s_show_moment) :=
  ⟨rfl, rfl, rfl, by decide +kernel, rfl, by decide +kernel, by decide +kernel⟩
abbrev s_moment_of : Stmt := topS 12
theorem sc_moment_of : FnScope ["text", "days", "day", "sign", "hour"] ["text"] (defScope s_moment_of) :=
  ⟨rfl, rfl, rfl, by decide +kernel, rfl, by decide +kernel, by decide +kernel⟩
abbrev s_is_name : Stmt := topS 19
theorem sc_is_name : FnScope ["thing"] ["thing"] (defScope s_is_name) :=
  ⟨rfl, rfl, rfl, by decide +kernel, rfl, by decide +kernel, by decide +kernel⟩
abbrev s_Card_init : Stmt := inClass (topS 20) 0
theorem sc_Card_init : FnScope ["self", "name", "wide", "high", "until", "strips"] ["self", "name", "wide", "high", "until", "strips"] (defScope s_Card_init) :=
  ⟨rfl, rfl, rfl, by decide +kernel, rfl, by decide +kernel, by decide +kernel⟩
abbrev s_Card_str : Stmt := inClass (topS 20) 2
theorem sc_Card_str : FnScope ["self", "words"] ["self"] (defScope s_Card_str) :=
  ⟨rfl, rfl, rfl, by decide +kernel, rfl, by decide +kernel, by decide +kernel⟩
abbrev s_sizes_of : Stmt := topS 21
theorem sc_sizes_of : FnScope ["word", "sign", "least", "most", "parts", "numbers", "part"] ["word", "sign", "least", "most"] (defScope s_sizes_of) :=
  ⟨rfl, rfl, rfl, by decide +kernel, rfl, by decide +kernel, by decide +kernel⟩
abbrev s_behind_word : Stmt := topS 22
theorem sc_behind_word : FnScope ["words", "word"] ["words", "word"] (defScope s_behind_word) :=
  ⟨rfl, rfl, rfl, by decide +kernel, rfl, by decide +kernel, by decide +kernel⟩
abbrev s_card_of : Stmt := topS 23
theorem sc_card_of : FnScope ["words", "sizes", "until", "strips", "when", "rest", "many"] ["words"] (defScope s_card_of) :=
  ⟨rfl, rfl, rfl, by decide +kernel, rfl, by decide +kernel, by decide +kernel⟩
abbrev s_read_card : Stmt := topS 24
theorem sc_read_card : FnScope ["text", "found"] ["text"] (defScope s_read_card) :=
  ⟨rfl, rfl, rfl, by decide +kernel, rfl, by decide +kernel, by decide +kernel⟩
abbrev s_law_begin : Stmt := topS 26
theorem sc_law_begin : FnScope ["_law_script", "_law_k", "_law_one", "_law_cell", "_law_seed"] ["_law_script", "_law_k"] (defScope s_law_begin) :=
  ⟨rfl, rfl, rfl, by decide +kernel, rfl, by decide +kernel, by decide +kernel⟩
abbrev s_law_draw : Stmt := topS 27
theorem sc_law_draw : FnScope ["_law_pot", "_law_many", "_law_go", "_law_mixed", "_law_digit"] ["_law_pot", "_law_many"] (defScope s_law_draw) :=
  ⟨rfl, rfl, rfl, by decide +kernel, rfl, by decide +kernel, by decide +kernel⟩
abbrev s_law_moment : Stmt := topS 28
theorem sc_law_moment : FnScope ["_law_pot", "_law_some"] ["_law_pot"] (defScope s_law_moment) :=
  ⟨rfl, rfl, rfl, by decide +kernel, rfl, by decide +kernel, by decide +kernel⟩
abbrev s_law_when : Stmt := topS 29
theorem sc_law_when : FnScope ["_law_at"] ["_law_at"] (defScope s_law_when) :=
  ⟨rfl, rfl, rfl, by decide +kernel, rfl, by decide +kernel, by decide +kernel⟩
abbrev s_law_name : Stmt := topS 30
theorem sc_law_name : FnScope ["_law_pot", "_law_some", "_law_own", "_law_kept", "_law_k"] ["_law_pot"] (defScope s_law_name) :=
  ⟨rfl, rfl, rfl, by decide +kernel, rfl, by decide +kernel, by decide +kernel⟩
abbrev s_law_card : Stmt := topS 31
theorem sc_law_card : FnScope ["_law_pot", "_law_last", "_law_torn", "_law_sides", "_law_k"] ["_law_pot"] (defScope s_law_card) :=
  ⟨rfl, rfl, rfl, by decide +kernel, rfl, by decide +kernel, by decide +kernel⟩
abbrev s_law_card_text : Stmt := topS 32
theorem sc_law_card_text : FnScope ["_law_one", "_law_told"] ["_law_one"] (defScope s_law_card_text) :=
  ⟨rfl, rfl, rfl, by decide +kernel, rfl, by decide +kernel, by decide +kernel⟩
abbrev s_law_odd : Stmt := topS 33
theorem sc_law_odd : FnScope ["_law_pot", "_law_thing", "_law_some", "_law_found", "_law_turn"] ["_law_pot", "_law_thing"] (defScope s_law_odd) :=
  ⟨rfl, rfl, rfl, by decide +kernel, rfl, by decide +kernel, by decide +kernel⟩
abbrev s_law_bent : Stmt := topS 34
theorem sc_law_bent : FnScope ["_law_pot", "_law_told", "_law_words", "_law_sign", "_law_some", "_law_word", "_law_at", "_law_far", "_law_way"] ["_law_pot", "_law_told"] (defScope s_law_bent) :=
  ⟨rfl, rfl, rfl, by decide +kernel, rfl, by decide +kernel, by decide +kernel⟩
abbrev s_law_number : Stmt := topS 35
theorem sc_law_number : FnScope ["_law_word", "_law_least", "_law_most", "_law_number_here", "_law_sign"] ["_law_word", "_law_least", "_law_most"] (defScope s_law_number) :=
  ⟨rfl, rfl, rfl, by decide +kernel, rfl, by decide +kernel, by decide +kernel⟩
abbrev s_law_moment_of : Stmt := topS 36
theorem sc_law_moment_of : FnScope ["_law_word", "_law_days", "_law_day", "_law_hour", "_law_sign"] ["_law_word"] (defScope s_law_moment_of) :=
  ⟨rfl, rfl, rfl, by decide +kernel, rfl, by decide +kernel, by decide +kernel⟩
abbrev s_law_is_name : Stmt := topS 37
theorem sc_law_is_name : FnScope ["_law_word", "_law_kept", "_law_sign"] ["_law_word"] (defScope s_law_is_name) :=
  ⟨rfl, rfl, rfl, by decide +kernel, rfl, by decide +kernel, by decide +kernel⟩
abbrev s_law_due : Stmt := topS 38
theorem sc_law_due : FnScope ["_law_thing", "_law_words", "_law_across", "_law_down", "_law_last", "_law_torn", "_law_marks", "_law_mark", "_law_word", "_law_number_here", "_law_part"] ["_law_thing"] (defScope s_law_due) :=
  ⟨rfl, rfl, rfl, by decide +kernel, rfl, by decide +kernel, by decide +kernel⟩
abbrev s_law_read : Stmt := topS 39
theorem sc_law_read : FnScope ["_law_thing", "_law_found", "e", "_law_one"] ["_law_thing"] (defScope s_law_read) :=
  ⟨rfl, rfl, rfl, by decide +kernel, rfl, by decide +kernel, by decide +kernel⟩
abbrev s_law : Stmt := topS 40
theorem sc_law : FnScope ["_law_script", "_law_k", "_law_pot", "_law_one", "_law_told", "_law_tour", "_law_bent_here", "_law_thing", "_law_due_here"] ["_law_script"] (defScope s_law) :=
  ⟨rfl, rfl, rfl, by decide +kernel, rfl, by decide +kernel, by decide +kernel⟩
structure Ad where
  no : Unit
abbrev XT : CTab := [("NoText", ["text"])]
abbrev CT : CTab := [("Card", ["name", "wide", "high", "until", "strips"])]
abbrev CLS : List Str := ["Card"]
structure Tx (G : Gi) (w : World) : Prop where
  xo : G.xo = none
  kx : Kx G XT
  h_NoText : HdN G "NoText" [("NoText", true)]
  MOMENTS : Gc G "MOMENTS" (.int 9600)
  HOURS : Gc G "HOURS" (.int 24)
  FIGURES : Gc G "FIGURES" (.str "0123456789")
  LETTERS : Gc G "LETTERS" (.str "abcdefghijklmnopqrstuvwxyz")
  LONGEST : Gc G "LONGEST" (.int 8)
  WORDS : Gc G "WORDS" (.tuk [(.str "pin"), (.str "again"), (.str "move"), (.str "take"), (.str "tear"), (.str "at"), (.str "to"), (.str "until"), (.str "strips"), (.str "known")])
  MOST_SIDE : Gc G "MOST_SIDE" (.int 9)
  MOST_STRIPS : Gc G "MOST_STRIPS" (.int 99)
  b_ValueError : G.mg "ValueError" = none
  b_abs : G.mg "abs" = none
  b_all : G.mg "all" = none
  b_bool : G.mg "bool" = none
  b_int : G.mg "int" = none
  b_isinstance : G.mg "isinstance" = none
  b_len : G.mg "len" = none
  b_range : G.mg "range" = none
  b_repr : G.mg "repr" = none
  b_str : G.mg "str" = none
  b_zip : G.mg "zip" = none
  kc : Kc G CT
  isT : IsT G CLS
  c_Card : Gc G "Card" (.fn "Card")
-- finding what is known: an object at an address, what a value holds
local macro_rules | `(tactic| walk_at "ca") => `(tactic| first
  | assumption
  | exact upd_same
  | (refine L2.Same.at (by assumption) ?_; walk_at "ca")
  | (refine Mx.at (by assumption) ?_ rfl; walk_at "ca")
  | (refine Eq.trans (upd_ne ?_) ?_; rotate_left; (walk_at "ca"); (walk_at "ne")))
local macro_rules | `(tactic| walk_at "ne") => `(tactic| first
  | assumption
  | (refine Ne.symm ?_; assumption)
  | (refine ne_of_none (o := ?no) ?nh (by assumption); (case nh => walk_at "ca"))
  | (refine Ne.symm (ne_of_none (o := ?no) ?nh (by assumption)); (case nh => walk_at "ca"))
  | (refine ne_of (by assumption) (by assumption) ?_; (intro z; cases z)))
local macro_rules | `(tactic| walk_at "sq") => `(tactic| first
  | assumption
  | (refine SqL.of ?_; walk_at "ca")
  | (refine SqT.of ?_; walk_at "ca")
  | exact Kt.sq (by assumption) _
  | (refine L2.SqL.mx (L2.Same.mx (by assumption)) ?_; walk_at "sq")
  | (refine L2.SqT.mx (L2.Same.mx (by assumption)) ?_; walk_at "sq")
  | (refine L2.SqL.mx (by assumption) ?_; walk_at "sq")
  | (refine L2.SqT.mx (by assumption) ?_; walk_at "sq"))
local macro_rules | `(tactic| walk_at "da") => `(tactic| first
  | assumption
  | exact Da.non
  | exact Da.bl _
  | exact Da.int _
  | exact Da.str _
  | (refine Da.mx (L2.Same.mx (by assumption)) ?_; walk_at "da")
  | (refine Da.mx (by assumption) ?_; walk_at "da"))
local macro_rules | `(tactic| walk_at "sz") => `(tactic| first
  | assumption
  | omega
  | (constructor <;> omega)
  | (refine Or.inl (Or.inl ⟨?_, ?_⟩) <;> omega)
  | (refine Or.inl (Or.inr ⟨?_, ?_⟩) <;> omega)
  | (refine Or.inr ?_; assumption)
  | (rw [szl]; first | assumption | omega | (simp only [strLen_append, one_len]; omega) | (simp only [List.length_cons, List.length_nil, List.length_append, List.length_map, List.length_take, List.length_drop, List.length_replicate, List.length_set]; omega))
  | decide
  | (rw [szl]; decide))
local macro_rules | `(tactic| walk_at "mx") => `(tactic| first
  | assumption
  | exact Mx.refl _
  | exact L2.Same.mx (by assumption)
  | (refine Mx.trans ?_ (L2.Same.mx (by assumption)); walk_at "mx")
  | (refine Mx.trans ?_ (by assumption); walk_at "mx"))
-- one step of a reading
local macro_rules | `(tactic| walk_at "sqo") => `(tactic| first
  | (refine Or.inl ?_; walk_at "sq"; done)
  | (refine Or.inr ?_; walk_at "sq"; done)
  | (walk_at "sq"; done)
  | (walk_at "ca"; done))
local macro_rules | `(tactic| walk_at "st") => `(tactic| first
  | (refine Step.imp ?_)
  | (refine g_new ?_; intro p H' hp he hv)
  | (refine g_kT ?_ ?_; assumption)
  | (refine g_kF ?_ ?_; assumption)
  | (refine g_knT ?_ ?_; assumption)
  | (refine g_knF ?_ ?_; assumption)
  | (refine g_draw (n := ?dm) ?dp ?d1 ?d2 ?dn ?dq; (case dp => walk_at "ca"); (case d1 => first | decide | omega); (case d2 => first | decide | omega); (case dn => first | omega | assumption); intro r H' r0 r1 x7 hp7)
  | (refine ⟨(by rfl : wipe _ _ = _), ?_⟩)
  | (refine ⟨(by rfl : flatV _ = true), (by first | rfl | decide +kernel : List.all _ flatV = true), ?_⟩)
  | (refine ⟨(by rfl : List.length _ = _), ?_⟩)
  | (refine StepZ.imp ?zc ?zn; case zc => ((try dsimp only); walk_at "sz"))
  | (refine StepQ.imp ?qx ?qc ?qn; case qc => ((try dsimp only); walk_at "sqo"))
  | (refine ⟨_, (by assumption : atI _ _ = some _), ?_⟩)
  | (refine ⟨_, (by assumption : PySem.intText? _ = some _), ?_⟩)
  | (refine ⟨_, (by with_unfolding_all rfl : atI _ _ = some _), ?_⟩)
  | (refine ⟨_, (by with_unfolding_all rfl : ixN _ _ = some _), ?_⟩)
  | (refine StepD.imp ?dx ?dc ?dn; case dc => ((try dsimp only); walk_at "da")))
local macro_rules | `(tactic| walk_at "go") => `(tactic| (repeat (walk_at "st"); try dsimp only))
abbrev s_NoText_init : Stmt := inClass (topS 2) 0
theorem sc_NoText_init : FnScope ["self", "text"] ["self", "text"] (defScope s_NoText_init) :=
  ⟨rfl, rfl, rfl, by decide +kernel, rfl, by decide +kernel, by decide +kernel⟩
theorem xi_NoText {P : Program} {w : World} {K : PySem.W.Frag} {mg : Str → Option Value} {base : Heap} {f : Addr} {fd : FuncData} {C CB fI : Addr} (B : XbK K mg "CardError" CB) (X : XcK K mg "NoText" C fI ["text"]) (F : Df K "__init__" "NoText.__init__" s_NoText_init f fd) :
    FnOk P w K mg base CX0 1 f fd ["self", "text"] (SpXi C 1 (fun ys => ((["text"] : List Str).zip ys).reverse)) := by
  refine Df.okF F sc_NoText_init (fun vs H Q E h => by obtain ⟨a, ys, rfl, hl, _⟩ := h; rw [List.length_cons, hl]; rfl) (fun cdv A outer s H vs Q E h => ?_)
  obtain ⟨a, ys, rfl, hl, ha, q⟩ := h
  match ys, hl, q with
  | [y0], _, q =>
  refine ⟨_, (pss_cons (ps_expr (pe_cinit (K := K) rfl B (by rfl) (pa_cons (pv 0) (pa_cons pe_str pa_nil)))) (pss_one (ps_ostK (K := K) rfl (pv 0) (pv 1)))), ?_⟩
  rw [show start ["self", "text"] [.ref a, y0] = [some (.ref a), some y0] from rfl]; try dsimp only [cxOf, Cx.nox, Cx.wish]
  walk_at "go"
  refine ⟨a, C, _, rfl, by decide, X.oe, ha, ?_⟩
  walk_at "go"
  refine ⟨a, C, rfl, X.oe, X.no _ (by simp), .inl ⟨ha, fun dx nd ne => ?_⟩⟩
  walk_at "go"
  exact q dx nd ne
section
variable {P : Program} {w : World} {G : Gi} {base : Heap} {ad : Ad} {f : Addr} {fd : FuncData}
--! raises read_card
--! xkept _law_read | e
--! xrows NoText
--! exci NoText
--! unl _law_due | (_law_across, _law_down)
--! indeep _law_due | _law_marks not in ([], ['until'], ['strips'], ['until', 'strips'])
--! only * __str__ |
--! only _law_read __str__ | Card
--! only * __repr__ |
--! only * __eq__ |
--! only * __len__ |
noncomputable def m_is_whole : MF := fnM 3
    (sRet (xAndV (xCn isiD (aCons (frz (xVar 0)) (aCons (ret (.ty "int")) aNil))) (xAndV (xNotV (xCn isiD (aCons (frz (xVar 0)) (aCons (ret (.ty "bool")) aNil)))) (xChain leD leD (xBor 1) (xBor 0) (xRd 2)))))
theorem fn_is_whole (T : Tx G w) (F : Df G.K "is_whole" "is_whole" s_is_whole f fd) :
    FnT P w G base false 1 f fd ["thing", "least", "most"] m_is_whole := by
  refine Df.okT (N := ["thing", "least", "most"]) F sc_is_whole (fun cdv A outer s H E hga hr => ?_)
  exact (ss_one (s_ret (x_and (x_bn (k_isi rfl) d_isi (by rfl) T.b_isinstance bt_isinstance (xa_cons (x_frz (tv 0)) (xa_cons (x_ty (by rfl) T.b_int bt_int) xa_nil))) (x_and (x_not (x_bn (k_isi rfl) d_isi (by rfl) T.b_isinstance bt_isinstance (xa_cons (x_frz (tv 0)) (xa_cons (x_ty (by rfl) T.b_bool bt_bool) xa_nil)))) (x_one (x_chain op_le op_le d_le d_le (tb 1) (tb 0) (tr 2)))))))
noncomputable def m_is_moment : MF := fnM 1
    (sRet (xCall m_is_whole (fun ds _ => ds) 3 (nK []) (aCons (frz (xVar 0)) (aCons (frz (xC (.int 0))) (aCons (frz (xOp subD (xC (.int 9600)) (xC (.int 1)))) aNil))) aNil))
theorem fn_is_moment (T : Tx G w) (F : Df G.K "is_moment" "is_moment" s_is_moment f fd)
    (K_is_whole : KnT P w G base false "is_whole" 1 3 [] (fun ds _ => ds) m_is_whole) :
    FnT P w G base false 2 f fd ["thing"] m_is_moment := by
  refine Df.okT (N := ["thing"]) F sc_is_moment (fun cdv A outer s H E hga hr => ?_)
  exact (ss_one (s_ret (x_call rfl rfl K_is_whole nog (hr.mono (by decide)) (by rfl) (fun σ => passAt (takes_of rfl rfl rfl rfl) σ) (xa_cons (x_frz (tv 0)) (xa_cons (x_frz tc_int) (xa_cons (x_frz (x_op op_sub d_sub (x_bor (tg T.MOMENTS rfl (by rfl))) (x_las (x_bor tc_int)))) xa_nil))) xk_nil)))
noncomputable def m_number_of : MF := fnM 3
    (sSeq (sIf (bOr (bNot (toB (xChain leD leD (xC (.int 1)) (xUn lenD (xRd 0)) (xUn lenD (xUn strD (xRd 2)))))) (toB (xOp neD (xM1 stripD (xBor 0) (frz (xC (.str "0123456789")))) (xC (.str "")))))
    (sRet (xC .non))
    sNil)
    (sSeq (sIf (bAnd (toB (xOp eqD (xOpQ ixD (xRd 0) (fun _ => some (.int 0))) (xC (.str "0")))) (toB (xOp neD (xBor 0) (xC (.str "0")))))
    (sRet (xC .non))
    sNil)
    (sRet (xIf (toB (xChain leD leD (xBor 1) (xUn intD (xRd 0)) (xRd 2))) (xUn intD (xRd 0)) (xC .non)))))
theorem fn_number_of (T : Tx G w) (F : Df G.K "number_of" "number_of" s_number_of f fd) :
    FnT P w G base false 1 f fd ["text", "least", "most"] m_number_of := by
  refine Df.okT (N := ["text", "least", "most"]) F sc_number_of (fun cdv A outer s H E hga hr => ?_)
  exact (ss_cons (s_if (PW.pt (xw_or (xt_not (xt_chain op_le op_le d_le d_le (x_bor tc_int) (x_bor (x_b1 (k_len rfl) d_len (by rfl) T.b_len bt_len (tr 0))) (x_las (x_bor (x_b1 (k_len rfl) d_len (by rfl) T.b_len bt_len (x_las (x_bor (x_t1 call_strM d_str (by rfl) T.b_str bt_str (tr 2))))))))) (xw_or1 (xt_cmp (k_ne rfl (hu64 hr)) d_ne (x_bor (x_m1 PySem.F.slot_str_strip PySem.F.type_str_strip mt_stripM d_strip (tb 0) (x_frz (tg T.FIGURES rfl (by rfl))))) (x_las (x_bor tc_str)) (nomark _))))) (ss_one (s_ret tc_non)) ss_nil)
      (ss_cons (s_if (PW.pt (xw_and (xt_cmp (k_eq rfl (hu64 hr)) d_eq (x_bor (x_ixQ (k_ix rfl) d_ix (tr 0) tq_int (fun _ _ => rfl))) (x_las (x_bor tc_str)) (nomark _)) (xw_and1 (xt_cmp (k_ne rfl (hu64 hr)) d_ne (tb 0) (x_las (x_bor tc_str)) (nomark _))))) (ss_one (s_ret tc_non)) ss_nil)
      (ss_one (s_ret (x_if (xt_chain op_le op_le d_le d_le (tb 1) (x_bor (x_t1 call_intM d_int (by rfl) T.b_int bt_int (tr 0))) (tr 2)) (x_t1 call_intM d_int (by rfl) T.b_int bt_int (tr 0)) tc_non)))))
noncomputable def m_show_moment : MF := fnM 1
    (sRet (xOp addD (xOp addD (xUn strD (xOp divD (xBor 0) (xC (.int 24)))) (xC (.str "."))) (xM1 zfillD (xUn strD (xOp modD (xBor 0) (xC (.int 24)))) (frz (xC (.int 2))))))
theorem fn_show_moment (T : Tx G w) (F : Df G.K "show_moment" "show_moment" s_show_moment f fd) :
    FnT P w G base false 1 f fd ["moment"] m_show_moment := by
  refine Df.okT (N := ["moment"]) F sc_show_moment (fun cdv A outer s H E hga hr => ?_)
  exact (ss_one (s_ret (x_op (op_addA rfl) d_add (x_bor (x_op (op_addA rfl) d_add (x_bor (x_t1 call_strM d_str (by rfl) T.b_str bt_str (x_las (x_bor (x_op op_fdiv d_div (tb 0) (x_las (x_bor (tg T.HOURS rfl (by rfl))))))))) (x_las (x_bor tc_str)))) (x_las (x_bor (x_m1 PySem.F.slot_str_zfill PySem.F.type_str_zfill mt_zfillM d_zfill (x_bor (x_t1 call_strM d_str (by rfl) T.b_str bt_str (x_las (x_bor (x_op op_mod d_mod (tb 0) (x_las (x_bor (tg T.HOURS rfl (by rfl))))))))) (x_frz tc_int)))))))
noncomputable def m_moment_of : MF := fnM 5
    (sSeq (sAsgT (gT [(gN 2), (gN 3), (gN 4)]) (frz (xM1 partD (xBor 0) (frz (xC (.str "."))))))
    (sSeq (sAsg 1 (xCall m_number_of (fun ds _ => ds) 3 (nK []) (aCons (frz (xVar 2)) (aCons (frz (xC (.int 0))) (aCons (frz (xOp subD (xOp divD (xC (.int 9600)) (xC (.int 24))) (xC (.int 1)))) aNil))) aNil))
    (sSeq (sIf (bOr (toB (xOp isD (xBor 1) (xC .non))) (bOr (toB (xOp eqD (xBor 3) (xC (.str "")))) (bOr (toB (xOp neD (xUn lenD (xRd 4)) (xC (.int 2)))) (bOr (toB (xOp neD (xM1 stripD (xBor 4) (frz (xC (.str "0123456789")))) (xC (.str "")))) (toB (xOp geD (xUn intD (xRd 4)) (xC (.int 24))))))))
    (sRet (xC .non))
    sNil)
    (sRet (xOp addD (xOp mulD (xBor 1) (xC (.int 24))) (xUn intD (xRd 4)))))))
theorem fn_moment_of (T : Tx G w) (F : Df G.K "moment_of" "moment_of" s_moment_of f fd)
    (K_number_of : KnT P w G base false "number_of" 1 3 [] (fun ds _ => ds) m_number_of) :
    FnT P w G base false 2 f fd ["text"] m_moment_of := by
  refine Df.okT (N := ["text", "days", "day", "sign", "hour"]) F sc_moment_of (fun cdv A outer s H E hga hr => ?_)
  exact (ss_cons (s_asgT (x_frz (x_m1 PySem.F.slot_str_partition PySem.F.type_str_partition mt_partM d_part (tb 0) (x_frz tc_str))) (pg_tupK (K := G.K) rfl rfl (pgs_cons (pg_name (i := 2) sc_moment_of.nd rfl (by first | exact Or.inl rfl | exact Or.inr rfl)) (pgs_cons (pg_name (i := 3) sc_moment_of.nd rfl (by first | exact Or.inl rfl | exact Or.inr rfl)) (pgs_cons (pg_name (i := 4) sc_moment_of.nd rfl (by first | exact Or.inl rfl | exact Or.inr rfl)) pgs_nil)))) (tg_tupK rfl (tgs_cons tg_name (tgs_cons tg_name (tgs_cons tg_name tgs_nil)))))
      (ss_cons (s_asg (i := 1) sc_moment_of.nd rfl (by first | exact Or.inl rfl | exact Or.inr rfl) (x_call rfl rfl K_number_of nog (hr.mono (by decide)) (by rfl) (fun σ => passAt (takes_of rfl rfl rfl rfl) σ) (xa_cons (x_frz (tv 2)) (xa_cons (x_frz tc_int) (xa_cons (x_frz (x_op op_sub d_sub (x_bor (x_op op_fdiv d_div (x_bor (tg T.MOMENTS rfl (by rfl))) (x_las (x_bor (tg T.HOURS rfl (by rfl)))))) (x_las (x_bor tc_int)))) xa_nil))) xk_nil))
      (ss_cons (s_if (PW.pt (xw_or (xt_cmp op_isNo d_is (tb 1) (x_las (x_bor tc_non)) (nomark _)) (xw_or (xt_cmp (k_eq rfl (hu64 hr)) d_eq (tb 3) (x_las (x_bor tc_str)) (nomark _)) (xw_or (xt_cmp (k_ne rfl (hu64 hr)) d_ne (x_bor (x_b1 (k_len rfl) d_len (by rfl) T.b_len bt_len (tr 4))) (x_las (x_bor tc_int)) (nomark _)) (xw_or (xt_cmp (k_ne rfl (hu64 hr)) d_ne (x_bor (x_m1 PySem.F.slot_str_strip PySem.F.type_str_strip mt_stripM d_strip (tb 4) (x_frz (tg T.FIGURES rfl (by rfl))))) (x_las (x_bor tc_str)) (nomark _)) (xw_or1 (xt_cmp op_ge d_ge (x_bor (x_t1 call_intM d_int (by rfl) T.b_int bt_int (tr 4))) (x_las (x_bor (tg T.HOURS rfl (by rfl)))) (nomark _)))))))) (ss_one (s_ret tc_non)) ss_nil)
      (ss_one (s_ret (x_op (op_addA rfl) d_add (x_bor (x_op op_mulM d_mul (tb 1) (x_las (x_bor (tg T.HOURS rfl (by rfl)))))) (x_las (x_bor (x_t1 call_intM d_int (by rfl) T.b_int bt_int (tr 4))))))))))
noncomputable def m_is_name : MF := fnM 1
    (sSeq (sIf (bOr (bNot (toB (xCn isiD (aCons (frz (xVar 0)) (aCons (ret (.ty "str")) aNil))))) (bNot (toB (xChain leD leD (xC (.int 1)) (xUn lenD (xRd 0)) (xC (.int 8))))))
    (sRet (xC (.bl false)))
    sNil)
    (sRet (xAndV (xOp eqD (xM1 stripD (xBor 0) (frz (xC (.str "abcdefghijklmnopqrstuvwxyz")))) (xC (.str ""))) (xOp ninD (xBor 0) (xC (.tuk [(.str "pin"), (.str "again"), (.str "move"), (.str "take"), (.str "tear"), (.str "at"), (.str "to"), (.str "until"), (.str "strips"), (.str "known")]))))))
theorem fn_is_name (T : Tx G w) (F : Df G.K "is_name" "is_name" s_is_name f fd) :
    FnT P w G base false 1 f fd ["thing"] m_is_name := by
  refine Df.okT (N := ["thing"]) F sc_is_name (fun cdv A outer s H E hga hr => ?_)
  exact (ss_cons (s_if (PW.pt (xw_or (xt_not (xt_val (x_bn (k_isi rfl) d_isi (by rfl) T.b_isinstance bt_isinstance (xa_cons (x_frz (tv 0)) (xa_cons (x_ty (by rfl) T.b_str bt_str) xa_nil))))) (xw_or1 (xt_not (xt_chain op_le op_le d_le d_le (x_bor tc_int) (x_bor (x_b1 (k_len rfl) d_len (by rfl) T.b_len bt_len (tr 0))) (x_las (x_bor (tg T.LONGEST rfl (by rfl))))))))) (ss_one (s_ret tc_bl)) ss_nil)
      (ss_one (s_ret (x_and (x_cmp (k_eq rfl (hu64 hr)) d_eq (x_bor (x_m1 PySem.F.slot_str_strip PySem.F.type_str_strip mt_stripM d_strip (tb 0) (x_frz (tg T.LETTERS rfl (by rfl))))) (x_las (x_bor tc_str)) (nomark _)) (x_one (x_cmp (k_notIn rfl) d_nin (tb 0) (x_las (x_bor (tg T.WORDS rfl (by rfl)))) (by with_unfolding_all rfl)))))))
noncomputable def m_Card_init : MF := fnI 6 "Card"
    (sSeq (sIf (bNot (toB (xCall m_is_name (fun ds _ => ds) 1 (nK []) (aCons (frz (xVar 1)) aNil) aNil)))
    (fun _ => .no)
    sNil)
    (sSeq (sIf (bNot (toB (xCall m_is_whole (fun ds _ => ds) 3 (nK []) (aCons (frz (xVar 2)) (aCons (frz (xC (.int 1))) (aCons (frz (xC (.int 9))) aNil))) aNil)))
    (fun _ => .no)
    sNil)
    (sSeq (sIf (bNot (toB (xCall m_is_whole (fun ds _ => ds) 3 (nK []) (aCons (frz (xVar 3)) (aCons (frz (xC (.int 1))) (aCons (frz (xC (.int 9))) aNil))) aNil)))
    (fun _ => .no)
    sNil)
    (sSeq (sIf (bAnd (toB (xOp isntD (xBor 4) (xC .non))) (bNot (toB (xCall m_is_moment (fun ds _ => ds) 1 (nK []) (aCons (frz (xVar 4)) aNil) aNil))))
    (fun _ => .no)
    sNil)
    (sSeq (sIf (bNot (toB (xCall m_is_whole (fun ds _ => ds) 3 (nK []) (aCons (frz (xVar 5)) (aCons (frz (xC (.int 0))) (aCons (frz (xC (.int 99))) aNil))) aNil)))
    (fun _ => .no)
    sNil)
    (sSeq (sFldD CT "name" 0 (frz (xVar 1)))
    (sSeq (sFldD CT "wide" 0 (frz (xVar 2)))
    (sSeq (sFldD CT "high" 0 (frz (xVar 3)))
    (sSeq (sFldD CT "until" 0 (frz (xVar 4)))
    (sFldD CT "strips" 0 (frz (xVar 5))))))))))))
theorem fn_Card_init (T : Tx G w) (F : Df G.K "__init__" "Card.__init__" s_Card_init f fd)
    (K_is_name : KnT P w G base false "is_name" 1 1 [] (fun ds _ => ds) m_is_name)
    (K_is_whole : KnT P w G base false "is_whole" 1 3 [] (fun ds _ => ds) m_is_whole)
    (K_is_moment : KnT P w G base false "is_moment" 2 1 [] (fun ds _ => ds) m_is_moment) :
    FnI P w G base 3 f fd ["self", "name", "wide", "high", "until", "strips"] "Card" m_Card_init := by
  refine Df.okI (N := ["self", "name", "wide", "high", "until", "strips"]) F sc_Card_init ⟨_, rfl⟩ (fun cdv A outer s H E hr => ?_)
  exact (ss_cons (s_if (xt_not (xt_val (x_call rfl rfl K_is_name nog (hr.mono (by decide)) (by rfl) (fun σ => passAt (takes_of rfl rfl rfl rfl) σ) (xa_cons (x_frz (tv 1)) xa_nil) xk_nil))) (ss_one s_never) ss_nil)
      (ss_cons (s_if (xt_not (xt_val (x_call rfl rfl K_is_whole nog (hr.mono (by decide)) (by rfl) (fun σ => passAt (takes_of rfl rfl rfl rfl) σ) (xa_cons (x_frz (tv 2)) (xa_cons (x_frz tc_int) (xa_cons (x_frz (tg T.MOST_SIDE rfl (by rfl))) xa_nil))) xk_nil))) (ss_one s_never) ss_nil)
      (ss_cons (s_if (xt_not (xt_val (x_call rfl rfl K_is_whole nog (hr.mono (by decide)) (by rfl) (fun σ => passAt (takes_of rfl rfl rfl rfl) σ) (xa_cons (x_frz (tv 3)) (xa_cons (x_frz tc_int) (xa_cons (x_frz (tg T.MOST_SIDE rfl (by rfl))) xa_nil))) xk_nil))) (ss_one s_never) ss_nil)
      (ss_cons (s_if (PW.pt (xw_and (xt_cmp op_notNo d_isnt (tb 4) (x_las (x_bor tc_non)) (nomark _)) (xw_and1 (xt_not (xt_val (x_call rfl rfl K_is_moment nog (hr.mono (by decide)) (by rfl) (fun σ => passAt (takes_of rfl rfl rfl rfl) σ) (xa_cons (x_frz (tv 4)) xa_nil) xk_nil)))))) (ss_one s_never) ss_nil)
      (ss_cons (s_if (xt_not (xt_val (x_call rfl rfl K_is_whole nog (hr.mono (by decide)) (by rfl) (fun σ => passAt (takes_of rfl rfl rfl rfl) σ) (xa_cons (x_frz (tv 5)) (xa_cons (x_frz tc_int) (xa_cons (x_frz (tg T.MOST_STRIPS rfl (by rfl))) xa_nil))) xk_nil))) (ss_one s_never) ss_nil)
      (ss_cons (s_fld (i := 0) T.kc rfl rfl (by first | exact Or.inl rfl | exact Or.inr (Or.inl rfl) | exact Or.inr (Or.inr rfl)) (x_frz (tv 1)))
      (ss_cons (s_fld (i := 0) T.kc rfl rfl (by first | exact Or.inl rfl | exact Or.inr (Or.inl rfl) | exact Or.inr (Or.inr rfl)) (x_frz (tv 2)))
      (ss_cons (s_fld (i := 0) T.kc rfl rfl (by first | exact Or.inl rfl | exact Or.inr (Or.inl rfl) | exact Or.inr (Or.inr rfl)) (x_frz (tv 3)))
      (ss_cons (s_fld (i := 0) T.kc rfl rfl (by first | exact Or.inl rfl | exact Or.inr (Or.inl rfl) | exact Or.inr (Or.inr rfl)) (x_frz (tv 4)))
      (ss_one (s_fld (i := 0) T.kc rfl rfl (by first | exact Or.inl rfl | exact Or.inr (Or.inl rfl) | exact Or.inr (Or.inr rfl)) (x_frz (tv 5)))))))))))))
noncomputable def m_Card_str : MF := fnM 2
    (sSeq (sAsg 1 (xLst (aCons (frz (xFldF CT "name" (xRd 0))) (aCons (frz (xOp addD (xOp addD (xUn strD (xFld CT "wide" (xRd 0))) (xC (.str "x"))) (xUn strD (xFld CT "high" (xRd 0))))) aNil))))
    (sSeq (sIf (toB (xOp isntD (xFldF CT "until" (xRd 0)) (xC .non)))
    (sExt 1 (xLst (aCons (frz (xC (.str "until"))) (aCons (frz (xCall m_show_moment (fun ds _ => ds) 1 (nK []) (aCons (frz (xFldF CT "until" (xRd 0))) aNil) aNil)) aNil))))
    sNil)
    (sSeq (sIf (toB (xOp gtD (xFldF CT "strips" (xRd 0)) (xC (.int 0))))
    (sExt 1 (xLst (aCons (frz (xC (.str "strips"))) (aCons (frz (xUn strD (xFld CT "strips" (xRd 0)))) aNil))))
    sNil)
    (sRet (xM1 joinD (xC (.str " ")) (frz (xVar 1)))))))
theorem fn_Card_str (T : Tx G w) (F : Df G.K "__str__" "Card.__str__" s_Card_str f fd)
    (K_show_moment : KnT P w G base false "show_moment" 1 1 [] (fun ds _ => ds) m_show_moment) :
    FnT P w G base false 2 f fd ["self"] m_Card_str := by
  refine Df.okT (N := ["self", "words"]) F sc_Card_str (fun cdv A outer s H E hga hr => ?_)
  exact (ss_cons (s_asg (i := 1) sc_Card_str.nd rfl (by first | exact Or.inl rfl | exact Or.inr rfl) (x_lst (xa_cons (x_frz (x_fldF T.kc rfl (tr 0))) (xa_cons (x_frz (x_op (op_addA rfl) d_add (x_bor (x_op (op_addA rfl) d_add (x_bor (x_t1 call_strM d_str (by rfl) T.b_str bt_str (x_fld T.kc rfl (tr 0)))) (x_las (x_bor tc_str)))) (x_las (x_bor (x_t1 call_strM d_str (by rfl) T.b_str bt_str (x_fld T.kc rfl (tr 0))))))) xa_nil))))
      (ss_cons (s_if (xt_cmp op_notNo d_isnt (x_bor (x_fldF T.kc rfl (tr 0))) (x_las (x_bor tc_non)) (nomark _)) (ss_one (s_ext (i := 1) rfl rfl (by first | exact Or.inl rfl | exact Or.inr (Or.inl rfl) | exact Or.inr (Or.inr rfl)) (x_las (x_bor (x_lst (xa_cons (x_frz tc_str) (xa_cons (x_frz (x_call rfl rfl K_show_moment nog (hr.mono (by decide)) (by rfl) (fun σ => passAt (takes_of rfl rfl rfl rfl) σ) (xa_cons (x_frz (x_fldF T.kc rfl (tr 0))) xa_nil) xk_nil)) xa_nil))))))) ss_nil)
      (ss_cons (s_if (xt_cmp op_gt d_gt (x_bor (x_fldF T.kc rfl (tr 0))) (x_las (x_bor tc_int)) (nomark _)) (ss_one (s_ext (i := 1) rfl rfl (by first | exact Or.inl rfl | exact Or.inr (Or.inl rfl) | exact Or.inr (Or.inr rfl)) (x_las (x_bor (x_lst (xa_cons (x_frz tc_str) (xa_cons (x_frz (x_t1 call_strM d_str (by rfl) T.b_str bt_str (x_fld T.kc rfl (tr 0)))) xa_nil))))))) ss_nil)
      (ss_one (s_ret (x_m1 PySem.F.slot_str_join PySem.F.type_str_join (k_join rfl) d_join (x_bor tc_str) (x_frz (tv 1))))))))
noncomputable def m_sizes_of : MF := fnM 7
    (sSeq (sAsg 4 (xM1 splitD (xBor 0) (frz (xVar 1))))
    (sSeq (sAsg 5 (xLc [6] (mSeq (frz (xVar 4))) (gN 6) (ret true) (frz (xCall m_number_of (fun ds _ => ds) 3 (nK []) (aCons (frz (xVar 6)) (aCons (frz (xVar 2)) (aCons (frz (xVar 3)) aNil))) aNil))))
    (sSeq (sIf (bOr (toB (xOp neD (xUn lenD (xRd 4)) (xC (.int 2)))) (bOr (toB (xOp isD (xOpQ ixD (xRd 5) (fun _ => some (.int 0))) (xC .non))) (toB (xOp isD (xOpQ ixD (xRd 5) (fun _ => some (.int 1))) (xC .non)))))
    (sRet (xC .non))
    sNil)
    (sRet (xTup (aCons (frz (xOpQ ixD (xRd 5) (fun _ => some (.int 0)))) (aCons (frz (xOpQ ixD (xRd 5) (fun _ => some (.int 1)))) aNil)))))))
theorem fn_sizes_of (T : Tx G w) (F : Df G.K "sizes_of" "sizes_of" s_sizes_of f fd)
    (K_number_of : KnT P w G base false "number_of" 1 3 [] (fun ds _ => ds) m_number_of) :
    FnT P w G base false 2 f fd ["word", "sign", "least", "most"] m_sizes_of := by
  refine Df.okT (N := ["word", "sign", "least", "most", "parts", "numbers", "part"]) F sc_sizes_of (fun cdv A outer s H E hga hr => ?_)
  exact (ss_cons (s_asg (i := 4) sc_sizes_of.nd rfl (by first | exact Or.inl rfl | exact Or.inr rfl) (x_m1 PySem.F.slot_str_split PySem.F.type_str_split mt_splitM d_split (tb 0) (x_frz (tv 1))))
      (ss_cons (s_setLc (i := 5) (own := [("part", 6)]) (vs := [6]) rfl (by decide) rfl sc_sizes_of.nd rfl rfl (sw_true rfl rfl rfl (by decide +kernel)) (xi_any rfl (x_frz (tv 4))) (blkOk_by (N := ["word", "sign", "least", "most", "parts", "numbers", "part"]) (sc := defScope s_sizes_of) (by decide +kernel)) (tw_name (by decide)) (fun _ _ _ _ _ => (pg_name (i := 6) sc_sizes_of.nd rfl (by first | exact Or.inl rfl | exact Or.inr rfl))) (fun _ _ _ _ _ => xts_nil) (fun _ _ _ _ _ => (x_frz (x_call rfl rfl K_number_of nog (hr.mono (by decide)) (by rfl) (fun _ => noPass) (xa_cons (x_frz (tv 6)) (xa_cons (x_frz (tv 2)) (xa_cons (x_frz (tv 3)) xa_nil))) xk_nil))))
      (ss_cons (s_if (PW.pt (xw_or (xt_cmp (k_ne rfl (hu64 hr)) d_ne (x_bor (x_b1 (k_len rfl) d_len (by rfl) T.b_len bt_len (tr 4))) (x_las (x_bor tc_int)) (nomark _)) (xw_or (xt_cmp op_isNo d_is (x_bor (x_ixQ (k_ix rfl) d_ix (tr 5) tq_int (fun _ _ => rfl))) (x_las (x_bor tc_non)) (nomark _)) (xw_or1 (xt_cmp op_isNo d_is (x_bor (x_ixQ (k_ix rfl) d_ix (tr 5) tq_int (fun _ _ => rfl))) (x_las (x_bor tc_non)) (nomark _)))))) (ss_one (s_ret tc_non)) ss_nil)
      (ss_one (s_ret (x_tup (xa_cons (x_frz (x_ixQ (k_ix rfl) d_ix (tr 5) tq_int (fun _ _ => rfl))) (xa_cons (x_frz (x_ixQ (k_ix rfl) d_ix (tr 5) tq_int (fun _ _ => rfl))) xa_nil))))))))
noncomputable def m_behind_word : MF := fnM 2
    (sSeq (sIf (bAnd (toB (xOp gtD (xUn lenD (xRd 0)) (xC (.int 1)))) (toB (xOp eqD (xOpQ ixD (xRd 0) (fun _ => some (.int 0))) (xRd 1))))
    (sRet (xTup (aCons (frz (xOpQ ixD (xRd 0) (fun _ => some (.int 1)))) (aCons (frz (xSl (xBor 0) (mPart (xC (.int 2))) (ret none))) aNil))))
    sNil)
    (sRet (xTup (aCons (frz (xC .non)) (aCons (frz (xVar 0)) aNil)))))
theorem fn_behind_word (T : Tx G w) (F : Df G.K "behind_word" "behind_word" s_behind_word f fd) :
    FnT P w G base false 1 f fd ["words", "word"] m_behind_word := by
  refine Df.okT (N := ["words", "word"]) F sc_behind_word (fun cdv A outer s H E hga hr => ?_)
  exact (ss_cons (s_if (PW.pt (xw_and (xt_cmp op_gt d_gt (x_bor (x_b1 (k_len rfl) d_len (by rfl) T.b_len bt_len (tr 0))) (x_las (x_bor tc_int)) (nomark _)) (xw_and1 (xt_cmp (k_eq rfl (hu64 hr)) d_eq (x_bor (x_ixQ (k_ix rfl) d_ix (tr 0) tq_int (fun _ _ => rfl))) (tr 1) (nomark _))))) (ss_one (s_ret (x_tup (xa_cons (x_frz (x_ixQ (k_ix rfl) d_ix (tr 0) tq_int (fun _ _ => rfl))) (xa_cons (x_frz (x_sl rfl (tb 0) (xp_some tc_int) xp_none)) xa_nil))))) ss_nil)
      (ss_one (s_ret (x_tup (xa_cons (x_frz tc_non) (xa_cons (x_frz (tv 0)) xa_nil))))))
def g_Card_init_all : List D → List D → List D := fun ds es => pick [(0, 0), (0, 1), (0, 2), (0, 3), (0, 4)] ds [.non, (.int 0)] es
noncomputable def m_card_of : MF := fnM 7
    (sSeq (sIf (bOr (toB (xOp ltD (xUn lenD (xRd 0)) (xC (.int 2)))) (bNot (toB (xCall m_is_name (fun ds _ => ds) 1 (nK []) (aCons (frz (xOpQ ixD (xRd 0) (fun _ => some (.int 0)))) aNil) aNil))))
    (sRet (xC .non))
    sNil)
    (sSeq (sAsg 1 (xCall m_sizes_of (fun ds _ => ds) 4 (nK []) (aCons (frz (xOpQ ixD (xRd 0) (fun _ => some (.int 1)))) (aCons (frz (xC (.str "x"))) (aCons (frz (xC (.int 1))) (aCons (frz (xC (.int 9))) aNil)))) aNil))
    (sSeq (sAsgT (gT [(gN 4), (gN 5)]) (frz (xCall m_behind_word (fun ds _ => ds) 2 (nK []) (aCons (frz (xSl (xBor 0) (mPart (xC (.int 2))) (ret none))) (aCons (frz (xC (.str "until"))) aNil)) aNil)))
    (sSeq (sAsgT (gT [(gN 6), (gN 5)]) (frz (xCall m_behind_word (fun ds _ => ds) 2 (nK []) (aCons (frz (xVar 5)) (aCons (frz (xC (.str "strips"))) aNil)) aNil)))
    (sSeq (sAsg 2 (xIf (toB (xOp isD (xBor 4) (xC .non))) (xC .non) (xCall m_moment_of (fun ds _ => ds) 1 (nK []) (aCons (frz (xVar 4)) aNil) aNil)))
    (sSeq (sAsg 3 (xIf (toB (xOp isD (xBor 6) (xC .non))) (xC (.int 0)) (xCall m_number_of (fun ds _ => ds) 3 (nK []) (aCons (frz (xVar 6)) (aCons (frz (xC (.int 1))) (aCons (frz (xC (.int 99))) aNil))) aNil)))
    (sSeq (sIf (bOr (toB (xOp isD (xBor 1) (xC .non))) (bOr (toB (xOp (nilD true) (xBor 5) (xLst aNil))) (bOr (toB (xOp isD (xBor 3) (xC .non))) (bAnd (toB (xOp isntD (xBor 4) (xC .non))) (toB (xOp isD (xBor 2) (xC .non)))))))
    (sRet (xC .non))
    sNil)
    (sRet (xCall m_Card_init g_Card_init_all 5 (nK []) (aCons (frz (xOpQ ixD (xRd 0) (fun _ => some (.int 0)))) (aCons (frz (xOpQ ixD (xRd 1) (fun _ => some (.int 0)))) (aCons (frz (xOpQ ixD (xRd 1) (fun _ => some (.int 1)))) (aCons (frz (xVar 2)) (aCons (frz (xVar 3)) aNil))))) aNil)))))))))
theorem fn_card_of (T : Tx G w) (F : Df G.K "card_of" "card_of" s_card_of f fd)
    (K_is_name : KnT P w G base false "is_name" 1 1 [] (fun ds _ => ds) m_is_name)
    (K_sizes_of : KnT P w G base false "sizes_of" 2 4 [] (fun ds _ => ds) m_sizes_of)
    (K_behind_word : KnT P w G base false "behind_word" 1 2 [] (fun ds _ => ds) m_behind_word)
    (K_moment_of : KnT P w G base false "moment_of" 2 1 [] (fun ds _ => ds) m_moment_of)
    (K_number_of : KnT P w G base false "number_of" 1 3 [] (fun ds _ => ds) m_number_of)
    (K_Card_init : MkT P w G base "Card" 3 5 [] g_Card_init_all m_Card_init) :
    FnT P w G base false 5 f fd ["words"] m_card_of := by
  refine Df.okT (N := ["words", "sizes", "until", "strips", "when", "rest", "many"]) F sc_card_of (fun cdv A outer s H E hga hr => ?_)
  exact (ss_cons (s_if (PW.pt (xw_or (xt_cmp op_lt d_lt (x_bor (x_b1 (k_len rfl) d_len (by rfl) T.b_len bt_len (tr 0))) (x_las (x_bor tc_int)) (nomark _)) (xw_or1 (xt_not (xt_val (x_call rfl rfl K_is_name nog (hr.mono (by decide)) (by rfl) (fun σ => passAt (takes_of rfl rfl rfl rfl) σ) (xa_cons (x_frz (x_ixQ (k_ix rfl) d_ix (tr 0) tq_int (fun _ _ => rfl))) xa_nil) xk_nil)))))) (ss_one (s_ret tc_non)) ss_nil)
      (ss_cons (s_asg (i := 1) sc_card_of.nd rfl (by first | exact Or.inl rfl | exact Or.inr rfl) (x_call rfl rfl K_sizes_of nog (hr.mono (by decide)) (by rfl) (fun σ => passAt (takes_of rfl rfl rfl rfl) σ) (xa_cons (x_frz (x_ixQ (k_ix rfl) d_ix (tr 0) tq_int (fun _ _ => rfl))) (xa_cons (x_frz tc_str) (xa_cons (x_frz tc_int) (xa_cons (x_frz (tg T.MOST_SIDE rfl (by rfl))) xa_nil)))) xk_nil))
      (ss_cons (s_asgT (x_frz (x_call rfl rfl K_behind_word nog (hr.mono (by decide)) (by rfl) (fun σ => passAt (takes_of rfl rfl rfl rfl) σ) (xa_cons (x_frz (x_sl rfl (tb 0) (xp_some tc_int) xp_none)) (xa_cons (x_frz tc_str) xa_nil)) xk_nil)) (pg_tupK (K := G.K) rfl rfl (pgs_cons (pg_name (i := 4) sc_card_of.nd rfl (by first | exact Or.inl rfl | exact Or.inr rfl)) (pgs_cons (pg_name (i := 5) sc_card_of.nd rfl (by first | exact Or.inl rfl | exact Or.inr rfl)) pgs_nil))) (tg_tupK rfl (tgs_cons tg_name (tgs_cons tg_name tgs_nil))))
      (ss_cons (s_asgT (x_frz (x_call rfl rfl K_behind_word nog (hr.mono (by decide)) (by rfl) (fun σ => passAt (takes_of rfl rfl rfl rfl) σ) (xa_cons (x_frz (tv 5)) (xa_cons (x_frz tc_str) xa_nil)) xk_nil)) (pg_tupK (K := G.K) rfl rfl (pgs_cons (pg_name (i := 6) sc_card_of.nd rfl (by first | exact Or.inl rfl | exact Or.inr rfl)) (pgs_cons (pg_name (i := 5) sc_card_of.nd rfl (by first | exact Or.inl rfl | exact Or.inr rfl)) pgs_nil))) (tg_tupK rfl (tgs_cons tg_name (tgs_cons tg_name tgs_nil))))
      (ss_cons (s_asg (i := 2) sc_card_of.nd rfl (by first | exact Or.inl rfl | exact Or.inr rfl) (x_if (xt_cmp op_isNo d_is (tb 4) (x_las (x_bor tc_non)) (nomark _)) tc_non (x_call rfl rfl K_moment_of nog (hr.mono (by decide)) (by rfl) (fun σ => passAt (takes_of rfl rfl rfl rfl) σ) (xa_cons (x_frz (tv 4)) xa_nil) xk_nil)))
      (ss_cons (s_asg (i := 3) sc_card_of.nd rfl (by first | exact Or.inl rfl | exact Or.inr rfl) (x_if (xt_cmp op_isNo d_is (tb 6) (x_las (x_bor tc_non)) (nomark _)) tc_int (x_call rfl rfl K_number_of nog (hr.mono (by decide)) (by rfl) (fun σ => passAt (takes_of rfl rfl rfl rfl) σ) (xa_cons (x_frz (tv 6)) (xa_cons (x_frz tc_int) (xa_cons (x_frz (tg T.MOST_STRIPS rfl (by rfl))) xa_nil))) xk_nil)))
      (ss_cons (s_if (PW.pt (xw_or (xt_cmp op_isNo d_is (tb 1) (x_las (x_bor tc_non)) (nomark _)) (xw_or (xt_cmp (k_neN rfl (hu64 hr)) (d_nil true) (tb 5) (x_las (x_bor (x_lst xa_nil))) (nomark _)) (xw_or (xt_cmp op_isNo d_is (tb 3) (x_las (x_bor tc_non)) (nomark _)) (xw_or1 (PW.pt (xw_and (xt_cmp op_notNo d_isnt (tb 4) (x_las (x_bor tc_non)) (nomark _)) (xw_and1 (xt_cmp op_isNo d_is (tb 2) (x_las (x_bor tc_non)) (nomark _)))))))))) (ss_one (s_ret tc_non)) ss_nil)
      (ss_one (s_ret (x_make rfl rfl K_Card_init (hr.mono (by decide)) (by rfl) (fun σ => passAt (takes_of rfl rfl rfl rfl) σ) (xa_cons (x_frz (x_ixQ (k_ix rfl) d_ix (tr 0) tq_int (fun _ _ => rfl))) (xa_cons (x_frz (x_ixQ (k_ix rfl) d_ix (tr 1) tq_int (fun _ _ => rfl))) (xa_cons (x_frz (x_ixQ (k_ix rfl) d_ix (tr 1) tq_int (fun _ _ => rfl))) (xa_cons (x_frz (tv 2)) (xa_cons (x_frz (tv 3)) xa_nil))))) xk_nil))))))))))
noncomputable def m_read_card : MF := fnM 2
    (sSeq (sAsg 1 (xIf (toB (xCn isiD (aCons (frz (xVar 0)) (aCons (ret (.ty "str")) aNil)))) (xCall m_card_of (fun ds _ => ds) 1 (nK []) (aCons (frz (xM1 splitD (xBor 0) (frz (xC (.str " "))))) aNil) aNil) (xC .non)))
    (sSeq (sIf (toB (xOp isD (xBor 1) (xC .non)))
    (sRaise "NoText" ["text"] (aCons (frz (xVar 0)) aNil))
    sNil)
    (sRet (xMov 1))))
theorem fn_read_card (T : Tx G w) (F : Df G.K "read_card" "read_card" s_read_card f fd)
    (K_card_of : KnT P w G base false "card_of" 5 1 [] (fun ds _ => ds) m_card_of)
    (K_exc_NoText : XnT P w G base "NoText" 1 ["text"]) :
    FnT P w G base false 6 f fd ["text"] m_read_card := by
  refine Df.okT (N := ["text", "found"]) F sc_read_card (fun cdv A outer s H E hga hr => ?_)
  exact (ss_cons (s_asg (i := 1) sc_read_card.nd rfl (by first | exact Or.inl rfl | exact Or.inr rfl) (x_if (xt_val (x_bn (k_isi rfl) d_isi (by rfl) T.b_isinstance bt_isinstance (xa_cons (x_frz (tv 0)) (xa_cons (x_ty (by rfl) T.b_str bt_str) xa_nil)))) (x_call rfl rfl K_card_of nog (hr.mono (by decide)) (by rfl) (fun σ => passAt (takes_of rfl rfl rfl rfl) σ) (xa_cons (x_frz (x_m1 PySem.F.slot_str_split PySem.F.type_str_split mt_splitM d_split (tb 0) (x_frz tc_str))) xa_nil) xk_nil) tc_non))
      (ss_cons (s_if (xt_cmp op_isNo d_is (tb 1) (x_las (x_bor tc_non)) (nomark _)) (ss_one (s_raise rfl rfl K_exc_NoText (hr.mono (by decide)) (by rfl) rfl (takes_of rfl rfl rfl rfl) (xa_cons (x_frz (tv 0)) xa_nil))) ss_nil)
      (ss_one (s_ret (tm 1)))))
noncomputable def m_law_begin : MF := fnM 5
    (sSeq (sPar 3 4 (oCons (xIf (toB (xOp ltD (xBor 1) (xUn lenD (xRd 0)))) (xOpQ ixD (xRd 0) (qVar 1)) (xC (.int 0))) (oCons (xOp addD (xOp mulD (xC (.int 104729)) (xRd 1)) (xC (.int 17))) oNil)))
    (sSeq (sFor (mSeq (frz (xOp addD (xLst (aCons (frz (xVar 3)) aNil)) (xSl (xBor 0) (ret none) (mPart (xC (.int 60))))))) (gN 2)
    (sAsg 4 (xOp modD (xOp addD (xOp addD (xOp mulD (xBor 4) (xC (.int 636413622399))) (xOp mulD (xC (.int 2)) (xUn absD (xRd 2)))) (xUn intD (xOp ltD (xBor 2) (xC (.int 0))))) (xC (.int 2305843009213693951)))))
    (sRet (xLst (aCons (frz (xIf (toB (xOp geD (xUn absD (xRd 3)) (xOp powD (xC (.int 10)) (xC (.int 18))))) (xUn absD (xRd 3)) (xC (.int 0)))) (aCons (frz (xVar 4)) (aCons (frz (xC (.int 0))) aNil)))))))
theorem fn_law_begin (T : Tx G w) (F : Df G.K "_law_begin" "_law_begin" s_law_begin f fd) :
    FnT P w G base false 1 f fd ["_law_script", "_law_k"] m_law_begin := by
  refine Df.okT (N := ["_law_script", "_law_k", "_law_one", "_law_cell", "_law_seed"]) F sc_law_begin (fun cdv A outer s H E hga hr => ?_)
  exact (ss_cons (s_par (ps_par (i := 3) (j := 4) (by rfl) sc_law_begin.nd rfl rfl (by decide) rfl rfl (xo_cons (x_if (xt_cmp op_lt d_lt (tb 1) (x_las (x_bor (x_b1 (k_len rfl) d_len (by rfl) T.b_len bt_len (tr 0)))) (nomark _)) (x_ixQ (k_ix rfl) d_ix (tr 0) (tq 1) (fun _ _ => rfl)) tc_int) (xo_cons (x_op (op_addA rfl) d_add (x_bor (x_op op_mulM d_mul (x_bor tc_int) (tr 1))) (x_las (x_bor tc_int))) xo_nil)) (by rfl)))
      (ss_cons (s_for (passes_of rfl) rfl (xi_any rfl (x_frz (x_op (op_addA rfl) d_add (x_bor (x_lst (xa_cons (x_frz (tv 3)) xa_nil))) (x_las (x_bor (x_sl rfl (tb 0) xp_none (xp_some tc_int))))))) (pg_name (i := 2) sc_law_begin.nd rfl (by first | exact Or.inl rfl | exact Or.inr rfl)) tg_name
      (ss_one (s_asg (i := 4) sc_law_begin.nd rfl (by first | exact Or.inl rfl | exact Or.inr rfl) (x_op op_mod d_mod (x_bor (x_op (op_addA rfl) d_add (x_bor (x_op (op_addA rfl) d_add (x_bor (x_op op_mulM d_mul (tb 4) (x_las (x_bor tc_int)))) (x_las (x_bor (x_op op_mulM d_mul (x_bor tc_int) (x_las (x_bor (x_b1 call_absM d_abs (by rfl) T.b_abs bt_abs (tr 2))))))))) (x_las (x_bor (x_t1 call_intM d_int (by rfl) T.b_int bt_int (x_las (x_bor (x_cmp op_lt d_lt (tb 2) (x_las (x_bor tc_int)) (nomark _))))))))) (x_las (x_bor tc_int))))))
      (ss_one (s_ret (x_lst (xa_cons (x_frz (x_if (xt_cmp op_ge d_ge (x_bor (x_b1 call_absM d_abs (by rfl) T.b_abs bt_abs (tr 3))) (x_las (x_bor (x_op op_pow d_pow (x_bor tc_int) (x_las (x_bor tc_int))))) (nomark _)) (x_b1 call_absM d_abs (by rfl) T.b_abs bt_abs (tr 3)) tc_int)) (xa_cons (x_frz (tv 4)) (xa_cons (x_frz tc_int) xa_nil))))))))
noncomputable def m_law_draw : MF := fnM 5
    (sSeq (sIf (toB (xOp gtD (xOpQ ixD (xRd 0) (fun _ => some (.int 0))) (xC (.int 0))))
    (sSeq (sAsg 4 (xOp modD (xOpQ ixD (xRd 0) (fun _ => some (.int 0))) (xRd 1)))
    (sSeq (sPutL 0 (frz (xC (.int 0))) (frz (xOp divD (xOpQ ixD (xRd 0) (fun _ => some (.int 0))) (xRd 1))))
    (sRet (xMov 4))))
    sNil)
    (sSeq (sPutL 0 (frz (xC (.int 2))) (frz (xOp addD (xOpQ ixD (xRd 0) (fun _ => some (.int 2))) (xC (.int 1)))))
    (sSeq (sAsg 2 (xOpQ ixD (xRd 0) (fun _ => some (.int 2))))
    (sSeq (sAsg 3 (xOp modD (xOp mulD (xOp addD (xOpQ ixD (xRd 0) (fun _ => some (.int 1))) (xOp mulD (xC (.int 40503)) (xRd 2))) (xOp addD (xOp mulD (xOp mulD (xBor 2) (xRd 2)) (xC (.int 65539))) (xC (.int 97)))) (xC (.int 2305843009213693921))))
    (sSeq (sAsg 3 (xOp modD (xOp mulD (xBor 3) (xOp addD (xOp modD (xBor 3) (xC (.int 1000003))) (xRd 2))) (xC (.int 2305843009213693907))))
    (sRet (xOp modD (xOp divD (xBor 3) (xC (.int 8191))) (xRd 1))))))))
theorem fn_law_draw (T : Tx G w) (F : Df G.K "_law_draw" "_law_draw" s_law_draw f fd) :
    FnT P w G base false 1 f fd ["_law_pot", "_law_many"] m_law_draw := by
  refine Df.okT (N := ["_law_pot", "_law_many", "_law_go", "_law_mixed", "_law_digit"]) F sc_law_draw (fun cdv A outer s H E hga hr => ?_)
  exact (ss_cons (s_if (xt_cmp op_gt d_gt (x_bor (x_ixQ (k_ix rfl) d_ix (tr 0) tq_int (fun _ _ => rfl))) (x_las (x_bor tc_int)) (nomark _)) (ss_cons (s_asg (i := 4) sc_law_draw.nd rfl (by first | exact Or.inl rfl | exact Or.inr rfl) (x_op op_mod d_mod (x_bor (x_ixQ (k_ix rfl) d_ix (tr 0) tq_int (fun _ _ => rfl))) (tr 1)))
      (ss_cons (s_putL (i := 0) rfl (by first | exact Or.inl rfl | exact Or.inr (Or.inl rfl) | exact Or.inr (Or.inr rfl)) (x_frz tc_int) (x_frz (x_op op_fdiv d_div (x_bor (x_ixQ (k_ix rfl) d_ix (tr 0) tq_int (fun _ _ => rfl))) (tr 1))))
      (ss_one (s_ret (tm 4))))) ss_nil)
      (ss_cons (s_putL (i := 0) rfl (by first | exact Or.inl rfl | exact Or.inr (Or.inl rfl) | exact Or.inr (Or.inr rfl)) (x_frz tc_int) (x_frz (x_op (op_addA rfl) d_add (x_bor (x_ixQ (k_ix rfl) d_ix (tr 0) tq_int (fun _ _ => rfl))) (x_las (x_bor tc_int)))))
      (ss_cons (s_asg (i := 2) sc_law_draw.nd rfl (by first | exact Or.inl rfl | exact Or.inr rfl) (x_ixQ (k_ix rfl) d_ix (tr 0) tq_int (fun _ _ => rfl)))
      (ss_cons (s_asg (i := 3) sc_law_draw.nd rfl (by first | exact Or.inl rfl | exact Or.inr rfl) (x_op op_mod d_mod (x_bor (x_op op_mulM d_mul (x_bor (x_op (op_addA rfl) d_add (x_bor (x_ixQ (k_ix rfl) d_ix (tr 0) tq_int (fun _ _ => rfl))) (x_las (x_bor (x_op op_mulM d_mul (x_bor tc_int) (tr 2)))))) (x_las (x_bor (x_op (op_addA rfl) d_add (x_bor (x_op op_mulM d_mul (x_bor (x_op op_mulM d_mul (tb 2) (tr 2))) (x_las (x_bor tc_int)))) (x_las (x_bor tc_int))))))) (x_las (x_bor tc_int))))
      (ss_cons (s_asg (i := 3) sc_law_draw.nd rfl (by first | exact Or.inl rfl | exact Or.inr rfl) (x_op op_mod d_mod (x_bor (x_op op_mulM d_mul (tb 3) (x_las (x_bor (x_op (op_addA rfl) d_add (x_bor (x_op op_mod d_mod (tb 3) (x_las (x_bor tc_int)))) (tr 2)))))) (x_las (x_bor tc_int))))
      (ss_one (s_ret (x_op op_mod d_mod (x_bor (x_op op_fdiv d_div (tb 3) (x_las (x_bor tc_int)))) (tr 1)))))))))
noncomputable def m_law_moment : MF := fnM 2
    (sSeq (sAsg 1 (xLst (aCons (frz (xC (.int 0))) (aCons (frz (xC (.int 9599))) (aCons (frz (xOp mulD (xC (.int 24)) (xCall m_law_draw (fun ds _ => ds) 2 (nK []) (aCons (frz (xVar 0)) (aCons (frz (xC (.int 400))) aNil)) aNil))) (aCons (frz (xOp addD (xOp mulD (xC (.int 24)) (xCall m_law_draw (fun ds _ => ds) 2 (nK []) (aCons (frz (xVar 0)) (aCons (frz (xC (.int 400))) aNil)) aNil)) (xC (.int 23)))) (aCons (frz (xCall m_law_draw (fun ds _ => ds) 2 (nK []) (aCons (frz (xVar 0)) (aCons (frz (xC (.int 9600))) aNil)) aNil)) (aCons (frz (xCall m_law_draw (fun ds _ => ds) 2 (nK []) (aCons (frz (xVar 0)) (aCons (frz (xC (.int 50))) aNil)) aNil)) aNil))))))))
    (sRet (xOp ixD (xBor 1) (xCall m_law_draw (fun ds _ => ds) 2 (nK []) (aCons (frz (xVar 0)) (aCons (frz (xC (.int 6))) aNil)) aNil))))
theorem fn_law_moment (T : Tx G w) (F : Df G.K "_law_moment" "_law_moment" s_law_moment f fd)
    (K_law_draw : KnT P w G base false "_law_draw" 1 2 [] (fun ds _ => ds) m_law_draw) :
    FnT P w G base false 2 f fd ["_law_pot"] m_law_moment := by
  refine Df.okT (N := ["_law_pot", "_law_some"]) F sc_law_moment (fun cdv A outer s H E hga hr => ?_)
  exact (ss_cons (s_asg (i := 1) sc_law_moment.nd rfl (by first | exact Or.inl rfl | exact Or.inr rfl) (x_lst (xa_cons (x_frz tc_int) (xa_cons (x_frz tc_int) (xa_cons (x_frz (x_op op_mulM d_mul (x_bor tc_int) (x_las (x_bor (x_call rfl rfl K_law_draw nog (hr.mono (by decide)) (by rfl) (fun σ => passAt (takes_of rfl rfl rfl rfl) σ) (xa_cons (x_frz (tv 0)) (xa_cons (x_frz tc_int) xa_nil)) xk_nil))))) (xa_cons (x_frz (x_op (op_addA rfl) d_add (x_bor (x_op op_mulM d_mul (x_bor tc_int) (x_las (x_bor (x_call rfl rfl K_law_draw nog (hr.mono (by decide)) (by rfl) (fun σ => passAt (takes_of rfl rfl rfl rfl) σ) (xa_cons (x_frz (tv 0)) (xa_cons (x_frz tc_int) xa_nil)) xk_nil))))) (x_las (x_bor tc_int)))) (xa_cons (x_frz (x_call rfl rfl K_law_draw nog (hr.mono (by decide)) (by rfl) (fun σ => passAt (takes_of rfl rfl rfl rfl) σ) (xa_cons (x_frz (tv 0)) (xa_cons (x_frz tc_int) xa_nil)) xk_nil)) (xa_cons (x_frz (x_call rfl rfl K_law_draw nog (hr.mono (by decide)) (by rfl) (fun σ => passAt (takes_of rfl rfl rfl rfl) σ) (xa_cons (x_frz (tv 0)) (xa_cons (x_frz tc_int) xa_nil)) xk_nil)) xa_nil))))))))
      (ss_one (s_ret (x_ix (k_ix rfl) d_ix (tb 1) (x_las (x_bor (x_call rfl rfl K_law_draw nog (hr.mono (by decide)) (by rfl) (fun σ => passAt (takes_of rfl rfl rfl rfl) σ) (xa_cons (x_frz (tv 0)) (xa_cons (x_frz tc_int) xa_nil)) xk_nil))) (fun _ _ => rfl)))))
noncomputable def m_law_when : MF := fnM 1
    (sRet (xOp addD (xOp addD (xOp addD (xUn strD (xOp divD (xBor 0) (xC (.int 24)))) (xC (.str "."))) (xOp ixD (xC (.str "0123456789")) (xOp divD (xOp modD (xBor 0) (xC (.int 24))) (xC (.int 10))))) (xOp ixD (xC (.str "0123456789")) (xOp modD (xOp modD (xBor 0) (xC (.int 24))) (xC (.int 10))))))
theorem fn_law_when (T : Tx G w) (F : Df G.K "_law_when" "_law_when" s_law_when f fd) :
    FnT P w G base false 1 f fd ["_law_at"] m_law_when := by
  refine Df.okT (N := ["_law_at"]) F sc_law_when (fun cdv A outer s H E hga hr => ?_)
  exact (ss_one (s_ret (x_op (op_addA rfl) d_add (x_bor (x_op (op_addA rfl) d_add (x_bor (x_op (op_addA rfl) d_add (x_bor (x_t1 call_strM d_str (by rfl) T.b_str bt_str (x_las (x_bor (x_op op_fdiv d_div (tb 0) (x_las (x_bor tc_int))))))) (x_las (x_bor tc_str)))) (x_las (x_bor (x_ix (k_ix rfl) d_ix (x_bor tc_str) (x_las (x_bor (x_op op_fdiv d_div (x_bor (x_op op_mod d_mod (tb 0) (x_las (x_bor tc_int)))) (x_las (x_bor tc_int))))) (fun _ _ => rfl)))))) (x_las (x_bor (x_ix (k_ix rfl) d_ix (x_bor tc_str) (x_las (x_bor (x_op op_mod d_mod (x_bor (x_op op_mod d_mod (tb 0) (x_las (x_bor tc_int)))) (x_las (x_bor tc_int))))) (fun _ _ => rfl)))))))
noncomputable def m_law_name : MF := fnM 5
    (sSeq (sAsg 1 (xLst (aCons (frz (xC (.str "a"))) (aCons (frz (xC (.str "b"))) (aCons (frz (xC (.str "pins"))) (aCons (frz (xC (.str "taker"))) (aCons (frz (xC (.str "end"))) (aCons (frz (xC (.str "gone"))) (aCons (frz (xC (.str "untilx"))) (aCons (frz (xC (.str "knownasx"))) (aCons (frz (xC (.str "abcdefgh"))) (aCons (frz (xC (.str "z"))) (aCons (frz (xC (.str "toto"))) (aCons (frz (xC (.str "att"))) (aCons (frz (xC (.str "strip"))) aNil)))))))))))))))
    (sSeq (sAsg 2 (xM1 joinD (xC (.str "")) (frz (xLc [4] (mRng1 (aCons (frz (xOp addD (xC (.int 1)) (xCall m_law_draw (fun ds _ => ds) 2 (nK []) (aCons (frz (xVar 0)) (aCons (frz (xC (.int 8))) aNil)) aNil))) aNil)) (gN 4) (ret true) (frz (xOp ixD (xC (.str "abcdefghijklmnopqrstuvwxyz")) (xCall m_law_draw (fun ds _ => ds) 2 (nK []) (aCons (frz (xVar 0)) (aCons (frz (xC (.int 26))) aNil)) aNil)))))))
    (sSeq (sAsg 3 (xLst (aCons (frz (xC (.str "pin"))) (aCons (frz (xC (.str "again"))) (aCons (frz (xC (.str "move"))) (aCons (frz (xC (.str "take"))) (aCons (frz (xC (.str "tear"))) (aCons (frz (xC (.str "at"))) (aCons (frz (xC (.str "to"))) (aCons (frz (xC (.str "until"))) (aCons (frz (xC (.str "strips"))) (aCons (frz (xC (.str "known"))) aNil))))))))))))
    (sRet (xOp ixD (xOp addD (xBor 1) (xOp mulD (xLst (aCons (frz (xIf (toB (xOp ninD (xBor 2) (xRd 3))) (xVar 2) (xC (.str "q")))) aNil)) (xC (.int 7)))) (xCall m_law_draw (fun ds _ => ds) 2 (nK []) (aCons (frz (xVar 0)) (aCons (frz (xC (.int 20))) aNil)) aNil))))))
theorem fn_law_name (T : Tx G w) (F : Df G.K "_law_name" "_law_name" s_law_name f fd)
    (K_law_draw : KnT P w G base false "_law_draw" 1 2 [] (fun ds _ => ds) m_law_draw) :
    FnT P w G base false 2 f fd ["_law_pot"] m_law_name := by
  refine Df.okT (N := ["_law_pot", "_law_some", "_law_own", "_law_kept", "_law_k"]) F sc_law_name (fun cdv A outer s H E hga hr => ?_)
  exact (ss_cons (s_asg (i := 1) sc_law_name.nd rfl (by first | exact Or.inl rfl | exact Or.inr rfl) (x_lst (xa_cons (x_frz tc_str) (xa_cons (x_frz tc_str) (xa_cons (x_frz tc_str) (xa_cons (x_frz tc_str) (xa_cons (x_frz tc_str) (xa_cons (x_frz tc_str) (xa_cons (x_frz tc_str) (xa_cons (x_frz tc_str) (xa_cons (x_frz tc_str) (xa_cons (x_frz tc_str) (xa_cons (x_frz tc_str) (xa_cons (x_frz tc_str) (xa_cons (x_frz tc_str) xa_nil)))))))))))))))
      (ss_cons (s_asg (i := 2) sc_law_name.nd rfl (by first | exact Or.inl rfl | exact Or.inr rfl) (x_m1 PySem.F.slot_str_join PySem.F.type_str_join (k_join rfl) d_join (x_bor tc_str) (x_frz (x_lc (own := [("_law_k", 4)]) (vs := [4]) rfl (by decide) rfl sc_law_name.nd (xi_range1 (by rfl) T.b_range (xa_cons (x_frz (x_op (op_addA rfl) d_add (x_bor tc_int) (x_las (x_bor (x_call rfl rfl K_law_draw nog (hr.mono (by decide)) (by rfl) (fun σ => passAt (takes_of rfl rfl rfl rfl) σ) (xa_cons (x_frz (tv 0)) (xa_cons (x_frz tc_int) xa_nil)) xk_nil))))) xa_nil)) (blkOk_by (N := ["_law_pot", "_law_some", "_law_own", "_law_kept", "_law_k"]) (sc := defScope s_law_name) (by decide +kernel)) (tw_name (by decide)) (fun _ _ _ _ _ => (pg_name (i := 4) sc_law_name.nd rfl (by first | exact Or.inl rfl | exact Or.inr rfl))) (fun _ _ _ _ _ => xts_nil) (fun _ _ _ _ _ => (x_frz (x_ix (k_ix rfl) d_ix (x_bor tc_str) (x_las (x_bor (x_call rfl rfl K_law_draw nog (hr.mono (by decide)) (by rfl) (fun _ => noPass) (xa_cons (x_frz (tv 0)) (xa_cons (x_frz tc_int) xa_nil)) xk_nil))) (fun _ _ => rfl))))))))
      (ss_cons (s_asg (i := 3) sc_law_name.nd rfl (by first | exact Or.inl rfl | exact Or.inr rfl) (x_lst (xa_cons (x_frz tc_str) (xa_cons (x_frz tc_str) (xa_cons (x_frz tc_str) (xa_cons (x_frz tc_str) (xa_cons (x_frz tc_str) (xa_cons (x_frz tc_str) (xa_cons (x_frz tc_str) (xa_cons (x_frz tc_str) (xa_cons (x_frz tc_str) (xa_cons (x_frz tc_str) xa_nil))))))))))))
      (ss_one (s_ret (x_ix (k_ix rfl) d_ix (x_bor (x_op (op_addA rfl) d_add (tb 1) (x_las (x_bor (x_op op_mulM d_mul (x_bor (x_lst (xa_cons (x_frz (x_if (xt_cmp (k_notIn rfl) d_nin (tb 2) (tr 3) (by with_unfolding_all rfl)) (tv 2) tc_str)) xa_nil))) (x_las (x_bor tc_int))))))) (x_las (x_bor (x_call rfl rfl K_law_draw nog (hr.mono (by decide)) (by rfl) (fun σ => passAt (takes_of rfl rfl rfl rfl) σ) (xa_cons (x_frz (tv 0)) (xa_cons (x_frz tc_int) xa_nil)) xk_nil))) (fun _ _ => rfl)))))))
noncomputable def m_law_card : MF := fnM 5
    (sSeq (sAsg 1 (xOp ixD (xLst (aCons (frz (xC .non)) (aCons (frz (xC .non)) (aCons (frz (xCall m_law_moment (fun ds _ => ds) 1 (nK []) (aCons (frz (xVar 0)) aNil) aNil)) aNil)))) (xCall m_law_draw (fun ds _ => ds) 2 (nK []) (aCons (frz (xVar 0)) (aCons (frz (xC (.int 3))) aNil)) aNil)))
    (sSeq (sAsg 2 (xOp ixD (xLst (aCons (frz (xC (.int 0))) (aCons (frz (xC (.int 0))) (aCons (frz (xC (.int 1))) (aCons (frz (xC (.int 99))) (aCons (frz (xCall m_law_draw (fun ds _ => ds) 2 (nK []) (aCons (frz (xVar 0)) (aCons (frz (xC (.int 100))) aNil)) aNil)) aNil)))))) (xCall m_law_draw (fun ds _ => ds) 2 (nK []) (aCons (frz (xVar 0)) (aCons (frz (xC (.int 5))) aNil)) aNil)))
    (sSeq (sAsg 3 (xLc [4] (mRng1 (aCons (frz (xC (.int 2))) aNil)) (gN 4) (ret true) (frz (xOp ixD (xLst (aCons (frz (xC (.int 1))) (aCons (frz (xC (.int 9))) (aCons (frz (xOp addD (xC (.int 1)) (xCall m_law_draw (fun ds _ => ds) 2 (nK []) (aCons (frz (xVar 0)) (aCons (frz (xC (.int 9))) aNil)) aNil))) aNil)))) (xCall m_law_draw (fun ds _ => ds) 2 (nK []) (aCons (frz (xVar 0)) (aCons (frz (xC (.int 3))) aNil)) aNil)))))
    (sRet (xTup (aCons (frz (xCall m_law_name (fun ds _ => ds) 1 (nK []) (aCons (frz (xVar 0)) aNil) aNil)) (aCons (frz (xOpQ ixD (xRd 3) (fun _ => some (.int 0)))) (aCons (frz (xOpQ ixD (xRd 3) (fun _ => some (.int 1)))) (aCons (frz (xVar 1)) (aCons (frz (xVar 2)) aNil))))))))))
theorem fn_law_card (T : Tx G w) (F : Df G.K "_law_card" "_law_card" s_law_card f fd)
    (K_law_moment : KnT P w G base false "_law_moment" 2 1 [] (fun ds _ => ds) m_law_moment)
    (K_law_draw : KnT P w G base false "_law_draw" 1 2 [] (fun ds _ => ds) m_law_draw)
    (K_law_name : KnT P w G base false "_law_name" 2 1 [] (fun ds _ => ds) m_law_name) :
    FnT P w G base false 3 f fd ["_law_pot"] m_law_card := by
  refine Df.okT (N := ["_law_pot", "_law_last", "_law_torn", "_law_sides", "_law_k"]) F sc_law_card (fun cdv A outer s H E hga hr => ?_)
  exact (ss_cons (s_asg (i := 1) sc_law_card.nd rfl (by first | exact Or.inl rfl | exact Or.inr rfl) (x_ix (k_ix rfl) d_ix (x_bor (x_lst (xa_cons (x_frz tc_non) (xa_cons (x_frz tc_non) (xa_cons (x_frz (x_call rfl rfl K_law_moment nog (hr.mono (by decide)) (by rfl) (fun σ => passAt (takes_of rfl rfl rfl rfl) σ) (xa_cons (x_frz (tv 0)) xa_nil) xk_nil)) xa_nil))))) (x_las (x_bor (x_call rfl rfl K_law_draw nog (hr.mono (by decide)) (by rfl) (fun σ => passAt (takes_of rfl rfl rfl rfl) σ) (xa_cons (x_frz (tv 0)) (xa_cons (x_frz tc_int) xa_nil)) xk_nil))) (fun _ _ => rfl)))
      (ss_cons (s_asg (i := 2) sc_law_card.nd rfl (by first | exact Or.inl rfl | exact Or.inr rfl) (x_ix (k_ix rfl) d_ix (x_bor (x_lst (xa_cons (x_frz tc_int) (xa_cons (x_frz tc_int) (xa_cons (x_frz tc_int) (xa_cons (x_frz tc_int) (xa_cons (x_frz (x_call rfl rfl K_law_draw nog (hr.mono (by decide)) (by rfl) (fun σ => passAt (takes_of rfl rfl rfl rfl) σ) (xa_cons (x_frz (tv 0)) (xa_cons (x_frz tc_int) xa_nil)) xk_nil)) xa_nil))))))) (x_las (x_bor (x_call rfl rfl K_law_draw nog (hr.mono (by decide)) (by rfl) (fun σ => passAt (takes_of rfl rfl rfl rfl) σ) (xa_cons (x_frz (tv 0)) (xa_cons (x_frz tc_int) xa_nil)) xk_nil))) (fun _ _ => rfl)))
      (ss_cons (s_setLc (i := 3) (own := [("_law_k", 4)]) (vs := [4]) rfl (by decide) rfl sc_law_card.nd rfl rfl (sw_true rfl rfl rfl (by decide +kernel)) (xi_range1 (by rfl) T.b_range (xa_cons (x_frz tc_int) xa_nil)) (blkOk_by (N := ["_law_pot", "_law_last", "_law_torn", "_law_sides", "_law_k"]) (sc := defScope s_law_card) (by decide +kernel)) (tw_name (by decide)) (fun _ _ _ _ _ => (pg_name (i := 4) sc_law_card.nd rfl (by first | exact Or.inl rfl | exact Or.inr rfl))) (fun _ _ _ _ _ => xts_nil) (fun _ _ _ _ _ => (x_frz (x_ix (k_ix rfl) d_ix (x_bor (x_lst (xa_cons (x_frz tc_int) (xa_cons (x_frz tc_int) (xa_cons (x_frz (x_op (op_addA rfl) d_add (x_bor tc_int) (x_las (x_bor (x_call rfl rfl K_law_draw nog (hr.mono (by decide)) (by rfl) (fun _ => noPass) (xa_cons (x_frz (tv 0)) (xa_cons (x_frz tc_int) xa_nil)) xk_nil))))) xa_nil))))) (x_las (x_bor (x_call rfl rfl K_law_draw nog (hr.mono (by decide)) (by rfl) (fun _ => noPass) (xa_cons (x_frz (tv 0)) (xa_cons (x_frz tc_int) xa_nil)) xk_nil))) (fun _ _ => rfl)))))
      (ss_one (s_ret (x_tup (xa_cons (x_frz (x_call rfl rfl K_law_name nog (hr.mono (by decide)) (by rfl) (fun σ => passAt (takes_of rfl rfl rfl rfl) σ) (xa_cons (x_frz (tv 0)) xa_nil) xk_nil)) (xa_cons (x_frz (x_ixQ (k_ix rfl) d_ix (tr 3) tq_int (fun _ _ => rfl))) (xa_cons (x_frz (x_ixQ (k_ix rfl) d_ix (tr 3) tq_int (fun _ _ => rfl))) (xa_cons (x_frz (tv 1)) (xa_cons (x_frz (tv 2)) xa_nil)))))))))))
noncomputable def m_law_card_text : MF := fnM 2
    (sSeq (sAsg 1 (xOp addD (xOp addD (xOp addD (xOp addD (xOpQ ixD (xRd 0) (fun _ => some (.int 0))) (xC (.str " "))) (xUn strD (xOpQ ixD (xRd 0) (fun _ => some (.int 1))))) (xC (.str "x"))) (xUn strD (xOpQ ixD (xRd 0) (fun _ => some (.int 2))))))
    (sSeq (sAsg 1 (xOp addD (xBor 1) (xIf (toB (xOp isntD (xOpQ ixD (xRd 0) (fun _ => some (.int 3))) (xC .non))) (xOp addD (xC (.str " until ")) (xCall m_law_when (fun ds _ => ds) 1 (nK []) (aCons (frz (xOpQ ixD (xRd 0) (fun _ => some (.int 3)))) aNil) aNil)) (xC (.str "")))))
    (sRet (xOp addD (xBor 1) (xIf (toB (xOp gtD (xOpQ ixD (xRd 0) (fun _ => some (.int 4))) (xC (.int 0)))) (xOp addD (xC (.str " strips ")) (xUn strD (xOpQ ixD (xRd 0) (fun _ => some (.int 4))))) (xC (.str "")))))))
theorem fn_law_card_text (T : Tx G w) (F : Df G.K "_law_card_text" "_law_card_text" s_law_card_text f fd)
    (K_law_when : KnT P w G base false "_law_when" 1 1 [] (fun ds _ => ds) m_law_when) :
    FnT P w G base false 2 f fd ["_law_one"] m_law_card_text := by
  refine Df.okT (N := ["_law_one", "_law_told"]) F sc_law_card_text (fun cdv A outer s H E hga hr => ?_)
  exact (ss_cons (s_asg (i := 1) sc_law_card_text.nd rfl (by first | exact Or.inl rfl | exact Or.inr rfl) (x_op (op_addA rfl) d_add (x_bor (x_op (op_addA rfl) d_add (x_bor (x_op (op_addA rfl) d_add (x_bor (x_op (op_addA rfl) d_add (x_bor (x_ixQ (k_ix rfl) d_ix (tr 0) tq_int (fun _ _ => rfl))) (x_las (x_bor tc_str)))) (x_las (x_bor (x_t1 call_strM d_str (by rfl) T.b_str bt_str (x_las (x_bor (x_ixQ (k_ix rfl) d_ix (tr 0) tq_int (fun _ _ => rfl))))))))) (x_las (x_bor tc_str)))) (x_las (x_bor (x_t1 call_strM d_str (by rfl) T.b_str bt_str (x_las (x_bor (x_ixQ (k_ix rfl) d_ix (tr 0) tq_int (fun _ _ => rfl)))))))))
      (ss_cons (s_asg (i := 1) sc_law_card_text.nd rfl (by first | exact Or.inl rfl | exact Or.inr rfl) (x_op (op_addA rfl) d_add (tb 1) (x_las (x_bor (x_if (xt_cmp op_notNo d_isnt (x_bor (x_ixQ (k_ix rfl) d_ix (tr 0) tq_int (fun _ _ => rfl))) (x_las (x_bor tc_non)) (nomark _)) (x_op (op_addA rfl) d_add (x_bor tc_str) (x_las (x_bor (x_call rfl rfl K_law_when nog (hr.mono (by decide)) (by rfl) (fun σ => passAt (takes_of rfl rfl rfl rfl) σ) (xa_cons (x_frz (x_ixQ (k_ix rfl) d_ix (tr 0) tq_int (fun _ _ => rfl))) xa_nil) xk_nil)))) tc_str)))))
      (ss_one (s_ret (x_op (op_addA rfl) d_add (tb 1) (x_las (x_bor (x_if (xt_cmp op_gt d_gt (x_bor (x_ixQ (k_ix rfl) d_ix (tr 0) tq_int (fun _ _ => rfl))) (x_las (x_bor tc_int)) (nomark _)) (x_op (op_addA rfl) d_add (x_bor tc_str) (x_las (x_bor (x_t1 call_strM d_str (by rfl) T.b_str bt_str (x_las (x_bor (x_ixQ (k_ix rfl) d_ix (tr 0) tq_int (fun _ _ => rfl)))))))) tc_str))))))))
noncomputable def m_law_odd : MF := fnM 5
    (sSeq (sAsg 2 (xLst (aCons (frz (xC .non)) (aCons (frz (xC (.bl true))) (aCons (frz (xC (.bl false))) (aCons (frz (xC (.int 0))) (aCons (frz (xC (.int 1))) (aCons (frz (xUn negD (xC (.int 1)))) (aCons (frz (xC (.str ""))) (aCons (frz (xC (.str "a"))) (aCons (frz (xTup aNil)) (aCons (frz (xLst aNil)) (aCons (frz (ret (.dct []))) (aCons (frz (xTup (aCons (frz (xVar 1)) aNil))) (aCons (frz (xLst (aCons (frz (xVar 1)) aNil))) (aCons (frz (xOp powD (xC (.int 10)) (xC (.int 30)))) (aCons (frz (xC (.str "pin"))) (aCons (frz (xC (.str " "))) (aCons (frz (xOp mulD (xC (.str "9")) (xC (.int 4301)))) aNil)))))))))))))))))))
    (sSeq (sAsg 3 (xOp ixD (xBor 2) (xCall m_law_draw (fun ds _ => ds) 2 (nK []) (aCons (frz (xVar 0)) (aCons (frz (xC (.int 17))) aNil)) aNil)))
    (sSeq (sFor (mRng1 (aCons (frz (xOp ixD (xLst (aCons (frz (xC (.int 0))) (aCons (frz (xC (.int 0))) (aCons (frz (xC (.int 1))) (aCons (frz (xC (.int 26))) aNil))))) (xCall m_law_draw (fun ds _ => ds) 2 (nK []) (aCons (frz (xVar 0)) (aCons (frz (xC (.int 4))) aNil)) aNil))) aNil)) (gN 4)
    (sAsg 3 (xOp ixD (xLst (aCons (frz (xTup (aCons (frz (xVar 3)) aNil))) (aCons (frz (xLst (aCons (frz (xVar 3)) aNil))) aNil))) (xCall m_law_draw (fun ds _ => ds) 2 (nK []) (aCons (frz (xVar 0)) (aCons (frz (xC (.int 2))) aNil)) aNil))))
    (sRet (xMov 3)))))
theorem fn_law_odd (T : Tx G w) (F : Df G.K "_law_odd" "_law_odd" s_law_odd f fd)
    (K_law_draw : KnT P w G base false "_law_draw" 1 2 [] (fun ds _ => ds) m_law_draw) :
    FnT P w G base false 2 f fd ["_law_pot", "_law_thing"] m_law_odd := by
  refine Df.okT (N := ["_law_pot", "_law_thing", "_law_some", "_law_found", "_law_turn"]) F sc_law_odd (fun cdv A outer s H E hga hr => ?_)
  exact (ss_cons (s_asg (i := 2) sc_law_odd.nd rfl (by first | exact Or.inl rfl | exact Or.inr rfl) (x_lst (xa_cons (x_frz tc_non) (xa_cons (x_frz tc_bl) (xa_cons (x_frz tc_bl) (xa_cons (x_frz tc_int) (xa_cons (x_frz tc_int) (xa_cons (x_frz (x_un un_neg d_neg (x_las (x_bor tc_int)))) (xa_cons (x_frz tc_str) (xa_cons (x_frz tc_str) (xa_cons (x_frz (x_tup xa_nil)) (xa_cons (x_frz (x_lst xa_nil)) (xa_cons (x_frz x_dict0) (xa_cons (x_frz (x_tup (xa_cons (x_frz (tv 1)) xa_nil))) (xa_cons (x_frz (x_lst (xa_cons (x_frz (tv 1)) xa_nil))) (xa_cons (x_frz (x_op op_pow d_pow (x_bor tc_int) (x_las (x_bor tc_int)))) (xa_cons (x_frz tc_str) (xa_cons (x_frz tc_str) (xa_cons (x_frz (x_op op_mulM d_mul (x_bor tc_str) (x_las (x_bor tc_int)))) xa_nil)))))))))))))))))))
      (ss_cons (s_asg (i := 3) sc_law_odd.nd rfl (by first | exact Or.inl rfl | exact Or.inr rfl) (x_ix (k_ix rfl) d_ix (tb 2) (x_las (x_bor (x_call rfl rfl K_law_draw nog (hr.mono (by decide)) (by rfl) (fun σ => passAt (takes_of rfl rfl rfl rfl) σ) (xa_cons (x_frz (tv 0)) (xa_cons (x_frz tc_int) xa_nil)) xk_nil))) (fun _ _ => rfl)))
      (ss_cons (s_for (passes_of rfl) rfl (xi_range1 (by rfl) T.b_range (xa_cons (x_frz (x_ix (k_ix rfl) d_ix (x_bor (x_lst (xa_cons (x_frz tc_int) (xa_cons (x_frz tc_int) (xa_cons (x_frz tc_int) (xa_cons (x_frz tc_int) xa_nil)))))) (x_las (x_bor (x_call rfl rfl K_law_draw nog (hr.mono (by decide)) (by rfl) (fun σ => passAt (takes_of rfl rfl rfl rfl) σ) (xa_cons (x_frz (tv 0)) (xa_cons (x_frz tc_int) xa_nil)) xk_nil))) (fun _ _ => rfl))) xa_nil)) (pg_name (i := 4) sc_law_odd.nd rfl (by first | exact Or.inl rfl | exact Or.inr rfl)) tg_name
      (ss_one (s_asg (i := 3) sc_law_odd.nd rfl (by first | exact Or.inl rfl | exact Or.inr rfl) (x_ix (k_ix rfl) d_ix (x_bor (x_lst (xa_cons (x_frz (x_tup (xa_cons (x_frz (tv 3)) xa_nil))) (xa_cons (x_frz (x_lst (xa_cons (x_frz (tv 3)) xa_nil))) xa_nil)))) (x_las (x_bor (x_call rfl rfl K_law_draw nog (hr.mono (by decide)) (by rfl) (fun σ => passAt (takes_of rfl rfl rfl rfl) σ) (xa_cons (x_frz (tv 0)) (xa_cons (x_frz tc_int) xa_nil)) xk_nil))) (fun _ _ => rfl)))))
      (ss_one (s_ret (tm 3))))))
noncomputable def m_law_bent : MF := fnM 9
    (sSeq (sAsg 2 (xM1 splitD (xBor 1) (frz (xC (.str " ")))))
    (sSeq (sPar3 6 7 8 (oCons (xCall m_law_draw (fun ds _ => ds) 2 (nK []) (aCons (frz (xVar 0)) (aCons (frz (xOp addD (xUn lenD (xRd 1)) (xC (.int 1)))) aNil)) aNil) (oCons (xCall m_law_draw (fun ds _ => ds) 2 (nK []) (aCons (frz (xVar 0)) (aCons (frz (xOp addD (xUn lenD (xRd 2)) (xC (.int 1)))) aNil)) aNil) (oCons (xCall m_law_draw (fun ds _ => ds) 2 (nK []) (aCons (frz (xVar 0)) (aCons (frz (xC (.int 10))) aNil)) aNil) oNil))))
    (sSeq (sAsg 3 (xOp ixD (xC (.str "0123456789.,x- abzAT\t\n")) (xCall m_law_draw (fun ds _ => ds) 2 (nK []) (aCons (frz (xVar 0)) (aCons (frz (xC (.int 22))) aNil)) aNil)))
    (sSeq (sAsg 4 (xLst (aCons (frz (xC (.str "until"))) (aCons (frz (xC (.str "strips"))) (aCons (frz (xC (.str "at"))) (aCons (frz (xC (.str "to"))) (aCons (frz (xC (.str "0"))) (aCons (frz (xC (.str "00"))) (aCons (frz (xC (.str "1"))) (aCons (frz (xC (.str "9"))) (aCons (frz (xC (.str "10"))) (aCons (frz (xC (.str "100"))) (aCons (frz (xC (.str "99"))) (aCons (frz (xC (.str "3.4"))) (aCons (frz (xC (.str "3.04"))) (aCons (frz (xC (.str "400.00"))) (aCons (frz (xC (.str "3.24"))) aNil)))))))))))))))))
    (sSeq (sAsg 4 (xOp addD (xBor 4) (xLst (aCons (frz (xC (.str "a"))) (aCons (frz (xC (.str "2x2"))) (aCons (frz (xC (.str "0x1"))) (aCons (frz (xC (.str "10x1"))) (aCons (frz (xC (.str "02x1"))) (aCons (frz (xC (.str "1x"))) (aCons (frz (xC (.str "1,1"))) (aCons (frz (xC (.str "9,0"))) (aCons (frz (xC (.str "0,9"))) (aCons (frz (xC (.str ""))) (aCons (frz (xC (.str "pin"))) (aCons (frz (xC (.str "tear"))) (aCons (frz (xC (.str "-1"))) (aCons (frz (xC (.str "abcdefghi"))) aNil)))))))))))))))))
    (sSeq (sApp 4 (frz (xC (.str "3x3x3"))))
    (sSeq (sAsg 5 (xOp ixD (xOp addD (xBor 4) (xLst (aCons (frz (xOp mulD (xC (.str "9")) (xC (.int 4301)))) (aCons (frz (xOp addD (xC (.str "1.")) (xOp mulD (xC (.str "0")) (xC (.int 4301))))) (aCons (frz (xOp addD (xOp mulD (xC (.str "9")) (xC (.int 4301))) (xC (.str ".05")))) (aCons (frz (xOp addD (xC (.str "1x")) (xOp mulD (xC (.str "1")) (xC (.int 4301))))) aNil)))))) (xCall m_law_draw (fun ds _ => ds) 2 (nK []) (aCons (frz (xVar 0)) (aCons (frz (xC (.int 34))) aNil)) aNil)))
    (sSeq (sIf (toB (xOp ltD (xBor 8) (xC (.int 2))))
    (sRet (xOp addD (xOp addD (xSl (xBor 1) (ret none) (mPart (xVar 6))) (xRd 3)) (xSl (xBor 1) (mPart (xVar 6)) (ret none))))
    sNil)
    (sSeq (sIf (toB (xOp eqD (xBor 8) (xC (.int 2))))
    (sRet (xOp addD (xOp addD (xSl (xBor 1) (ret none) (mPart (xVar 6))) (xRd 3)) (xSl (xBor 1) (mPart (xOp addD (xBor 6) (xC (.int 1)))) (ret none))))
    sNil)
    (sSeq (sIf (toB (xOp eqD (xBor 8) (xC (.int 3))))
    (sRet (xOp addD (xSl (xBor 1) (ret none) (mPart (xVar 6))) (xSl (xBor 1) (mPart (xOp addD (xBor 6) (xC (.int 1)))) (ret none))))
    sNil)
    (sSeq (sIf (toB (xOp eqD (xBor 8) (xC (.int 4))))
    (sRet (xM1 joinD (xC (.str " ")) (frz (xOp addD (xOp addD (xSl (xBor 2) (ret none) (mPart (xVar 7))) (xLst (aCons (frz (xVar 5)) aNil))) (xSl (xBor 2) (mPart (xVar 7)) (ret none))))))
    sNil)
    (sSeq (sIf (toB (xOp eqD (xBor 8) (xC (.int 5))))
    (sRet (xM1 joinD (xC (.str " ")) (frz (xOp addD (xOp addD (xSl (xBor 2) (ret none) (mPart (xVar 7))) (xLst (aCons (frz (xVar 5)) aNil))) (xSl (xBor 2) (mPart (xOp addD (xBor 7) (xC (.int 1)))) (ret none))))))
    sNil)
    (sSeq (sIf (toB (xOp eqD (xBor 8) (xC (.int 6))))
    (sRet (xM1 joinD (xC (.str " ")) (frz (xOp addD (xSl (xBor 2) (ret none) (mPart (xVar 7))) (xSl (xBor 2) (mPart (xOp addD (xBor 7) (xC (.int 1)))) (ret none))))))
    sNil)
    (sSeq (sIf (toB (xOp eqD (xBor 8) (xC (.int 7))))
    (sRet (xM1 joinD (xC (.str " ")) (frz (xOp addD (xSl (xBor 2) (ret none) (mPart (xVar 7))) (xSl (xBor 2) (mPart (xOp subD (xBor 7) (xC (.int 1)))) (ret none))))))
    sNil)
    (sRet (xOp ixD (xLst (aCons (frz (xM1 joinD (xC (.str " ")) (frz (xUn rvD (xRd 2))))) (aCons (frz (xSl (xBor 1) (ret none) (mPart (xVar 6)))) (aCons (frz (xOp addD (xOp addD (xBor 1) (xC (.str " "))) (xRd 1))) (aCons (frz (xM0 upperD (xBor 1))) aNil))))) (xCall m_law_draw (fun ds _ => ds) 2 (nK []) (aCons (frz (xVar 0)) (aCons (frz (xC (.int 4))) aNil)) aNil)))))))))))))))))
theorem fn_law_bent (T : Tx G w) (F : Df G.K "_law_bent" "_law_bent" s_law_bent f fd)
    (K_law_draw : KnT P w G base false "_law_draw" 1 2 [] (fun ds _ => ds) m_law_draw) :
    FnT P w G base false 2 f fd ["_law_pot", "_law_told"] m_law_bent := by
  refine Df.okT (N := ["_law_pot", "_law_told", "_law_words", "_law_sign", "_law_some", "_law_word", "_law_at", "_law_far", "_law_way"]) F sc_law_bent (fun cdv A outer s H E hga hr => ?_)
  exact (ss_cons (s_asg (i := 2) sc_law_bent.nd rfl (by first | exact Or.inl rfl | exact Or.inr rfl) (x_m1 PySem.F.slot_str_split PySem.F.type_str_split mt_splitM d_split (tb 1) (x_frz tc_str)))
      (ss_cons (s_par3 (ps_par3 (i := 6) (j := 7) (l := 8) (by rfl) sc_law_bent.nd rfl rfl rfl (by decide) (by decide) (by decide) rfl rfl rfl (xo_cons (x_call rfl rfl K_law_draw nog (hr.mono (by decide)) (by rfl) (fun σ => passAt (takes_of rfl rfl rfl rfl) σ) (xa_cons (x_frz (tv 0)) (xa_cons (x_frz (x_op (op_addA rfl) d_add (x_bor (x_b1 (k_len rfl) d_len (by rfl) T.b_len bt_len (tr 1))) (x_las (x_bor tc_int)))) xa_nil)) xk_nil) (xo_cons (x_call rfl rfl K_law_draw nog (hr.mono (by decide)) (by rfl) (fun σ => passAt (takes_of rfl rfl rfl rfl) σ) (xa_cons (x_frz (tv 0)) (xa_cons (x_frz (x_op (op_addA rfl) d_add (x_bor (x_b1 (k_len rfl) d_len (by rfl) T.b_len bt_len (tr 2))) (x_las (x_bor tc_int)))) xa_nil)) xk_nil) (xo_cons (x_call rfl rfl K_law_draw nog (hr.mono (by decide)) (by rfl) (fun σ => passAt (takes_of rfl rfl rfl rfl) σ) (xa_cons (x_frz (tv 0)) (xa_cons (x_frz tc_int) xa_nil)) xk_nil) xo_nil))) (by rfl)))
      (ss_cons (s_asg (i := 3) sc_law_bent.nd rfl (by first | exact Or.inl rfl | exact Or.inr rfl) (x_ix (k_ix rfl) d_ix (x_bor tc_str) (x_las (x_bor (x_call rfl rfl K_law_draw nog (hr.mono (by decide)) (by rfl) (fun σ => passAt (takes_of rfl rfl rfl rfl) σ) (xa_cons (x_frz (tv 0)) (xa_cons (x_frz tc_int) xa_nil)) xk_nil))) (fun _ _ => rfl)))
      (ss_cons (s_asg (i := 4) sc_law_bent.nd rfl (by first | exact Or.inl rfl | exact Or.inr rfl) (x_lst (xa_cons (x_frz tc_str) (xa_cons (x_frz tc_str) (xa_cons (x_frz tc_str) (xa_cons (x_frz tc_str) (xa_cons (x_frz tc_str) (xa_cons (x_frz tc_str) (xa_cons (x_frz tc_str) (xa_cons (x_frz tc_str) (xa_cons (x_frz tc_str) (xa_cons (x_frz tc_str) (xa_cons (x_frz tc_str) (xa_cons (x_frz tc_str) (xa_cons (x_frz tc_str) (xa_cons (x_frz tc_str) (xa_cons (x_frz tc_str) xa_nil)))))))))))))))))
      (ss_cons (s_asg (i := 4) sc_law_bent.nd rfl (by first | exact Or.inl rfl | exact Or.inr rfl) (x_op (op_addA rfl) d_add (tb 4) (x_las (x_bor (x_lst (xa_cons (x_frz tc_str) (xa_cons (x_frz tc_str) (xa_cons (x_frz tc_str) (xa_cons (x_frz tc_str) (xa_cons (x_frz tc_str) (xa_cons (x_frz tc_str) (xa_cons (x_frz tc_str) (xa_cons (x_frz tc_str) (xa_cons (x_frz tc_str) (xa_cons (x_frz tc_str) (xa_cons (x_frz tc_str) (xa_cons (x_frz tc_str) (xa_cons (x_frz tc_str) (xa_cons (x_frz tc_str) xa_nil)))))))))))))))))))
      (ss_cons (s_app (i := 4) rfl rfl (by first | exact Or.inl rfl | exact Or.inr (Or.inl rfl) | exact Or.inr (Or.inr rfl)) (x_frz tc_str))
      (ss_cons (s_asg (i := 5) sc_law_bent.nd rfl (by first | exact Or.inl rfl | exact Or.inr rfl) (x_ix (k_ix rfl) d_ix (x_bor (x_op (op_addA rfl) d_add (tb 4) (x_las (x_bor (x_lst (xa_cons (x_frz (x_op op_mulM d_mul (x_bor tc_str) (x_las (x_bor tc_int)))) (xa_cons (x_frz (x_op (op_addA rfl) d_add (x_bor tc_str) (x_las (x_bor (x_op op_mulM d_mul (x_bor tc_str) (x_las (x_bor tc_int))))))) (xa_cons (x_frz (x_op (op_addA rfl) d_add (x_bor (x_op op_mulM d_mul (x_bor tc_str) (x_las (x_bor tc_int)))) (x_las (x_bor tc_str)))) (xa_cons (x_frz (x_op (op_addA rfl) d_add (x_bor tc_str) (x_las (x_bor (x_op op_mulM d_mul (x_bor tc_str) (x_las (x_bor tc_int))))))) xa_nil))))))))) (x_las (x_bor (x_call rfl rfl K_law_draw nog (hr.mono (by decide)) (by rfl) (fun σ => passAt (takes_of rfl rfl rfl rfl) σ) (xa_cons (x_frz (tv 0)) (xa_cons (x_frz tc_int) xa_nil)) xk_nil))) (fun _ _ => rfl)))
      (ss_cons (s_if (xt_cmp op_lt d_lt (tb 8) (x_las (x_bor tc_int)) (nomark _)) (ss_one (s_ret (x_op (op_addA rfl) d_add (x_bor (x_op (op_addA rfl) d_add (x_bor (x_sl rfl (tb 1) xp_none (xp_some (tv 6)))) (tr 3))) (x_las (x_bor (x_sl rfl (tb 1) (xp_some (tv 6)) xp_none)))))) ss_nil)
      (ss_cons (s_if (xt_cmp (k_eq rfl (hu64 hr)) d_eq (tb 8) (x_las (x_bor tc_int)) (nomark _)) (ss_one (s_ret (x_op (op_addA rfl) d_add (x_bor (x_op (op_addA rfl) d_add (x_bor (x_sl rfl (tb 1) xp_none (xp_some (tv 6)))) (tr 3))) (x_las (x_bor (x_sl rfl (tb 1) (xp_some (x_op (op_addA rfl) d_add (tb 6) (x_las (x_bor tc_int)))) xp_none)))))) ss_nil)
      (ss_cons (s_if (xt_cmp (k_eq rfl (hu64 hr)) d_eq (tb 8) (x_las (x_bor tc_int)) (nomark _)) (ss_one (s_ret (x_op (op_addA rfl) d_add (x_bor (x_sl rfl (tb 1) xp_none (xp_some (tv 6)))) (x_las (x_bor (x_sl rfl (tb 1) (xp_some (x_op (op_addA rfl) d_add (tb 6) (x_las (x_bor tc_int)))) xp_none)))))) ss_nil)
      (ss_cons (s_if (xt_cmp (k_eq rfl (hu64 hr)) d_eq (tb 8) (x_las (x_bor tc_int)) (nomark _)) (ss_one (s_ret (x_m1 PySem.F.slot_str_join PySem.F.type_str_join (k_join rfl) d_join (x_bor tc_str) (x_frz (x_op (op_addA rfl) d_add (x_bor (x_op (op_addA rfl) d_add (x_bor (x_sl rfl (tb 2) xp_none (xp_some (tv 7)))) (x_las (x_bor (x_lst (xa_cons (x_frz (tv 5)) xa_nil)))))) (x_las (x_bor (x_sl rfl (tb 2) (xp_some (tv 7)) xp_none)))))))) ss_nil)
      (ss_cons (s_if (xt_cmp (k_eq rfl (hu64 hr)) d_eq (tb 8) (x_las (x_bor tc_int)) (nomark _)) (ss_one (s_ret (x_m1 PySem.F.slot_str_join PySem.F.type_str_join (k_join rfl) d_join (x_bor tc_str) (x_frz (x_op (op_addA rfl) d_add (x_bor (x_op (op_addA rfl) d_add (x_bor (x_sl rfl (tb 2) xp_none (xp_some (tv 7)))) (x_las (x_bor (x_lst (xa_cons (x_frz (tv 5)) xa_nil)))))) (x_las (x_bor (x_sl rfl (tb 2) (xp_some (x_op (op_addA rfl) d_add (tb 7) (x_las (x_bor tc_int)))) xp_none)))))))) ss_nil)
      (ss_cons (s_if (xt_cmp (k_eq rfl (hu64 hr)) d_eq (tb 8) (x_las (x_bor tc_int)) (nomark _)) (ss_one (s_ret (x_m1 PySem.F.slot_str_join PySem.F.type_str_join (k_join rfl) d_join (x_bor tc_str) (x_frz (x_op (op_addA rfl) d_add (x_bor (x_sl rfl (tb 2) xp_none (xp_some (tv 7)))) (x_las (x_bor (x_sl rfl (tb 2) (xp_some (x_op (op_addA rfl) d_add (tb 7) (x_las (x_bor tc_int)))) xp_none)))))))) ss_nil)
      (ss_cons (s_if (xt_cmp (k_eq rfl (hu64 hr)) d_eq (tb 8) (x_las (x_bor tc_int)) (nomark _)) (ss_one (s_ret (x_m1 PySem.F.slot_str_join PySem.F.type_str_join (k_join rfl) d_join (x_bor tc_str) (x_frz (x_op (op_addA rfl) d_add (x_bor (x_sl rfl (tb 2) xp_none (xp_some (tv 7)))) (x_las (x_bor (x_sl rfl (tb 2) (xp_some (x_op op_sub d_sub (tb 7) (x_las (x_bor tc_int)))) xp_none)))))))) ss_nil)
      (ss_one (s_ret (x_ix (k_ix rfl) d_ix (x_bor (x_lst (xa_cons (x_frz (x_m1 PySem.F.slot_str_join PySem.F.type_str_join (k_join rfl) d_join (x_bor tc_str) (x_frz (x_revA rfl (tr 2))))) (xa_cons (x_frz (x_sl rfl (tb 1) xp_none (xp_some (tv 6)))) (xa_cons (x_frz (x_op (op_addA rfl) d_add (x_bor (x_op (op_addA rfl) d_add (tb 1) (x_las (x_bor tc_str)))) (tr 1))) (xa_cons (x_frz (x_m0 PySem.F.slot_str_upper PySem.F.type_str_upper mt_upperM d_upper (tb 1))) xa_nil)))))) (x_las (x_bor (x_call rfl rfl K_law_draw nog (hr.mono (by decide)) (by rfl) (fun σ => passAt (takes_of rfl rfl rfl rfl) σ) (xa_cons (x_frz (tv 0)) (xa_cons (x_frz tc_int) xa_nil)) xk_nil))) (fun _ _ => rfl))))))))))))))))))
noncomputable def m_law_number : MF := fnM 5
    (sSeq (sIf (bOr (toB (xOp ltD (xUn lenD (xRd 0)) (xC (.int 1)))) (bOr (toB (xOp gtD (xUn lenD (xRd 0)) (xC (.int 4)))) (bNot (toB (xUn allD (xLc [4] (mSeq (frz (xVar 0))) (gN 4) (ret true) (frz (xOp inD (xBor 4) (xC (.str "0123456789"))))))))))
    (sRet (xC .non))
    sNil)
    (sSeq (sAsg 3 (xUn intD (xRd 0)))
    (sRet (xIf (bAnd (toB (xOp eqD (xUn strD (xRd 3)) (xRd 0))) (toB (xChain leD leD (xBor 1) (xBor 3) (xRd 2)))) (xVar 3) (xC .non)))))
theorem fn_law_number (T : Tx G w) (F : Df G.K "_law_number" "_law_number" s_law_number f fd) :
    FnT P w G base false 1 f fd ["_law_word", "_law_least", "_law_most"] m_law_number := by
  refine Df.okT (N := ["_law_word", "_law_least", "_law_most", "_law_number_here", "_law_sign"]) F sc_law_number (fun cdv A outer s H E hga hr => ?_)
  exact (ss_cons (s_if (PW.pt (xw_or (xt_cmp op_lt d_lt (x_bor (x_b1 (k_len rfl) d_len (by rfl) T.b_len bt_len (tr 0))) (x_las (x_bor tc_int)) (nomark _)) (xw_or (xt_cmp op_gt d_gt (x_bor (x_b1 (k_len rfl) d_len (by rfl) T.b_len bt_len (tr 0))) (x_las (x_bor tc_int)) (nomark _)) (xw_or1 (xt_not (xt_val (x_b1 (k_all rfl rfl) d_all (by rfl) T.b_all bt_all (x_las (x_bor (x_lc (own := [("_law_sign", 4)]) (vs := [4]) rfl (by decide) rfl sc_law_number.nd (xi_any rfl (x_frz (tv 0))) (blkOk_by (N := ["_law_word", "_law_least", "_law_most", "_law_number_here", "_law_sign"]) (sc := defScope s_law_number) (by decide +kernel)) (tw_name (by decide)) (fun _ _ _ _ _ => (pg_name (i := 4) sc_law_number.nd rfl (by first | exact Or.inl rfl | exact Or.inr rfl))) (fun _ _ _ _ _ => xts_nil) (fun _ _ _ _ _ => (x_frz (x_cmp (k_in rfl) d_in (tb 4) (x_las (x_bor tc_str)) (by with_unfolding_all rfl)))))))))))))) (ss_one (s_ret tc_non)) ss_nil)
      (ss_cons (s_asg (i := 3) sc_law_number.nd rfl (by first | exact Or.inl rfl | exact Or.inr rfl) (x_t1 call_intM d_int (by rfl) T.b_int bt_int (tr 0)))
      (ss_one (s_ret (x_if (PW.pt (xw_and (xt_cmp (k_eq rfl (hu64 hr)) d_eq (x_bor (x_t1 call_strM d_str (by rfl) T.b_str bt_str (tr 3))) (tr 0) (nomark _)) (xw_and1 (xt_chain op_le op_le d_le d_le (tb 1) (tb 3) (tr 2))))) (tv 3) tc_non)))))
noncomputable def m_law_moment_of : MF := fnM 5
    (sSeq (sPar 2 3 (oCons (xSl (xBor 0) (ret none) (mPart (xUn negD (xC (.int 3))))) (oCons (xSl (xBor 0) (mPart (xUn negD (xC (.int 2)))) (ret none)) oNil)))
    (sSeq (sIf (bOr (toB (xOp ltD (xUn lenD (xRd 0)) (xC (.int 4)))) (bOr (toB (xOp neD (xOp ixD (xBor 0) (xUn negD (xC (.int 3)))) (xC (.str ".")))) (bOr (bNot (toB (xUn allD (xLc [4] (mSeq (frz (xVar 3))) (gN 4) (ret true) (frz (xOp inD (xBor 4) (xC (.str "0123456789")))))))) (toB (xOp gtD (xUn intD (xRd 3)) (xC (.int 23)))))))
    (sRet (xC .non))
    sNil)
    (sSeq (sAsg 1 (xCall m_law_number (fun ds _ => ds) 3 (nK []) (aCons (frz (xVar 2)) (aCons (frz (xC (.int 0))) (aCons (frz (xC (.int 399))) aNil))) aNil))
    (sRet (xIf (toB (xOp isD (xBor 1) (xC .non))) (xC .non) (xOp addD (xOp mulD (xC (.int 24)) (xRd 1)) (xUn intD (xRd 3))))))))
theorem fn_law_moment_of (T : Tx G w) (F : Df G.K "_law_moment_of" "_law_moment_of" s_law_moment_of f fd)
    (K_law_number : KnT P w G base false "_law_number" 1 3 [] (fun ds _ => ds) m_law_number) :
    FnT P w G base false 2 f fd ["_law_word"] m_law_moment_of := by
  refine Df.okT (N := ["_law_word", "_law_days", "_law_day", "_law_hour", "_law_sign"]) F sc_law_moment_of (fun cdv A outer s H E hga hr => ?_)
  exact (ss_cons (s_par (ps_par (i := 2) (j := 3) (by rfl) sc_law_moment_of.nd rfl rfl (by decide) rfl rfl (xo_cons (x_sl rfl (tb 0) xp_none (xp_some (x_un un_neg d_neg (x_las (x_bor tc_int))))) (xo_cons (x_sl rfl (tb 0) (xp_some (x_un un_neg d_neg (x_las (x_bor tc_int)))) xp_none) xo_nil)) (by rfl)))
      (ss_cons (s_if (PW.pt (xw_or (xt_cmp op_lt d_lt (x_bor (x_b1 (k_len rfl) d_len (by rfl) T.b_len bt_len (tr 0))) (x_las (x_bor tc_int)) (nomark _)) (xw_or (xt_cmp (k_ne rfl (hu64 hr)) d_ne (x_bor (x_ix (k_ix rfl) d_ix (tb 0) (x_las (x_bor (x_un un_neg d_neg (x_las (x_bor tc_int))))) (fun _ _ => rfl))) (x_las (x_bor tc_str)) (nomark _)) (xw_or (xt_not (xt_val (x_b1 (k_all rfl rfl) d_all (by rfl) T.b_all bt_all (x_las (x_bor (x_lc (own := [("_law_sign", 4)]) (vs := [4]) rfl (by decide) rfl sc_law_moment_of.nd (xi_any rfl (x_frz (tv 3))) (blkOk_by (N := ["_law_word", "_law_days", "_law_day", "_law_hour", "_law_sign"]) (sc := defScope s_law_moment_of) (by decide +kernel)) (tw_name (by decide)) (fun _ _ _ _ _ => (pg_name (i := 4) sc_law_moment_of.nd rfl (by first | exact Or.inl rfl | exact Or.inr rfl))) (fun _ _ _ _ _ => xts_nil) (fun _ _ _ _ _ => (x_frz (x_cmp (k_in rfl) d_in (tb 4) (x_las (x_bor tc_str)) (by with_unfolding_all rfl)))))))))) (xw_or1 (xt_cmp op_gt d_gt (x_bor (x_t1 call_intM d_int (by rfl) T.b_int bt_int (tr 3))) (x_las (x_bor tc_int)) (nomark _))))))) (ss_one (s_ret tc_non)) ss_nil)
      (ss_cons (s_asg (i := 1) sc_law_moment_of.nd rfl (by first | exact Or.inl rfl | exact Or.inr rfl) (x_call rfl rfl K_law_number nog (hr.mono (by decide)) (by rfl) (fun σ => passAt (takes_of rfl rfl rfl rfl) σ) (xa_cons (x_frz (tv 2)) (xa_cons (x_frz tc_int) (xa_cons (x_frz tc_int) xa_nil))) xk_nil))
      (ss_one (s_ret (x_if (xt_cmp op_isNo d_is (tb 1) (x_las (x_bor tc_non)) (nomark _)) tc_non (x_op (op_addA rfl) d_add (x_bor (x_op op_mulM d_mul (x_bor tc_int) (tr 1))) (x_las (x_bor (x_t1 call_intM d_int (by rfl) T.b_int bt_int (tr 3)))))))))))
noncomputable def m_law_is_name : MF := fnM 3
    (sSeq (sAsg 1 (xLst (aCons (frz (xC (.str "pin"))) (aCons (frz (xC (.str "again"))) (aCons (frz (xC (.str "move"))) (aCons (frz (xC (.str "take"))) (aCons (frz (xC (.str "tear"))) (aCons (frz (xC (.str "at"))) (aCons (frz (xC (.str "to"))) (aCons (frz (xC (.str "until"))) (aCons (frz (xC (.str "strips"))) (aCons (frz (xC (.str "known"))) aNil))))))))))))
    (sSeq (sIf (bOr (toB (xOp ltD (xUn lenD (xRd 0)) (xC (.int 1)))) (bOr (toB (xOp gtD (xUn lenD (xRd 0)) (xC (.int 8)))) (toB (xOp inD (xBor 0) (xRd 1)))))
    (sRet (xC (.bl false)))
    sNil)
    (sRet (xUn allD (xLc [2] (mSeq (frz (xVar 0))) (gN 2) (ret true) (frz (xOp inD (xBor 2) (xC (.str "abcdefghijklmnopqrstuvwxyz")))))))))
theorem fn_law_is_name (T : Tx G w) (F : Df G.K "_law_is_name" "_law_is_name" s_law_is_name f fd) :
    FnT P w G base false 1 f fd ["_law_word"] m_law_is_name := by
  refine Df.okT (N := ["_law_word", "_law_kept", "_law_sign"]) F sc_law_is_name (fun cdv A outer s H E hga hr => ?_)
  exact (ss_cons (s_asg (i := 1) sc_law_is_name.nd rfl (by first | exact Or.inl rfl | exact Or.inr rfl) (x_lst (xa_cons (x_frz tc_str) (xa_cons (x_frz tc_str) (xa_cons (x_frz tc_str) (xa_cons (x_frz tc_str) (xa_cons (x_frz tc_str) (xa_cons (x_frz tc_str) (xa_cons (x_frz tc_str) (xa_cons (x_frz tc_str) (xa_cons (x_frz tc_str) (xa_cons (x_frz tc_str) xa_nil))))))))))))
      (ss_cons (s_if (PW.pt (xw_or (xt_cmp op_lt d_lt (x_bor (x_b1 (k_len rfl) d_len (by rfl) T.b_len bt_len (tr 0))) (x_las (x_bor tc_int)) (nomark _)) (xw_or (xt_cmp op_gt d_gt (x_bor (x_b1 (k_len rfl) d_len (by rfl) T.b_len bt_len (tr 0))) (x_las (x_bor tc_int)) (nomark _)) (xw_or1 (xt_cmp (k_in rfl) d_in (tb 0) (tr 1) (by with_unfolding_all rfl)))))) (ss_one (s_ret tc_bl)) ss_nil)
      (ss_one (s_ret (x_b1 (k_all rfl rfl) d_all (by rfl) T.b_all bt_all (x_las (x_bor (x_lc (own := [("_law_sign", 2)]) (vs := [2]) rfl (by decide) rfl sc_law_is_name.nd (xi_any rfl (x_frz (tv 0))) (blkOk_by (N := ["_law_word", "_law_kept", "_law_sign"]) (sc := defScope s_law_is_name) (by decide +kernel)) (tw_name (by decide)) (fun _ _ _ _ _ => (pg_name (i := 2) sc_law_is_name.nd rfl (by first | exact Or.inl rfl | exact Or.inr rfl))) (fun _ _ _ _ _ => xts_nil) (fun _ _ _ _ _ => (x_frz (x_cmp (k_in rfl) d_in (tb 2) (x_las (x_bor tc_str)) (by with_unfolding_all rfl))))))))))))
noncomputable def m_law_due : MF := fnM 11
    (sSeq (sAsg 1 (xIf (toB (xCn isiD (aCons (frz (xVar 0)) (aCons (ret (.ty "str")) aNil)))) (xM1 splitD (xBor 0) (frz (xC (.str " ")))) (xLst aNil)))
    (sSeq (sIf (bOr (toB (xOp ninD (xUn lenD (xRd 1)) (xTup (aCons (frz (xC (.int 2))) (aCons (frz (xC (.int 4))) (aCons (frz (xC (.int 6))) aNil)))))) (bOr (bNot (toB (xCall m_law_is_name (fun ds _ => ds) 1 (nK []) (aCons (frz (xOpQ ixD (xRd 1) (fun _ => some (.int 0)))) aNil) aNil))) (toB (xOp neD (xM1 countD (xOpQ ixD (xRd 1) (fun _ => some (.int 1))) (frz (xC (.str "x")))) (xC (.int 1))))))
    (sRet (xC .non))
    sNil)
    (sSeq (sAsgT (gL [(gN 2), (gN 3)]) (frz (xLc [10] (mSeq (frz (xM1 splitD (xOpQ ixD (xRd 1) (fun _ => some (.int 1))) (frz (xC (.str "x")))))) (gN 10) (ret true) (frz (xCall m_law_number (fun ds _ => ds) 3 (nK []) (aCons (frz (xVar 10)) (aCons (frz (xC (.int 1))) (aCons (frz (xC (.int 9))) aNil))) aNil)))))
    (sSeq (sPar3 4 5 6 (oCons (xC .non) (oCons (xC (.int 0)) (oCons (xUn (evD 2) (xRd 1)) oNil))))
    (sSeq (sIf (bOr (toB (xOp (inED true) (xBor 6) (xTup (aCons (frz (xLst aNil)) (aCons (frz (xLst (aCons (frz (xC (.str "until"))) aNil))) (aCons (frz (xLst (aCons (frz (xC (.str "strips"))) aNil))) (aCons (frz (xLst (aCons (frz (xC (.str "until"))) (aCons (frz (xC (.str "strips"))) aNil)))) aNil))))))) (bOr (toB (xOp isD (xBor 2) (xC .non))) (toB (xOp isD (xBor 3) (xC .non)))))
    (sRet (xC .non))
    sNil)
    (sSeq (sFor (mZip (aCons (frz (xVar 6)) (aCons (frz (xUn (evD 3) (xRd 1))) aNil))) (gT [(gN 7), (gN 8)])
    (sSeq (sAsg 9 (xIf (toB (xOp eqD (xBor 7) (xC (.str "until")))) (xCall m_law_moment_of (fun ds _ => ds) 1 (nK []) (aCons (frz (xVar 8)) aNil) aNil) (xCall m_law_number (fun ds _ => ds) 3 (nK []) (aCons (frz (xVar 8)) (aCons (frz (xC (.int 1))) (aCons (frz (xC (.int 99))) aNil))) aNil)))
    (sSeq (sIf (toB (xOp isD (xBor 9) (xC .non)))
    (sRet (xC .non))
    sNil)
    (sAsgT (gT [(gN 4), (gN 5)]) (frz (xOp ixD (xLst (aCons (frz (xTup (aCons (frz (xVar 9)) (aCons (frz (xVar 5)) aNil)))) (aCons (frz (xTup (aCons (frz (xVar 4)) (aCons (frz (xVar 9)) aNil)))) aNil))) (xUn intD (xOp eqD (xBor 7) (xC (.str "strips"))))))))))
    (sRet (xTup (aCons (frz (xOpQ ixD (xRd 1) (fun _ => some (.int 0)))) (aCons (frz (xVar 2)) (aCons (frz (xVar 3)) (aCons (frz (xVar 4)) (aCons (frz (xVar 5)) aNil)))))))))))))
theorem fn_law_due (T : Tx G w) (F : Df G.K "_law_due" "_law_due" s_law_due f fd)
    (K_law_is_name : KnT P w G base false "_law_is_name" 1 1 [] (fun ds _ => ds) m_law_is_name)
    (K_law_number : KnT P w G base false "_law_number" 1 3 [] (fun ds _ => ds) m_law_number)
    (K_law_moment_of : KnT P w G base false "_law_moment_of" 2 1 [] (fun ds _ => ds) m_law_moment_of) :
    FnT P w G base false 3 f fd ["_law_thing"] m_law_due := by
  refine Df.okT (N := ["_law_thing", "_law_words", "_law_across", "_law_down", "_law_last", "_law_torn", "_law_marks", "_law_mark", "_law_word", "_law_number_here", "_law_part"]) F sc_law_due (fun cdv A outer s H E hga hr => ?_)
  exact (ss_cons (s_asg (i := 1) sc_law_due.nd rfl (by first | exact Or.inl rfl | exact Or.inr rfl) (x_if (xt_val (x_bn (k_isi rfl) d_isi (by rfl) T.b_isinstance bt_isinstance (xa_cons (x_frz (tv 0)) (xa_cons (x_ty (by rfl) T.b_str bt_str) xa_nil)))) (x_m1 PySem.F.slot_str_split PySem.F.type_str_split mt_splitM d_split (tb 0) (x_frz tc_str)) (x_lst xa_nil)))
      (ss_cons (s_if (PW.pt (xw_or (xt_cmp (k_notIn rfl) d_nin (x_bor (x_b1 (k_len rfl) d_len (by rfl) T.b_len bt_len (tr 1))) (x_las (x_bor (x_tup (xa_cons (x_frz tc_int) (xa_cons (x_frz tc_int) (xa_cons (x_frz tc_int) xa_nil)))))) (by with_unfolding_all rfl)) (xw_or (xt_not (xt_val (x_call rfl rfl K_law_is_name nog (hr.mono (by decide)) (by rfl) (fun σ => passAt (takes_of rfl rfl rfl rfl) σ) (xa_cons (x_frz (x_ixQ (k_ix rfl) d_ix (tr 1) tq_int (fun _ _ => rfl))) xa_nil) xk_nil))) (xw_or1 (xt_cmp (k_ne rfl (hu64 hr)) d_ne (x_bor (x_m1 PySem.F.slot_str_count PySem.F.type_str_count mt_countM d_count (x_bor (x_ixQ (k_ix rfl) d_ix (tr 1) tq_int (fun _ _ => rfl))) (x_frz tc_str))) (x_las (x_bor tc_int)) (nomark _)))))) (ss_one (s_ret tc_non)) ss_nil)
      (ss_cons (s_asgT (x_frz (x_lc (own := [("_law_part", 10)]) (vs := [10]) rfl (by decide) rfl sc_law_due.nd (xi_any rfl (x_frz (x_m1 PySem.F.slot_str_split PySem.F.type_str_split mt_splitM d_split (x_bor (x_ixQ (k_ix rfl) d_ix (tr 1) tq_int (fun _ _ => rfl))) (x_frz tc_str)))) (blkOk_by (N := ["_law_thing", "_law_words", "_law_across", "_law_down", "_law_last", "_law_torn", "_law_marks", "_law_mark", "_law_word", "_law_number_here", "_law_part"]) (sc := defScope s_law_due) (by decide +kernel)) (tw_name (by decide)) (fun _ _ _ _ _ => (pg_name (i := 10) sc_law_due.nd rfl (by first | exact Or.inl rfl | exact Or.inr rfl))) (fun _ _ _ _ _ => xts_nil) (fun _ _ _ _ _ => (x_frz (x_call rfl rfl K_law_number nog (hr.mono (by decide)) (by rfl) (fun _ => noPass) (xa_cons (x_frz (tv 10)) (xa_cons (x_frz tc_int) (xa_cons (x_frz tc_int) xa_nil))) xk_nil))))) (pg_unlK (K := G.K) rfl rfl (pgs_cons (pg_name (i := 2) sc_law_due.nd rfl (by first | exact Or.inl rfl | exact Or.inr rfl)) (pgs_cons (pg_name (i := 3) sc_law_due.nd rfl (by first | exact Or.inl rfl | exact Or.inr rfl)) pgs_nil))) (tg_unlK rfl (tgs_cons tg_name (tgs_cons tg_name tgs_nil))))
      (ss_cons (s_par3 (ps_par3 (i := 4) (j := 5) (l := 6) (by rfl) sc_law_due.nd rfl rfl rfl (by decide) (by decide) (by decide) rfl rfl rfl (xo_cons tc_non (xo_cons tc_int (xo_cons (x_ev rfl (tr 1)) xo_nil))) (by rfl)))
      (ss_cons (s_if (PW.pt (xw_or (xt_cmp (k_ninE rfl (hu65 hr)) (d_inE true) (tb 6) (x_las (x_bor (x_tup (xa_cons (x_frz (x_lst xa_nil)) (xa_cons (x_frz (x_lst (xa_cons (x_frz tc_str) xa_nil))) (xa_cons (x_frz (x_lst (xa_cons (x_frz tc_str) xa_nil))) (xa_cons (x_frz (x_lst (xa_cons (x_frz tc_str) (xa_cons (x_frz tc_str) xa_nil)))) xa_nil))))))) (by with_unfolding_all rfl)) (xw_or (xt_cmp op_isNo d_is (tb 2) (x_las (x_bor tc_non)) (nomark _)) (xw_or1 (xt_cmp op_isNo d_is (tb 3) (x_las (x_bor tc_non)) (nomark _)))))) (ss_one (s_ret tc_non)) ss_nil)
      (ss_cons (s_for (passes_of rfl) rfl (xi_zip rfl (by rfl) T.b_zip (xa_cons (x_frz (tv 6)) (xa_cons (x_frz (x_ev rfl (tr 1))) xa_nil))) (pg_tupK (K := G.K) rfl rfl (pgs_cons (pg_name (i := 7) sc_law_due.nd rfl (by first | exact Or.inl rfl | exact Or.inr rfl)) (pgs_cons (pg_name (i := 8) sc_law_due.nd rfl (by first | exact Or.inl rfl | exact Or.inr rfl)) pgs_nil))) (tg_tupK rfl (tgs_cons tg_name (tgs_cons tg_name tgs_nil)))
      (ss_cons (s_asg (i := 9) sc_law_due.nd rfl (by first | exact Or.inl rfl | exact Or.inr rfl) (x_if (xt_cmp (k_eq rfl (hu64 hr)) d_eq (tb 7) (x_las (x_bor tc_str)) (nomark _)) (x_call rfl rfl K_law_moment_of nog (hr.mono (by decide)) (by rfl) (fun σ => passAt (takes_of rfl rfl rfl rfl) σ) (xa_cons (x_frz (tv 8)) xa_nil) xk_nil) (x_call rfl rfl K_law_number nog (hr.mono (by decide)) (by rfl) (fun σ => passAt (takes_of rfl rfl rfl rfl) σ) (xa_cons (x_frz (tv 8)) (xa_cons (x_frz tc_int) (xa_cons (x_frz tc_int) xa_nil))) xk_nil)))
      (ss_cons (s_if (xt_cmp op_isNo d_is (tb 9) (x_las (x_bor tc_non)) (nomark _)) (ss_one (s_ret tc_non)) ss_nil)
      (ss_one (s_asgT (x_frz (x_ix (k_ix rfl) d_ix (x_bor (x_lst (xa_cons (x_frz (x_tup (xa_cons (x_frz (tv 9)) (xa_cons (x_frz (tv 5)) xa_nil)))) (xa_cons (x_frz (x_tup (xa_cons (x_frz (tv 4)) (xa_cons (x_frz (tv 9)) xa_nil)))) xa_nil)))) (x_las (x_bor (x_t1 call_intM d_int (by rfl) T.b_int bt_int (x_las (x_bor (x_cmp (k_eq rfl (hu64 hr)) d_eq (tb 7) (x_las (x_bor tc_str)) (nomark _))))))) (fun _ _ => rfl))) (pg_tupK (K := G.K) rfl rfl (pgs_cons (pg_name (i := 4) sc_law_due.nd rfl (by first | exact Or.inl rfl | exact Or.inr rfl)) (pgs_cons (pg_name (i := 5) sc_law_due.nd rfl (by first | exact Or.inl rfl | exact Or.inr rfl)) pgs_nil))) (tg_tupK rfl (tgs_cons tg_name (tgs_cons tg_name tgs_nil))))))))
      (ss_one (s_ret (x_tup (xa_cons (x_frz (x_ixQ (k_ix rfl) d_ix (tr 1) tq_int (fun _ _ => rfl))) (xa_cons (x_frz (tv 2)) (xa_cons (x_frz (tv 3)) (xa_cons (x_frz (tv 4)) (xa_cons (x_frz (tv 5)) xa_nil))))))))))))))
noncomputable def m_law_read : MF := fnM 4
    (sSeq (sAsg 1 (xC .non))
    (sSeq (sTryB 2 [("NoText", true)]
    (sSeq (sAsg 3 (xCall m_read_card (fun ds _ => ds) 1 (nK []) (aCons (frz (xVar 0)) aNil) aNil))
    (sSeq (sAsg 1 (xTup (aCons (frz (xFldF CT "name" (xRd 3))) (aCons (frz (xFldF CT "wide" (xRd 3))) (aCons (frz (xFldF CT "high" (xRd 3))) (aCons (frz (xFldF CT "until" (xRd 3))) (aCons (frz (xFldF CT "strips" (xRd 3))) aNil)))))))
    (sIf (toB (xOp neD (xSp [("Card", m_Card_str)] strD (frz (xVar 3))) (xRd 0)))
    (sAsg 1 (xC .non))
    sNil)))
    (sAsg 1 (xTup (aCons (frz (xC (.str "none"))) (aCons (frz (xUn reprD (xXk XT "text" (frz (xVar 2))))) aNil)))))
    (sRet (xMov 1))))
theorem fn_law_read (T : Tx G w) (F : Df G.K "_law_read" "_law_read" s_law_read f fd) (SM : Sm base)
    (K_read_card : KnT P w G base false "read_card" 6 1 [] (fun ds _ => ds) m_read_card)
    (K_str_Card : SpF P w G base false 2 "__str__" [("Card", m_Card_str)]) :
    FnT P w G base true 7 f fd ["_law_thing"] m_law_read := by
  refine Df.okT (N := ["_law_thing", "_law_found", "e", "_law_one"]) F sc_law_read (fun cdv A outer s H E hga hr => ?_)
  exact (ss_cons (s_asg (i := 1) sc_law_read.nd rfl (by first | exact Or.inl rfl | exact Or.inr rfl) tc_non)
      (ss_cons (s_tryB (i := 2) rfl rfl T.h_NoText (by rfl) rfl rfl rfl sc_law_read.nd rfl rfl (takes_of rfl rfl rfl rfl)
      (fun W pn xe tk po => (ss_cons (s_asg (i := 3) sc_law_read.nd rfl (by first | exact Or.inl rfl | exact Or.inr rfl) (x_call rfl rfl K_read_card nog (hr.mono (by decide)) (by rfl) (fun σ => passAt tk σ) (xa_cons (x_frz (tv 0)) xa_nil) xk_nil))
      (ss_cons (s_asg (i := 1) sc_law_read.nd rfl (by first | exact Or.inl rfl | exact Or.inr rfl) (x_tup (xa_cons (x_frz (x_fldF T.kc rfl (tr 3))) (xa_cons (x_frz (x_fldF T.kc rfl (tr 3))) (xa_cons (x_frz (x_fldF T.kc rfl (tr 3))) (xa_cons (x_frz (x_fldF T.kc rfl (tr 3))) (xa_cons (x_frz (x_fldF T.kc rfl (tr 3))) xa_nil)))))))
      (ss_one (s_if (xt_cmp (k_ne rfl (hu64 hr)) d_ne (x_bor (x_strO rfl rfl K_str_Card nog (hr.mono (by decide)) (by rfl) T.b_str bt_str (x_frz (tv 3)))) (tr 0) (nomark _)) (ss_one (s_asg (i := 1) sc_law_read.nd rfl (by first | exact Or.inl rfl | exact Or.inr rfl) tc_non)) ss_nil)))))
      (fun a pn => (ss_one (s_asg (i := 1) sc_law_read.nd rfl (by first | exact Or.inl rfl | exact Or.inr rfl) (x_tup (xa_cons (x_frz tc_str) (xa_cons (x_frz (x_b1 (k_repr rfl (hga rfl) (have hq := hu64 hr; hq) SM) d_repr (by rfl) T.b_repr bt_repr (x_las (x_bor (x_xk rfl T.kx (x_frz (tv 2))))))) xa_nil)))))))
      (ss_one (s_ret (tm 1)))))
noncomputable def m_law : MF := fnM 9
    (sSeq (sFor (mRng1 (aCons (frz (xOp addD (xC (.int 1)) (xUn lenD (xSl (xBor 0) (ret none) (mPart (xC (.int 6))))))) aNil)) (gN 1)
    (sSeq (sAsgC 2 (xCall m_law_begin (fun ds _ => ds) 2 (nK []) (aCons (frz (xVar 0)) (aCons (frz (xVar 1)) aNil)) aNil))
    (sSeq (sAsg 3 (xCall m_law_card (fun ds _ => ds) 1 (nK []) (aCons (frz (xVar 2)) aNil) aNil))
    (sSeq (sAsg 4 (xCall m_law_card_text (fun ds _ => ds) 1 (nK []) (aCons (frz (xVar 3)) aNil) aNil))
    (sSeq (sIf (toB (xOp neD (xUn reprD (xCall m_law_read (fun ds _ => ds) 1 (nK []) (aCons (frz (xVar 4)) aNil) aNil)) (xUn reprD (xRd 3))))
    (sRet (xC (.bl false)))
    sNil)
    (sFor (mRng1 (aCons (frz (xC (.int 14))) aNil)) (gN 5)
    (sSeq (sAsg 6 (xCall m_law_bent (fun ds _ => ds) 2 (nK []) (aCons (frz (xVar 2)) (aCons (frz (xVar 4)) aNil)) aNil))
    (sSeq (sIf (toB (xOp eqD (xCall m_law_draw (fun ds _ => ds) 2 (nK []) (aCons (frz (xVar 2)) (aCons (frz (xC (.int 3))) aNil)) aNil) (xC (.int 0))))
    (sAsg 6 (xCall m_law_bent (fun ds _ => ds) 2 (nK []) (aCons (frz (xVar 2)) (aCons (frz (xVar 6)) aNil)) aNil))
    sNil)
    (sFor (mSeq (frz (xTup (aCons (frz (xVar 6)) (aCons (frz (xCall m_law_odd (fun ds _ => ds) 2 (nK []) (aCons (frz (xVar 2)) (aCons (frz (xVar 4)) aNil)) aNil)) aNil))))) (gN 7)
    (sSeq (sAsg 8 (xCall m_law_due (fun ds _ => ds) 1 (nK []) (aCons (frz (xVar 7)) aNil) aNil))
    (sIf (toB (xOp neD (xUn reprD (xCall m_law_read (fun ds _ => ds) 1 (nK []) (aCons (frz (xVar 7)) aNil) aNil)) (xUn reprD (xIf (toB (xOp isntD (xBor 8) (xC .non))) (xVar 8) (xTup (aCons (frz (xC (.str "none"))) (aCons (frz (xUn reprD (xRd 7))) aNil)))))))
    (sRet (xC (.bl false)))
    sNil)))))))))))
    (sRet (xC (.bl true))))
theorem fn_law (T : Tx G w) (F : Df G.K "law" "law" s_law f fd) (SM : Sm base)
    (K_law_begin : KnT P w G base false "_law_begin" 1 2 [] (fun ds _ => ds) m_law_begin)
    (K_law_card : KnT P w G base false "_law_card" 3 1 [] (fun ds _ => ds) m_law_card)
    (K_law_card_text : KnT P w G base false "_law_card_text" 2 1 [] (fun ds _ => ds) m_law_card_text)
    (K_law_read : KnT P w G base true "_law_read" 7 1 [] (fun ds _ => ds) m_law_read)
    (K_law_bent : KnT P w G base false "_law_bent" 2 2 [] (fun ds _ => ds) m_law_bent)
    (K_law_draw : KnT P w G base false "_law_draw" 1 2 [] (fun ds _ => ds) m_law_draw)
    (K_law_odd : KnT P w G base false "_law_odd" 2 2 [] (fun ds _ => ds) m_law_odd)
    (K_law_due : KnT P w G base false "_law_due" 3 1 [] (fun ds _ => ds) m_law_due) :
    FnT P w G base true 8 f fd ["_law_script"] m_law := by
  refine Df.okT (N := ["_law_script", "_law_k", "_law_pot", "_law_one", "_law_told", "_law_tour", "_law_bent_here", "_law_thing", "_law_due_here"]) F sc_law (fun cdv A outer s H E hga hr => ?_)
  exact (ss_cons (s_for (passes_of rfl) rfl (xi_range1 (by rfl) T.b_range (xa_cons (x_frz (x_op (op_addA rfl) d_add (x_bor tc_int) (x_las (x_bor (x_b1 (k_len rfl) d_len (by rfl) T.b_len bt_len (x_las (x_bor (x_sl rfl (tb 0) xp_none (xp_some tc_int))))))))) xa_nil)) (pg_name (i := 1) sc_law.nd rfl (by first | exact Or.inl rfl | exact Or.inr rfl)) tg_name
      (ss_cons (s_asgC (i := 2) sc_law.nd rfl (by first | exact Or.inl rfl | exact Or.inr rfl) (x_call rfl rfl K_law_begin nog (hr.mono (by decide)) (by rfl) (fun σ => passAt (takes_of rfl rfl rfl rfl) σ) (xa_cons (x_frz (tv 0)) (xa_cons (x_frz (tv 1)) xa_nil)) xk_nil))
      (ss_cons (s_asg (i := 3) sc_law.nd rfl (by first | exact Or.inl rfl | exact Or.inr rfl) (x_call rfl rfl K_law_card nog (hr.mono (by decide)) (by rfl) (fun σ => passAt (takes_of rfl rfl rfl rfl) σ) (xa_cons (x_frz (tv 2)) xa_nil) xk_nil))
      (ss_cons (s_asg (i := 4) sc_law.nd rfl (by first | exact Or.inl rfl | exact Or.inr rfl) (x_call rfl rfl K_law_card_text nog (hr.mono (by decide)) (by rfl) (fun σ => passAt (takes_of rfl rfl rfl rfl) σ) (xa_cons (x_frz (tv 3)) xa_nil) xk_nil))
      (ss_cons (s_if (xt_cmp (k_ne rfl (hu64 hr)) d_ne (x_bor (x_b1 (k_repr rfl (hga rfl) (hu64 hr) SM) d_repr (by rfl) T.b_repr bt_repr (x_las (x_bor (x_call rfl rfl K_law_read hga (hr.mono (by decide)) (by rfl) (fun σ => passAt (takes_of rfl rfl rfl rfl) σ) (xa_cons (x_frz (tv 4)) xa_nil) xk_nil))))) (x_las (x_bor (x_b1 (k_repr rfl (hga rfl) (hu64 hr) SM) d_repr (by rfl) T.b_repr bt_repr (tr 3)))) (nomark _)) (ss_one (s_ret tc_bl)) ss_nil)
      (ss_one (s_for (passes_of rfl) rfl (xi_range1 (by rfl) T.b_range (xa_cons (x_frz tc_int) xa_nil)) (pg_name (i := 5) sc_law.nd rfl (by first | exact Or.inl rfl | exact Or.inr rfl)) tg_name
      (ss_cons (s_asg (i := 6) sc_law.nd rfl (by first | exact Or.inl rfl | exact Or.inr rfl) (x_call rfl rfl K_law_bent nog (hr.mono (by decide)) (by rfl) (fun σ => passAt (takes_of rfl rfl rfl rfl) σ) (xa_cons (x_frz (tv 2)) (xa_cons (x_frz (tv 4)) xa_nil)) xk_nil))
      (ss_cons (s_if (xt_cmp (k_eq rfl (hu64 hr)) d_eq (x_bor (x_call rfl rfl K_law_draw nog (hr.mono (by decide)) (by rfl) (fun σ => passAt (takes_of rfl rfl rfl rfl) σ) (xa_cons (x_frz (tv 2)) (xa_cons (x_frz tc_int) xa_nil)) xk_nil)) (x_las (x_bor tc_int)) (nomark _)) (ss_one (s_asg (i := 6) sc_law.nd rfl (by first | exact Or.inl rfl | exact Or.inr rfl) (x_call rfl rfl K_law_bent nog (hr.mono (by decide)) (by rfl) (fun σ => passAt (takes_of rfl rfl rfl rfl) σ) (xa_cons (x_frz (tv 2)) (xa_cons (x_frz (tv 6)) xa_nil)) xk_nil))) ss_nil)
      (ss_one (s_for (passes_of rfl) rfl (xi_any rfl (x_frz (x_tup (xa_cons (x_frz (tv 6)) (xa_cons (x_frz (x_call rfl rfl K_law_odd nog (hr.mono (by decide)) (by rfl) (fun σ => passAt (takes_of rfl rfl rfl rfl) σ) (xa_cons (x_frz (tv 2)) (xa_cons (x_frz (tv 4)) xa_nil)) xk_nil)) xa_nil))))) (pg_name (i := 7) sc_law.nd rfl (by first | exact Or.inl rfl | exact Or.inr rfl)) tg_name
      (ss_cons (s_asg (i := 8) sc_law.nd rfl (by first | exact Or.inl rfl | exact Or.inr rfl) (x_call rfl rfl K_law_due nog (hr.mono (by decide)) (by rfl) (fun σ => passAt (takes_of rfl rfl rfl rfl) σ) (xa_cons (x_frz (tv 7)) xa_nil) xk_nil))
      (ss_one (s_if (xt_cmp (k_ne rfl (hu64 hr)) d_ne (x_bor (x_b1 (k_repr rfl (hga rfl) (hu64 hr) SM) d_repr (by rfl) T.b_repr bt_repr (x_las (x_bor (x_call rfl rfl K_law_read hga (hr.mono (by decide)) (by rfl) (fun σ => passAt (takes_of rfl rfl rfl rfl) σ) (xa_cons (x_frz (tv 7)) xa_nil) xk_nil))))) (x_las (x_bor (x_b1 (k_repr rfl (hga rfl) (hu64 hr) SM) d_repr (by rfl) T.b_repr bt_repr (x_las (x_bor (x_if (xt_cmp op_notNo d_isnt (tb 8) (x_las (x_bor tc_non)) (nomark _)) (tv 8) (x_tup (xa_cons (x_frz tc_str) (xa_cons (x_frz (x_b1 (k_repr rfl (hga rfl) (hu64 hr) SM) d_repr (by rfl) T.b_repr bt_repr (tr 7))) xa_nil))))))))) (nomark _)) (ss_one (s_ret tc_bl)) ss_nil))))))))))))))
      (ss_one (s_ret tc_bl)))
end
end F05
namespace F05
open PySem L2 L2.Pc L2.Tr
-- a step through the tree functions
local macro_rules | `(tactic| walk_at "stp") => `(tactic| simp only [st_ret, st_bnd, st_ofs, st_frz, st_fzd, st_var, st_bor, st_mov, st_rd, st_qv, st_c, st_op, st_un, st_tob, st_band, st_bor2, st_bnot, st_if, st_andV, st_orV, st_notV, st_anil, st_acons, st_onil, st_ocons, st_tup, st_lst, st_cn, st_m1, st_m0, st_opq, st_sl, st_chain, st_mseq, st_rg1, st_rg2, st_snil, st_seq, st_sexpr, st_sret, st_sif, st_asg, st_asgK, st_asgT, st_asgTK, st_asgC, st_asgCK, st_putL, st_putLK, st_putAt, st_getP, st_putP, st_app, st_appK, st_ext, st_extK, st_for, st_for0, st_for1, st_gN, st_gT, st_gs0, st_gs1, st_par, st_parK, st_par3, st_parK3, st_call, st_runF, st_fld, st_fldF, st_sfld, st_fldK, st_meth, st_sp, st_eqO, st_inO, st_js0, st_js1, st_jsK, st_lc, st_lcK, st_lcB, st_lc0, st_lc1, st_lcT, st_lcY, st_mpart, getS_0, setS_0, getS_1, setS_1, getS_2, setS_2, getS_3, setS_3, getS_4, setS_4, getS_5, setS_5, getS_6, setS_6, getS_7, setS_7, getS_8, setS_8, getS_9, setS_9, getS_10, setS_10, getS_11, setS_11, getS_12, setS_12, getS_13, setS_13, getS_14, setS_14, st_fnM, st_env0, st_seqn, st_seqr, st_seqb, st_seqc, st_forn, st_forc, st_forb, st_forr, st_parti, st_opqK, st_bok, st_bex, st_isf, st_isl, st_isi, st_tdf, st_tdl, st_tdi, st_tdn, st_tdc, st_asb, st_celf, st_cell, st_fzO, st_isS, st_sqt, st_squ, st_silst, st_silsk, st_situp, st_situk, st_addi, st_adds, st_addl, st_addt, st_subi, st_lti, st_lei, st_gti, st_gei, st_divi, st_modi, st_muli, st_negi, st_ixl, st_ixk, st_ixt, st_ixu, st_at0, st_at1, st_at2, st_at3, st_at4, st_ixn0, st_ixn1, st_ixn2, st_absi, st_inti, st_intb, st_lenl, st_lenk, st_lent, st_lenu, st_lens, st_ixs, st_stri, st_strs, st_is, st_isnt, st_nonn, st_noni, st_nons, st_zf2, st_eqi, st_eqs, st_nei, st_nes, st_nenn, st_neni, st_nein, st_fmts, st_mull, st_fr0, st_fr1, st_wp0, st_wp1, st_bk0, st_bk1, st_nok, st_rng1, st_joi, st_dtup, st_dlst, st_raise, st_raise1, st_raise2, st_raise3, st_try, st_tryok, st_tryex, st_tryt, st_tryf, st_suite, st_suiok, st_chk0, st_chk1, st_nxo, st_nxl, st_nxs, st_nxb, st_nxi, st_nxn, st_nxt, st_nxL, st_nxa0, st_nxa1, st_nxf, st_nxr, st_try1, st_try1ok, st_try1ex, st_try1t, st_try1f, st_xf, st_xfo, st_mzip, st_menum, st_mrev, st_zipl, st_zipt, st_pair0, st_pair1, st_enuml, st_num0, st_num1, st_revl, st_revt, st_fnI, st_nk0, st_nk1, st_nk2, st_nk3, st_nk4, st_nk5, st_nk6, st_nk7, st_nk8, List.map_cons, List.map_nil, List.cons_append, List.nil_append, List.length_cons, List.length_nil, List.replicate, Nat.reduceSub, Nat.reduceAdd, Nat.reduceLeDiff, List.set_cons_zero, List.set_cons_succ, Nat.zero_add, if_true, if_false, ite_true, ite_false, Option.map_some, Option.bind_some, Option.map_none, Option.bind_none, decide_true, decide_false, decide_eq_true_eq, decide_eq_false_iff_not, Bool.not_true, Bool.not_false, and_self, true_and, and_true, Bool.false_eq_true, Bool.and_self, Bool.and_true, Bool.true_and, *])
local macro_rules | `(tactic| walk_at "dch") => `(tactic| first | assumption | (simp only [Int.reduceLT, Int.reduceLE, Nat.reduceLT, Nat.reduceLeDiff, and_self]; done) | omega | (simp only [strLen_append, c_ltlen, List.length_append, List.length_map, List.length_cons, List.length_nil, Nat.reduceAdd, String.reduceLength, String.length] <;> omega) | decide)
local macro_rules | `(tactic| walk_at "stq") => `(tactic| simp (config := {maxSteps := 4000000}) (disch := walk_at "dch") only [st_ret, st_bnd, st_ofs, st_frz, st_fzd, st_var, st_bor, st_mov, st_rd, st_qv, st_c, st_op, st_un, st_tob, st_band, st_bor2, st_bnot, st_if, st_andV, st_orV, st_notV, st_anil, st_acons, st_onil, st_ocons, st_tup, st_lst, st_cn, st_m1, st_m0, st_opq, st_sl, st_chain, st_mseq, st_rg1, st_rg2, st_snil, st_seq, st_sexpr, st_sret, st_sif, st_asg, st_asgK, st_asgT, st_asgTK, st_asgC, st_asgCK, st_putL, st_putLK, st_putAt, st_getP, st_putP, st_app, st_appK, st_ext, st_extK, st_for, st_for0, st_for1, st_gN, st_gT, st_gs0, st_gs1, st_par, st_parK, st_par3, st_parK3, st_call, st_runF, st_fld, st_fldF, st_sfld, st_fldK, st_meth, st_sp, st_eqO, st_inO, st_js0, st_js1, st_jsK, st_lc, st_lcK, st_lcB, st_lc0, st_lc1, st_lcT, st_lcY, st_mpart, getS_0, setS_0, getS_1, setS_1, getS_2, setS_2, getS_3, setS_3, getS_4, setS_4, getS_5, setS_5, getS_6, setS_6, getS_7, setS_7, getS_8, setS_8, getS_9, setS_9, getS_10, setS_10, getS_11, setS_11, getS_12, setS_12, getS_13, setS_13, getS_14, setS_14, st_fnM, st_env0, st_seqn, st_seqr, st_seqb, st_seqc, st_forn, st_forc, st_forb, st_forr, st_parti, st_opqK, st_bok, st_bex, st_isf, st_isl, st_isi, st_tdf, st_tdl, st_tdi, st_tdn, st_tdc, st_asb, st_celf, st_cell, st_fzO, st_isS, st_sqt, st_squ, st_silst, st_silsk, st_situp, st_situk, st_addi, st_adds, st_addl, st_addt, st_subi, st_lti, st_lei, st_gti, st_gei, st_modi, st_muli, st_negi, st_ixl, st_ixk, st_ixt, st_ixu, st_at0, st_at1, st_at2, st_at3, st_at4, st_ixn0, st_ixn1, st_ixn2, st_absi, st_inti, st_intb, st_lenl, st_lenk, st_lent, st_lenu, st_lens, st_ixs, st_stri, st_strs, st_is, st_isnt, st_nonn, st_noni, st_nons, st_zf2, st_eqi, st_eqs, st_nei, st_nes, st_nenn, st_neni, st_nein, st_fmts, st_mull, st_fr0, st_fr1, st_wp0, st_wp1, st_bk0, st_bk1, st_nok, st_rng1, st_joi, st_dtup, st_dlst, st_raise, st_raise1, st_raise2, st_raise3, st_try, st_tryok, st_tryex, st_tryt, st_tryf, st_suite, st_suiok, st_chk0, st_chk1, st_nxo, st_nxl, st_nxs, st_nxb, st_nxi, st_nxn, st_nxt, st_nxL, st_nxa0, st_nxa1, st_nxf, st_nxr, st_try1, st_try1ok, st_try1ex, st_try1t, st_try1f, st_xf, st_xfo, st_mzip, st_menum, st_mrev, st_zipl, st_zipt, st_pair0, st_pair1, st_enuml, st_num0, st_num1, st_revl, st_revt, st_fnI, st_nk0, st_nk1, st_nk2, st_nk3, st_nk4, st_nk5, st_nk6, st_nk7, st_nk8, c_if, c_ifn, c_dt, c_df, c_fld, c_fldi, c_lk0, c_lk1, c_pu0, c_pu1, c_pu2, c_chK, c_chT, c_chF, c_div, c_str, c_rs1, c_rs2, c_rs3, c_rs4, c_rs5, c_rs6, c_rs7, c_rs8, c_runI, c_strO, c_al0, c_al1, c_g0, c_s0, c_at5, List.map_cons, List.map_nil, List.cons_append, List.nil_append, List.length_cons, List.length_nil, List.replicate, Nat.reduceSub, Nat.reduceAdd, Nat.reduceLeDiff, Nat.reduceLT, Int.reduceAdd, Int.reduceMul, Int.reduceSub, Int.reduceLT, Int.reduceLE, Int.reduceEq, List.set_cons_zero, List.set_cons_succ, Nat.zero_add, if_true, if_false, ite_true, ite_false, Option.map_some, Option.bind_some, Option.map_none, Option.bind_none, decide_true, decide_false, decide_eq_true_eq, decide_eq_false_iff_not, Bool.not_true, Bool.not_false, and_self, true_and, and_true, and_false, false_and, Bool.false_eq_true, reduceCtorEq, Bool.and_self, Bool.and_true, Bool.true_and, Bool.and_false, Bool.false_and, Bool.not_eq_true, Bool.true_eq_false, *])
local macro_rules | `(tactic| walk_at "sqn") => `(tactic| simp (config := {maxSteps := 4000000}) (disch := walk_at "dch") only [st_ret, st_bnd, st_ofs, st_frz, st_fzd, st_var, st_bor, st_mov, st_rd, st_qv, st_c, st_op, st_un, st_tob, st_band, st_bor2, st_bnot, st_if, st_andV, st_orV, st_notV, st_anil, st_acons, st_onil, st_ocons, st_tup, st_lst, st_cn, st_m1, st_m0, st_opq, st_sl, st_chain, st_mseq, st_rg1, st_rg2, st_snil, st_seq, st_sexpr, st_sret, st_sif, st_asg, st_asgK, st_asgT, st_asgTK, st_asgC, st_asgCK, st_putL, st_putLK, st_putAt, st_getP, st_putP, st_app, st_appK, st_ext, st_extK, st_for, st_gN, st_gT, st_gs0, st_gs1, st_par, st_parK, st_par3, st_parK3, st_call, st_runF, st_fld, st_fldF, st_sfld, st_fldK, st_meth, st_sp, st_eqO, st_inO, st_js0, st_js1, st_jsK, st_lc, st_lcK, st_lcB, st_lcT, st_lcY, st_mpart, getS_0, setS_0, getS_1, setS_1, getS_2, setS_2, getS_3, setS_3, getS_4, setS_4, getS_5, setS_5, getS_6, setS_6, getS_7, setS_7, getS_8, setS_8, getS_9, setS_9, getS_10, setS_10, getS_11, setS_11, getS_12, setS_12, getS_13, setS_13, getS_14, setS_14, st_fnM, st_env0, st_seqn, st_seqr, st_seqb, st_seqc, st_forn, st_forc, st_forb, st_forr, st_parti, st_opqK, st_bok, st_bex, st_isf, st_isl, st_isi, st_tdf, st_tdl, st_tdi, st_tdn, st_tdc, st_asb, st_celf, st_cell, st_fzO, st_isS, st_sqt, st_squ, st_silst, st_silsk, st_situp, st_situk, st_addi, st_adds, st_addl, st_addt, st_subi, st_lti, st_lei, st_gti, st_gei, st_modi, st_muli, st_negi, st_ixl, st_ixk, st_ixt, st_ixu, st_at0, st_at1, st_at2, st_at3, st_at4, st_ixn0, st_ixn1, st_ixn2, st_absi, st_inti, st_intb, st_lenl, st_lenk, st_lent, st_lenu, st_lens, st_ixs, st_stri, st_strs, st_is, st_isnt, st_nonn, st_noni, st_nons, st_zf2, st_eqi, st_eqs, st_nei, st_nes, st_nenn, st_neni, st_nein, st_fmts, st_mull, st_fr0, st_fr1, st_wp0, st_wp1, st_bk0, st_bk1, st_nok, st_rng1, st_joi, st_dtup, st_dlst, st_raise, st_raise1, st_raise2, st_raise3, st_try, st_tryok, st_tryex, st_tryt, st_tryf, st_suite, st_suiok, st_chk0, st_chk1, st_nxo, st_nxl, st_nxs, st_nxb, st_nxi, st_nxn, st_nxt, st_nxL, st_nxa0, st_nxa1, st_nxf, st_nxr, st_try1, st_try1ok, st_try1ex, st_try1t, st_try1f, st_xf, st_xfo, st_mzip, st_menum, st_mrev, st_zipl, st_zipt, st_pair0, st_pair1, st_enuml, st_num0, st_num1, st_revl, st_revt, st_fnI, st_nk0, st_nk1, st_nk2, st_nk3, st_nk4, st_nk5, st_nk6, st_nk7, st_nk8, c_if, c_ifn, c_dt, c_df, c_fld, c_fldi, c_lk0, c_lk1, c_pu0, c_pu1, c_pu2, c_chK, c_chT, c_chF, c_div, c_str, c_rs1, c_rs2, c_rs3, c_rs4, c_rs5, c_rs6, c_rs7, c_rs8, c_runI, c_strO, c_al0, c_al1, c_g0, c_s0, c_at5, List.map_cons, List.map_nil, List.cons_append, List.nil_append, List.length_cons, List.length_nil, List.replicate, Nat.reduceSub, Nat.reduceAdd, Nat.reduceLeDiff, Nat.reduceLT, Int.reduceAdd, Int.reduceMul, Int.reduceSub, Int.reduceLT, Int.reduceLE, Int.reduceEq, List.set_cons_zero, List.set_cons_succ, Nat.zero_add, if_true, if_false, ite_true, ite_false, Option.map_some, Option.bind_some, Option.map_none, Option.bind_none, decide_true, decide_false, decide_eq_true_eq, decide_eq_false_iff_not, Bool.not_true, Bool.not_false, and_self, true_and, and_true, and_false, false_and, Bool.false_eq_true, reduceCtorEq, Bool.and_self, Bool.and_true, Bool.true_and, Bool.and_false, Bool.false_and, Bool.not_eq_true, Bool.true_eq_false, *])
local macro_rules | `(tactic| walk_at "spn") => `(tactic| simp (config := {maxSteps := 4000000}) (disch := first | assumption | (simp only [Int.reduceLT, Int.reduceLE, Nat.reduceLT, Nat.reduceLeDiff, and_self]; done) | decide) only [st_ret, st_bnd, st_ofs, st_frz, st_fzd, st_var, st_bor, st_mov, st_rd, st_qv, st_c, st_op, st_un, st_tob, st_band, st_bor2, st_bnot, st_if, st_andV, st_orV, st_notV, st_anil, st_acons, st_onil, st_ocons, st_tup, st_lst, st_cn, st_m1, st_m0, st_opq, st_sl, st_chain, st_mseq, st_rg1, st_rg2, st_snil, st_seq, st_sexpr, st_sret, st_sif, st_asg, st_asgK, st_asgT, st_asgTK, st_asgC, st_asgCK, st_putL, st_putLK, st_putAt, st_getP, st_putP, st_app, st_appK, st_ext, st_extK, st_for, st_gN, st_gT, st_gs0, st_gs1, st_par, st_parK, st_par3, st_parK3, st_call, st_runF, st_fld, st_fldF, st_sfld, st_fldK, st_meth, st_sp, st_eqO, st_inO, st_js0, st_js1, st_jsK, st_lc, st_lcK, st_lcB, st_lcT, st_lcY, st_mpart, getS_0, setS_0, getS_1, setS_1, getS_2, setS_2, getS_3, setS_3, getS_4, setS_4, getS_5, setS_5, getS_6, setS_6, getS_7, setS_7, getS_8, setS_8, getS_9, setS_9, getS_10, setS_10, getS_11, setS_11, getS_12, setS_12, getS_13, setS_13, getS_14, setS_14, st_fnM, st_env0, st_seqn, st_seqr, st_seqb, st_seqc, st_forn, st_forc, st_forb, st_forr, st_parti, st_opqK, st_bok, st_bex, st_isf, st_isl, st_isi, st_tdf, st_tdl, st_tdi, st_tdn, st_tdc, st_asb, st_celf, st_cell, st_fzO, st_isS, st_sqt, st_squ, st_silst, st_silsk, st_situp, st_situk, st_addi, st_adds, st_addl, st_addt, st_subi, st_lti, st_lei, st_gti, st_gei, st_modi, st_muli, st_negi, st_ixl, st_ixk, st_ixt, st_ixu, st_at0, st_at1, st_at2, st_at3, st_at4, st_ixn0, st_ixn1, st_ixn2, st_absi, st_inti, st_intb, st_lenl, st_lenk, st_lent, st_lenu, st_lens, st_ixs, st_stri, st_strs, st_is, st_isnt, st_nonn, st_noni, st_nons, st_zf2, st_eqi, st_eqs, st_nei, st_nes, st_nenn, st_neni, st_nein, st_fmts, st_mull, st_fr0, st_fr1, st_wp0, st_wp1, st_bk0, st_bk1, st_nok, st_rng1, st_joi, st_dtup, st_dlst, st_raise, st_raise1, st_raise2, st_raise3, st_try, st_tryok, st_tryex, st_tryt, st_tryf, st_suite, st_suiok, st_chk0, st_chk1, st_nxo, st_nxl, st_nxs, st_nxb, st_nxi, st_nxn, st_nxt, st_nxL, st_nxa0, st_nxa1, st_nxf, st_nxr, st_try1, st_try1ok, st_try1ex, st_try1t, st_try1f, st_xf, st_xfo, st_mzip, st_menum, st_mrev, st_zipl, st_zipt, st_pair0, st_pair1, st_enuml, st_num0, st_num1, st_revl, st_revt, st_fnI, st_nk0, st_nk1, st_nk2, st_nk3, st_nk4, st_nk5, st_nk6, st_nk7, st_nk8, c_fld, c_fldi, c_lk0, c_lk1, c_pu0, c_pu1, c_pu2, c_chK, c_chT, c_chF, c_div, c_str, c_rs1, c_rs2, c_rs3, c_rs4, c_rs5, c_rs6, c_rs7, c_rs8, c_runI, c_strO, c_al0, c_al1, c_g0, c_s0, c_at5, List.map_cons, List.map_nil, List.cons_append, List.nil_append, List.length_cons, List.length_nil, List.replicate, Nat.reduceSub, Nat.reduceAdd, Nat.reduceLeDiff, Nat.reduceLT, Int.reduceAdd, Int.reduceMul, Int.reduceSub, Int.reduceLT, Int.reduceLE, Int.reduceEq, List.set_cons_zero, List.set_cons_succ, Nat.zero_add, if_true, if_false, ite_true, ite_false, Option.map_some, Option.bind_some, Option.map_none, Option.bind_none, decide_true, decide_false, decide_eq_true_eq, decide_eq_false_iff_not, Bool.not_true, Bool.not_false, and_self, true_and, and_true, and_false, false_and, Bool.false_eq_true, reduceCtorEq, Bool.and_self, Bool.and_true, Bool.true_and, Bool.and_false, Bool.false_and, Bool.not_eq_true, Bool.true_eq_false, *])
-- readings by what is asked behind
local macro_rules | `(tactic| walk_at "vs") => `(tactic| ((with_reducible refine w_id ?_); conv => arg 1; simp (config := {maxSteps := 4000000, implicitDefEqProofs := false}) (disch := first | with_reducible assumption | (simp only [Int.reduceLT, Int.reduceLE, Nat.reduceLT, Nat.reduceLeDiff, and_self]; done) | decide | (simp only [List.map_cons, List.map_nil]; decide) | with_reducible omega | (simp only [List.length_map, List.length_append, List.length_cons, List.length_nil, List.length_reverse]; with_reducible omega)) only [st_ret, st_bnd, st_ofs, st_frz, st_fzd, st_var, st_bor, st_mov, st_rd, st_qv, st_c, st_op, st_un, st_tob, st_band, st_bor2, st_bnot, st_if, st_andV, st_orV, st_notV, st_anil, st_acons, st_onil, st_ocons, st_tup, st_lst, st_cn, st_m1, st_m0, st_opq, st_sl, st_chain, st_mseq, st_rg1, st_rg2, st_snil, st_seq, st_sexpr, st_sret, st_sif, st_asg, st_asgK, st_asgT, st_asgTK, st_asgC, st_asgCK, st_putL, st_putLK, st_putAt, st_getP, st_putP, st_app, st_appK, st_ext, st_extK, st_for, st_gN, st_gT, st_gs0, st_gs1, st_par, st_parK, st_par3, st_parK3, st_call, st_fld, st_fldF, st_sfld, st_fldK, st_meth, st_sp, st_eqO, st_inO, st_js0, st_js1, st_jsK, st_lc, st_lcK, st_lcB, st_lcT, st_lcY, st_mpart, getS_0, setS_0, getS_1, setS_1, getS_2, setS_2, getS_3, setS_3, getS_4, setS_4, getS_5, setS_5, getS_6, setS_6, getS_7, setS_7, getS_8, setS_8, getS_9, setS_9, getS_10, setS_10, getS_11, setS_11, getS_12, setS_12, getS_13, setS_13, getS_14, setS_14, st_fnM, st_env0, st_seqn, st_seqr, st_seqb, st_seqc, st_forn, st_forc, st_forb, st_forr, st_parti, st_opqK, st_bok, st_bex, st_isf, st_isl, st_isi, st_tdf, st_tdl, st_tdi, st_tdn, st_tdc, st_asb, st_celf, st_cell, st_fzO, st_isS, st_sqt, st_squ, st_silst, st_silsk, st_situp, st_situk, st_addi, st_adds, st_addl, st_addt, st_subi, st_lti, st_lei, st_gti, st_gei, st_modi, st_muli, st_negi, st_ixn0, st_ixn1, st_ixn2, st_absi, st_inti, st_intb, st_lenl, st_lenk, st_lent, st_lenu, st_lens, st_ixs, st_stri, st_strs, st_is, st_isnt, st_nonn, st_noni, st_nons, st_zf2, st_eqi, st_eqs, st_nei, st_nes, st_nenn, st_neni, st_nein, st_fmts, st_mull, st_fr0, st_fr1, st_wp0, st_wp1, st_bk0, st_bk1, st_nok, st_rng1, st_joi, st_dtup, st_dlst, st_raise, st_raise1, st_raise2, st_raise3, st_try, st_tryok, st_tryex, st_tryt, st_tryf, st_suite, st_suiok, st_chk0, st_chk1, st_nxo, st_nxl, st_nxs, st_nxb, st_nxi, st_nxn, st_nxt, st_nxL, st_nxa0, st_nxa1, st_nxf, st_nxr, st_try1, st_try1ok, st_try1ex, st_try1t, st_try1f, st_xf, st_xfo, st_mzip, st_menum, st_mrev, st_zipl, st_zipt, st_pair0, st_pair1, st_enuml, st_num0, st_num1, st_revl, st_revt, st_fnI, st_nk0, st_nk1, st_nk2, st_nk3, st_nk4, st_nk5, st_nk6, st_nk7, st_nk8, c_fld, c_fldi, c_lk0, c_lk1, c_pu0, c_pu1, c_pu2, c_chK, c_chT, c_chF, c_div, c_str, c_rs1, c_rs2, c_rs3, c_rs4, c_rs5, c_rs6, c_rs7, c_rs8, c_runI, c_strO, c_al0, c_al1, c_g0, c_s0, List.map_cons, List.map_nil, List.cons_append, List.nil_append, List.length_cons, List.length_nil, List.replicate, Nat.reduceSub, Nat.reduceAdd, Nat.reduceLeDiff, Nat.reduceLT, Int.reduceAdd, Int.reduceMul, Int.reduceSub, Int.reduceLT, Int.reduceLE, Int.reduceEq, List.set_cons_zero, List.set_cons_succ, Nat.zero_add, if_true, if_false, ite_true, ite_false, Option.map_some, Option.bind_some, Option.map_none, Option.bind_none, decide_true, decide_false, decide_eq_true_eq, decide_eq_false_iff_not, Bool.not_true, Bool.not_false, and_self, true_and, and_true, and_false, false_and, Bool.false_eq_true, reduceCtorEq, Bool.and_self, Bool.and_true, Bool.true_and, Bool.and_false, Bool.false_and, Bool.not_eq_true, Bool.true_eq_false, getS_15, getS_16, getS_17, getS_18, getS_19, getS_20, getS_21, getS_22, getS_23, getS_24, getS_25, getS_26, getS_27, getS_28, getS_29, getS_30, setS_15, setS_16, setS_17, setS_18, setS_19, setS_20, setS_21, setS_22, setS_23, setS_24, setS_25, setS_26, setS_27, setS_28, setS_29, setS_30, c_if, c_ifn, c_dt, c_df, c_meth, v_chB, sk_sn, sk_rvl, sk_rvt, sk_isit, sk_reprT, sk_x0, sk_x1, sk_x2, sk_x3, sk_x4, sk_t0, sk_t1, sk_t2, sk_t3, sk_t4, sk_t5, sk_inK, sk_inT, sk_inKi, sk_inKs, sk_inT2, sk_dctK, sk_dctS, sk_ixK, sk_ixT, sk_ixKi, sk_ixKs, sk_ixT2, sk_putK, sk_putT, sk_putKK, sk_putTK, sk_putKi, sk_putKs, sk_putT2, sk_lsK, sk_getT, sk_getT2, sk_oneK, sk_kyi, sk_kys, sk_isd, sk_isu, sk_tod, sk_tou, sk_menum, sk_rg3, sk_ennl, sk_ennt, sk_rev, sk_tupl, sk_tupt, sk_lstl, sk_lstt, sk_bne0, sk_bne1, v_app, v_ok, v_fz, v_int, v_bl, v_str, v_ba, v_bo, Bool.and_eq_true, Bool.or_eq_true, Bool.not_eq_true', Bool.not_not, Bool.decide_and, Bool.decide_or, Bool.decide_eq_true, Bool.decide_eq_false, sk_srtK, sk_popK, sk_popKi, sk_popKs, sk_rem, sk_remi, sk_lstRg, sk_lstRgi, sk_augT, sk_augT2, sk_augTz, sk_dr, sk_opD, sk_opDk, sk_der, sk_forC, sk_mCel, sk_mCelk, sk_mEnC, sk_mEnCk, sk_lcC, sk_lcCK, sk_cel, sk_celn, sk_celr, sk_col, sk_cod, sk_cou, sk_coi, sk_pop, sk_popi, sk_nilD, sk_nil, sk_gap, sk_sap, sk_gap2, sk_sap2, sk_nnt, sk_nnl, sk_nni, sk_nnb, sk_dispK, sk_booli, sk_sdApp, sk_sdK2, sk_sd2, sk_sdK, sk_isv, sk_tdv, sk_reprX, sk_orL, sk_orLo, sk_orLf, sk_inTs, sk_ixTs, sk_putTs, sk_getTs, sk_sdT, sk_sdTs, sk_lcTk, sk_dispG, sk_dispGs, sk_dictL, sk_daApp, sk_daKs, sk_da3, sk_sdKy, sk_sdKys, sk_isw, sk_tdw, sk_remS, sk_remSs, sk_srtKS, sk_xXk, sk_augI, sk_augKa, sk_augKb, sk_xTix, sk_isitn, sk_nntn, sk_istn, sk_lentn, sk_sitn, sk_tunl, sk_fz, sk_fzK]))
local macro_rules | `(tactic| walk_at "vp") => `(tactic| repeat (first | with_reducible refine w_bd ?_ | with_reducible refine w_nox ?_))
local macro_rules | `(tactic| walk_at "vk") => `(tactic| first | with_reducible refine w_ok ?_ | with_reducible refine w_exc ?_ | with_reducible refine rtQ_rt ?_ | with_reducible refine rtQ_nx ?_ | with_reducible refine fQ_nx ?_ | with_reducible refine fQ_rt ?_ | with_reducible refine fQ_ct ?_ | with_reducible refine fQ_bk ?_)
local macro_rules | `(tactic| walk_at "vc") => `(tactic| ((try walk_at "vs"); (walk_at "vp"); repeat ((walk_at "vk"); (try walk_at "vs"); (walk_at "vp"))))
def PotAt (mu : List O) (k n : Nat) : Prop := ∃ a b c : Int, getM mu k = some (.lst [.int a, .int b, .int c]) ∧ 0 ≤ a ∧ 0 ≤ b ∧ b < 2305843009213693952 ∧ 0 ≤ c ∧ c ≤ n
theorem getM_setM {mu : List O} {k : Nat} {o o' : O} (h : getM mu k = some o) : getM (setM mu k o') k = some o' := by
  induction mu generalizing k with
  | nil => cases k <;> cases h
  | cons x mu ih => cases k with
    | zero => rfl
    | succ k => exact ih h
theorem draw_ok {mu : List O} {k n : Nat} {m : Int} (h : PotAt mu k n) (h1 : 1 ≤ m) (h2 : m < 1073741824) (hn : n ≤ 1000000000) :
    ∃ r mu', m_law_draw [.cel k, .int m] mu = .ok (.fz (.int r)) ⟨[], mu'⟩ ∧ 0 ≤ r ∧ r < m ∧ PotAt mu' k (n + 1) := by
  obtain ⟨a, b, c, e, a0, b0, b1, c0, c1⟩ := h
  have hm : 0 < m := by omega
  unfold m_law_draw
  by_cases ha : 0 < a
  · walk_at "stp"
    exact ⟨_, _, rfl, Int.emod_nonneg _ (by omega), Int.emod_lt_of_pos _ hm, a / m, b, c, getM_setM e, Int.ediv_nonneg a0 (by omega), b0, b1, c0, by omega⟩
  · have q := fun o' => getM_setM (o' := o') e
    have p1 : (0 : Int) < 2305843009213693921 := by decide
    have p2 : (0 : Int) < 2305843009213693907 := by decide
    have p3 : (0 : Int) < 1000003 := by decide
    have p4 : (0 : Int) < 8191 ∧ (8191 : Int) < 1073741824 := by decide
    have ha' : decide (0 < a) = false := by simpa using ha
    have s0 : 0 ≤ (c + 1) * (c + 1) := Int.mul_nonneg (by omega) (by omega)
    have s1 : (c + 1) * (c + 1) ≤ 1000000001 * 1000000001 := Int.mul_le_mul (by omega) (by omega) (by omega) (by decide)
    have m1 : mulOkB 40503 (c + 1) = true := mulL (by decide) (by decide)
    have m2 : mulOkB (c + 1) (c + 1) = true := mulL (by omega) (by omega)
    have m3 : mulOkB ((c + 1) * (c + 1)) 65539 = true := mulR (by decide) (by decide)
    have m4 : mulOkB (b + 40503 * (c + 1)) ((c + 1) * (c + 1) * 65539 + 97) = true := mulL (by omega) (by omega)
    generalize hx : (b + 40503 * (c + 1)) * ((c + 1) * (c + 1) * 65539 + 97) % 2305843009213693921 = x at *
    have x0 : 0 ≤ x := by rw [← hx]; exact Int.emod_nonneg _ (by decide)
    have x1 : x < 2305843009213693921 := by rw [← hx]; exact Int.emod_lt_of_pos _ (by decide)
    have m5 : mulOkB x (x % 1000003 + (c + 1)) = true := mulL (by omega) (by omega)
    walk_at "stp"
    exact ⟨_, _, rfl, Int.emod_nonneg _ (by omega), Int.emod_lt_of_pos _ hm, a, b, c + 1, getM_setM e, a0, b0, b1, by omega, by omega⟩
theorem PotAt.mono {mu : List O} {k n m : Nat} (h : PotAt mu k n) (e : n ≤ m) : PotAt mu k m := by
  obtain ⟨a, b, c, q1, q2, q3, q4, q5, q6⟩ := h
  exact ⟨a, b, c, q1, q2, q3, q4, q5, by omega⟩
theorem getM_app : ∀ (mu : List O) (o : O), getM (mu ++ [o]) mu.length = some o
  | [], o => rfl
  | x :: mu, o => getM_app mu o
theorem ints_cut {ns : List Int} {lo hi : Option Int} : ∀ d ∈ cutD (ns.map D.int) lo hi, ∃ i, d = .int i := fun d h => by
  obtain ⟨i, _, e⟩ := List.mem_map.mp (cutD_mem d h)
  exact ⟨i, e.symm⟩
theorem begin_loop {x0 x1 x3 : Option O} {mu : List O} (ds : List D) (hd : ∀ d ∈ ds, ∃ i, d = .int i) : ∀ (x2 : Option O) (b : Int), 0 ≤ b → b < 2305843009213693952 →
    ∃ x2' b', forL (gN 2) (sAsg 4 (xOp modD (xOp addD (xOp addD (xOp mulD (xBor 4) (xC (.int 636413622399))) (xOp mulD (xC (.int 2)) (xUn absD (xRd 2)))) (xUn intD (xOp ltD (xBor 2) (xC (.int 0))))) (xC (.int 2305843009213693951)))) ds
      ⟨[x0, x1, x2, x3, some (.fz (.int b))], mu⟩ = .ok .nx ⟨[x0, x1, x2', x3, some (.fz (.int b'))], mu⟩ ∧ 0 ≤ b' ∧ b' < 2305843009213693952 := by
  induction ds with
  | nil => exact fun x2 b h0 h1 => ⟨x2, b, rfl, h0, h1⟩
  | cons d ds ih =>
    intro x2 b h0 h1
    obtain ⟨i, rfl⟩ := hd d List.mem_cons_self
    have m1 : mulOkB b 636413622399 = true := mulR (by decide) (by decide)
    have m2 : mulOkB 2 (if i < 0 then -i else i) = true := mulL (by decide) (by decide)
    have p1 : (0 : Int) < 2305843009213693951 := by decide
    generalize hv : (b * 636413622399 + 2 * (if i < 0 then -i else i) + if i < 0 then 1 else 0) % 2305843009213693951 = v
    have v0 : 0 ≤ v := by rw [← hv]; exact Int.emod_nonneg _ (by decide)
    have v1 : v < 2305843009213693951 := by rw [← hv]; exact Int.emod_lt_of_pos _ (by decide)
    obtain ⟨x2', b', h2, h3, h4⟩ := ih (fun d h => hd d (List.mem_cons_of_mem _ h)) (some (.fz (.int i))) v v0 (by omega)
    refine ⟨x2', b', ?_, h3, h4⟩
    rw [st_for1, st_gN]
    simp only [setS_2]
    rw [st_asg]
    have e : xOp modD (xOp addD (xOp addD (xOp mulD (xBor 4) (xC (.int 636413622399))) (xOp mulD (xC (.int 2)) (xUn absD (xRd 2)))) (xUn intD (xOp ltD (xBor 2) (xC (.int 0))))) (xC (.int 2305843009213693951))
      ⟨[x0, x1, some (.fz (.int i)), x3, some (.fz (.int b))], mu⟩ = .ok (.fz (.int v)) ⟨[x0, x1, some (.fz (.int i)), x3, some (.fz (.int b))], mu⟩ := by
      rw [← hv]
      clear hv h2 ih hd
      have q : ∀ c : Bool, intD (.bl c) = some (.fz (.int (if c = true then 1 else 0))) := fun c => rfl
      walk_at "spn"
    rw [e, st_bok, st_asgK]
    simp only [setS_4]
    rw [st_bok, st_forn, h2]
theorem begin_ok {ns : List Int} {mu : List O} {j : Nat} (hn : ns.length ≤ 63) (hj : j < 1000) :
    ∃ a b : Int, m_law_begin [.lsk (ns.map .int), .int j] mu = .ok (.lst [.int a, .int b, .int 0]) ⟨[], mu⟩ ∧ 0 ≤ a ∧ 0 ≤ b ∧ b < 2305843009213693952 := by
  have hc : ∃ c : Int, (if decide ((j : Int) < ((ns.map D.int).length : Int)) = true then ixD (.lsk (ns.map D.int)) (.int j) else some (.fz (.int 0))) = some (.fz (.int c)) := by
    by_cases h : j < ns.length
    · refine ⟨ns[j], ?_⟩
      rw [if_pos (by rw [List.length_map]; simpa using h), st_ixk, atN, List.getElem?_map, List.getElem?_eq_getElem h]
      rfl
    · exact ⟨0, by rw [if_neg (by rw [List.length_map]; simp; omega)]⟩
  obtain ⟨c, hc⟩ := hc
  have m1 : mulOkB 104729 j = true := mulL (by decide) (by decide)
  have hcl := cutD_len (ds := ns.map D.int) (lo := none) (hi := some 60)
  rw [List.length_map] at hcl
  obtain ⟨x2', b', hl, b0, b1⟩ := begin_loop (x0 := some (.fz (.lsk (ns.map D.int)))) (x1 := some (.fz (.int j))) (x3 := some (.fz (.int c))) (mu := mu) (.int c :: cutD (ns.map D.int) none (some 60))
    (fun d h => by
      rcases List.mem_cons.mp h with rfl | h
      · exact ⟨_, rfl⟩
      · exact ints_cut d h) none (104729 * j + 17) (by omega) (by omega)
  generalize hA : (if c < 0 then -c else c) = A
  have A0 : 0 ≤ A := by rw [← hA]; split <;> omega
  have al : addD (.lst [.int c]) (.lst (cutD (ns.map D.int) none (some 60))) = some (.lst (.int c :: cutD (ns.map D.int) none (some 60))) := by
    rw [st_addl, if_pos (by simp only [List.length_cons, List.length_nil]; omega)]
    rfl
  have sl : slD (.lsk (ns.map D.int)) none (some 60) = some (.lst (cutD (ns.map D.int) none (some 60))) := rfl
  have pw : powD (.int 10) (.int 18) = some (.fz (.int 1000000000000000000)) := by simp [powD, iiD]
  have d1 : (1 : Nat) ≤ 16777216 := by decide
  have d3 : (3 : Nat) ≤ 16777216 := by decide
  have ll : lenD (.lsk (ns.map D.int)) = some (.fz (.int ((ns.map D.int).length : Int))) := rfl
  have ab : absD (.int c) = some (.fz (.int A)) := by rw [← hA]; rfl
  refine ⟨if 1000000000000000000 ≤ A then A else 0, b', ?_, by split <;> omega, b0, b1⟩
  clear hA
  have s1 : sPar 3 4 (oCons (xIf (toB (xOp ltD (xBor 1) (xUn lenD (xRd 0)))) (xOpQ ixD (xRd 0) (qVar 1)) (xC (.int 0))) (oCons (xOp addD (xOp mulD (xC (.int 104729)) (xRd 1)) (xC (.int 17))) oNil))
      ⟨[some (.fz (.lsk (ns.map D.int))), some (.fz (.int j)), none, none, none], mu⟩ = .ok .nx ⟨[some (.fz (.lsk (ns.map D.int))), some (.fz (.int j)), none, some (.fz (.int c)), some (.fz (.int (104729 * j + 17)))], mu⟩ := by
    clear hl
    generalize ns.map D.int = L at *
    by_cases hj2 : (j : Int) < (L.length : Int)
    · have hj3 := decide_eq_true hj2
      rw [if_pos hj3] at hc
      clear hj2
      walk_at "stp"
    · have hj3 := decide_eq_false hj2
      rw [if_neg (by simpa using hj2)] at hc
      cases hc
      clear hj2
      walk_at "stp"
  have s2 : (mSeq (frz (xOp addD (xLst (aCons (frz (xVar 3)) aNil)) (xSl (xBor 0) (ret none) (mPart (xC (.int 60))))))) ⟨[some (.fz (.lsk (ns.map D.int))), some (.fz (.int j)), none, some (.fz (.int c)), some (.fz (.int (104729 * j + 17)))], mu⟩ =
      .ok (.int c :: cutD (ns.map D.int) none (some 60)) ⟨[some (.fz (.lsk (ns.map D.int))), some (.fz (.int j)), none, some (.fz (.int c)), some (.fz (.int (104729 * j + 17)))], mu⟩ := by
    clear hl s1
    generalize ns.map D.int = L at *
    walk_at "stp"
  have s3 : sRet (xLst (aCons (frz (xIf (toB (xOp geD (xUn absD (xRd 3)) (xOp powD (xC (.int 10)) (xC (.int 18))))) (xUn absD (xRd 3)) (xC (.int 0)))) (aCons (frz (xVar 4)) (aCons (frz (xC (.int 0))) aNil)))) ⟨[some (.fz (.lsk (ns.map D.int))), some (.fz (.int j)), x2', some (.fz (.int c)), some (.fz (.int b'))], mu⟩ =
      .ok (.rt (.lst [.int (if 1000000000000000000 ≤ A then A else 0), .int b', .int 0])) ⟨[some (.fz (.lsk (ns.map D.int))), some (.fz (.int j)), x2', some (.fz (.int c)), some (.fz (.int b'))], mu⟩ := by
    clear hl s1 s2
    generalize (1000000000000000000 : Int) = T at *
    by_cases hA2 : T ≤ A
    · have hA3 := decide_eq_true hA2
      simp only [if_pos hA2]
      clear hA2
      walk_at "stp"
    · have hA3 := decide_eq_false hA2
      simp only [if_neg hA2]
      clear hA2
      walk_at "stp"
  unfold m_law_begin
  rw [st_fnM]
  have e0 : env0 5 [D.lsk (ns.map D.int), D.int ↑j] = [some (.fz (.lsk (ns.map D.int))), some (.fz (.int j)), none, none, none] := rfl
  rw [e0, st_seq, s1, st_bok, st_seqn, st_seq, st_for, s2, st_bok, hl, st_bok, st_seqn, s3]
theorem moment_ok {mu : List O} {k n : Nat} (h : PotAt mu k n) (hn : n ≤ 900000000) :
    ∃ t mu', m_law_moment [.cel k] mu = .ok (.fz (.int t)) ⟨[], mu'⟩ ∧ 0 ≤ t ∧ t < 9600 ∧ PotAt mu' k (n + 5) := by
  obtain ⟨r1, mu1, e1, a1, b1, p1⟩ := draw_ok (m := 400) h (by decide) (by decide) (by omega)
  obtain ⟨r2, mu2, e2, a2, b2, p2⟩ := draw_ok (m := 400) p1 (by decide) (by decide) (by omega)
  obtain ⟨r3, mu3, e3, a3, b3, p3⟩ := draw_ok (m := 9600) p2 (by decide) (by decide) (by omega)
  obtain ⟨r4, mu4, e4, a4, b4, p4⟩ := draw_ok (m := 50) p3 (by decide) (by decide) (by omega)
  obtain ⟨r, mu5, e5, a5, b5, p5⟩ := draw_ok (m := 6) p4 (by decide) (by decide) (by omega)
  have m1 : mulOkB 24 r1 = true := mulL (by decide) (by decide)
  have m2 : mulOkB 24 r2 = true := mulL (by decide) (by decide)
  have at5 : ∀ {α : Type} {x y z w v u : α}, atI [x, y, z, w, v, u] 5 = some u := by intros; show atI _ ((5 : Nat) : Int) = _; rw [atN]; rfl
  have hr : r = 0 ∨ r = 1 ∨ r = 2 ∨ r = 3 ∨ r = 4 ∨ r = 5 := by omega
  unfold m_law_moment
  rcases hr with rfl | rfl | rfl | rfl | rfl | rfl <;> walk_at "stp" <;> exact ⟨_, _, rfl, by omega, by omega, p5⟩
theorem at_let {r : Int} (h0 : 0 ≤ r) (h1 : r < 26) : ∃ c, atI ("abcdefghijklmnopqrstuvwxyz" : Str).cps.toList r = some c ∧ c ∈ lettersT.cps.toList := by
  obtain ⟨m, rfl⟩ := Int.eq_ofNat_of_zero_le h0
  have hm : m < ("abcdefghijklmnopqrstuvwxyz" : Str).cps.toList.length := by
    have : ("abcdefghijklmnopqrstuvwxyz" : Str).cps.toList.length = 26 := by decide +kernel
    omega
  rw [atN, List.getElem?_eq_getElem hm]
  exact ⟨_, rfl, List.getElem_mem hm⟩
theorem lets_ok {k : Nat} {x1 : Option O} : ∀ (ds : List D) (mu : List O) (n : Nat), PotAt mu k n → n + ds.length ≤ 1000000000 →
    ∃ (cs : List Nat) (mu' : List O), lcL [4] (gN 4) (Tr.ret true) (frz (xOp ixD (xC (.str "abcdefghijklmnopqrstuvwxyz")) (xCall m_law_draw (fun ds _ => ds) 2 (nK []) (aCons (frz (xVar 0)) (aCons (frz (xC (.int 26))) aNil)) aNil))) ds
      ⟨[some (.fz (.cel k)), x1, none, none, none], mu⟩ = .ok (cs.map fun c => .str ⟨#[c]⟩) ⟨[some (.fz (.cel k)), x1, none, none, none], mu'⟩ ∧ cs.length = ds.length ∧ (∀ c ∈ cs, c ∈ lettersT.cps.toList) ∧ PotAt mu' k (n + ds.length)
  | [], mu, n, h, hn => ⟨[], mu, rfl, rfl, (fun _ h => nomatch h), h⟩
  | d :: ds, mu, n, h, hn => by
    rw [List.length_cons] at hn
    obtain ⟨r, mu1, e1, a1, b1, p1⟩ := draw_ok (m := 26) h (by decide) (by decide) (by omega)
    obtain ⟨c, hc, hm⟩ := at_let a1 b1
    have n1 : (("abcdefghijklmnopqrstuvwxyz" : Str).length ≤ 16777216) := by decide
    obtain ⟨cs, mu2, e2, l2, m2, p2⟩ := lets_ok (x1 := x1) ds mu1 (n + 1) p1 (by omega)
    refine ⟨c :: cs, mu2, ?_, by rw [List.length_cons, List.length_cons, l2], fun z hz => ?_, by rw [List.length_cons]; rw [show n + (ds.length + 1) = n + 1 + ds.length by omega]; exact p2⟩
    · walk_at "stp"
    · rcases List.mem_cons.mp hz with rfl | hz
      · exact hm
      · exact m2 z hz
def NameOk (s : Str) : Prop := 1 ≤ s.length ∧ s.length ≤ 8 ∧ (∀ c ∈ s.cps.toList, c ∈ lettersT.cps.toList) ∧ s ∉ keptT
theorem strs_map {cs : List Nat} : strsD (cs.map fun c => D.str ⟨#[c]⟩) = some (cs.map fun c => (⟨#[c]⟩ : Str)) := by
  induction cs with
  | nil => rfl
  | cons c cs ih => rw [List.map_cons, strsD, ih]; rfl
theorem sum_one {cs : List Nat} : ((cs.map fun c => (⟨#[c]⟩ : Str)).map (·.length)).sum = cs.length := by
  induction cs with
  | nil => rfl
  | cons c cs ih => rw [List.map_cons, List.map_cons, List.sum_cons, ih, List.length_cons]; show 1 + cs.length = _; omega
theorem joinL_single : ∀ cs : List Nat, TL.joinL [] (cs.map fun c => [c]) = cs
  | [] => rfl
  | [c] => rfl
  | c :: d :: cs => by
    show [c] ++ ([] ++ TL.joinL [] ((d :: cs).map fun c => [c])) = c :: d :: cs
    rw [joinL_single (d :: cs)]; rfl
theorem join_single (cs : List Nat) : (Txt.join "" (cs.map fun c => (⟨#[c]⟩ : Str))).cps.toList = cs := by
  rw [TL.join_eq]
  have := TL.tl_join "" (cs.map fun c => (⟨#[c]⟩ : Str))
  rw [List.map_map] at this
  exact this.trans (joinL_single cs)
def namesS : List Str := ["a", "b", "pins", "taker", "end", "gone", "untilx", "knownasx", "abcdefgh", "z", "toto", "att", "strip"]
theorem names_ok : ∀ s ∈ ("q" : Str) :: namesS, NameOk s := by unfold NameOk; decide +kernel
abbrev namesD : List D := [.str "a", .str "b", .str "pins", .str "taker", .str "end", .str "gone", .str "untilx", .str "knownasx", .str "abcdefgh", .str "z", .str "toto", .str "att", .str "strip"]
theorem nin_no {s : Str} (h4 : s ∉ keptT) : ninD (.str s) (.lst [(.str "pin"), (.str "again"), (.str "move"), (.str "take"), (.str "tear"), (.str "at"), (.str "to"), (.str "until"), (.str "strips"), (.str "known")]) = some (.fz (.bl true)) := by
  have hm : s ∉ (["pin", "again", "move", "take", "tear", "at", "to", "until", "strips", "known"] : List Str) := h4
  simp only [List.mem_cons, List.not_mem_nil, or_false, not_or] at hm
  obtain ⟨a1, a2, a3, a4, a5, a6, a7, a8, a9, a10⟩ := hm
  simp [ninD, inB, itemsD, flatD, eqF, Ne.symm a1, Ne.symm a2, Ne.symm a3, Ne.symm a4, Ne.symm a5, Ne.symm a6, Ne.symm a7, Ne.symm a8, Ne.symm a9, Ne.symm a10]
theorem nin_yes {s : Str} (h4 : s ∈ keptT) : ninD (.str s) (.lst [(.str "pin"), (.str "again"), (.str "move"), (.str "take"), (.str "tear"), (.str "at"), (.str "to"), (.str "until"), (.str "strips"), (.str "known")]) = some (.fz (.bl false)) := by
  have hm : s ∈ (["pin", "again", "move", "take", "tear", "at", "to", "until", "strips", "known"] : List Str) := h4
  simp only [List.mem_cons, List.not_mem_nil, or_false] at hm
  rcases hm with rfl | rfl | rfl | rfl | rfl | rfl | rfl | rfl | rfl | rfl <;> rfl
theorem name_ok {mu : List O} {k n : Nat} (h : PotAt mu k n) (hn : n ≤ 900000000) :
    ∃ s mu', m_law_name [.cel k] mu = .ok (.fz (.str s)) ⟨[], mu'⟩ ∧ NameOk s ∧ PotAt mu' k (n + 10) := by
  obtain ⟨r1, mu1, e1, a1, b1, p1⟩ := draw_ok (m := 8) h (by decide) (by decide) (by omega)
  have hL : (rngL 0 (1 + r1).toNat).length = (1 + r1).toNat := by unfold rngL; rw [List.length_map, List.length_range]
  obtain ⟨cs, mu2, e2, l2, m2, p2⟩ := lets_ok (x1 := some (.lst namesD)) (rngL 0 (1 + r1).toNat) mu1 (n + 1) p1 (by omega)
  obtain ⟨r, mu3, e3, a3, b3, p3⟩ := draw_ok (m := 20) p2 (by decide) (by decide) (by omega)
  have hl : (rngL 0 (1 + r1).toNat).length ≤ 16777216 := by omega
  have g1 : 0 ≤ 1 + r1 := by omega
  have g2 : 1 + r1 < 4611686018427387904 := by omega
  have hj : joinD (.str "") [.lst (cs.map fun c => D.str ⟨#[c]⟩)] = some (.fz (.str (Txt.join "" (cs.map fun c => (⟨#[c]⟩ : Str))))) := st_joi strs_map (by
    rw [sum_one, List.length_map]; have : ("" : Str).length = 0 := rfl; rw [this]; omega)
  have hcs := join_single cs
  generalize Txt.join "" (cs.map fun c => (⟨#[c]⟩ : Str)) = own at hj hcs
  have hown : own.length = cs.length := by
    show own.cps.size = _
    rw [← hcs, Array.length_toList]
  have hl2 : (1 + r1).toNat ≤ 16777216 := by omega
  have fin : ∀ x : Str, NameOk x → ∃ s, NameOk s ∧ ∃ L, addD (.lst namesD) (.lst [.str x, .str x, .str x, .str x, .str x, .str x, .str x]) = some (.lst L) ∧ ixD (.lst L) (.int r) = some (.fz (.str s)) := by
    intro x hx
    have all : ∀ s ∈ namesS ++ [x, x, x, x, x, x, x], NameOk s := fun s hs => by
      rcases List.mem_append.mp hs with h | h
      · exact names_ok s (List.mem_cons_of_mem _ h)
      · have : s = x := by simpa using h
        rw [this]; exact hx
    obtain ⟨j, rfl⟩ := Int.eq_ofNat_of_zero_le a3
    have hj : j < (namesS ++ [x, x, x, x, x, x, x]).length := by
      have : (namesS ++ [x, x, x, x, x, x, x]).length = 20 := rfl
      omega
    refine ⟨(namesS ++ [x, x, x, x, x, x, x])[j], all _ (List.getElem_mem hj), (namesS ++ [x, x, x, x, x, x, x]).map D.str, rfl, ?_⟩
    rw [st_ixl, atN, List.getElem?_map, List.getElem?_eq_getElem hj]
    rfl
  have hm7 : ∀ x : Str, mulD (.lst [.str x]) (.int 7) = some (.lst [.str x, .str x, .str x, .str x, .str x, .str x, .str x]) := fun x => rfl
  have pw : PotAt mu3 k (n + 10) := by
    obtain ⟨a, b, c, q1, q2, q3, q4, q5, q6⟩ := p3
    exact ⟨a, b, c, q1, q2, q3, q4, q5, by omega⟩
  by_cases hk : own ∉ keptT
  · have ho : NameOk own := ⟨by rw [hown, l2]; omega, by rw [hown, l2]; omega, fun c hc => m2 c (by rw [← hcs]; exact hc), hk⟩
    obtain ⟨s, hs, L, q1, q2⟩ := fin own ho
    have hnin := nin_no hk
    refine ⟨s, mu3, ?_, hs, pw⟩
    clear fin hk
    unfold m_law_name
    walk_at "stp"
  · obtain ⟨s, hs, L, q1, q2⟩ := fin "q" (names_ok ("q" : Str) List.mem_cons_self)
    have hnin := nin_yes (Decidable.not_not.mp hk)
    refine ⟨s, mu3, ?_, hs, pw⟩
    clear fin hk
    unfold m_law_name
    walk_at "stp"
theorem name_asc {s : Str} (h : NameOk s) : (s.cps.toList.all fun c => decide (c < 16 ^ 8)) = true := by
  refine List.all_eq_true.mpr fun c hc => decide_eq_true ?_
  have : ∀ c ∈ lettersT.cps.toList, c < 16 ^ 8 := by decide +kernel
  exact this c (h.2.2.1 c hc)
def LastOk (d : D) : Prop := d = .non ∨ ∃ t : Int, d = .int t ∧ 0 ≤ t ∧ t < 9600
structure CardOk (s : Str) (w h : Int) (l : D) (t : Int) : Prop where
  n : NameOk s
  w0 : 1 ≤ w
  w1 : w ≤ 9
  h0 : 1 ≤ h
  h1 : h ≤ 9
  l : LastOk l
  t0 : 0 ≤ t
  t1 : t ≤ 99
theorem side_at {x r : Int} (x0 : 0 ≤ x) (x1 : x < 9) (h0 : 0 ≤ r) (h1 : r < 3) : ∃ v : Int, atI [D.int 1, .int 9, .int (1 + x)] r = some (.int v) ∧ 1 ≤ v ∧ v ≤ 9 := by
  have hr : r = 0 ∨ r = 1 ∨ r = 2 := by omega
  rcases hr with rfl | rfl | rfl
  · exact ⟨1, st_at0, by omega, by omega⟩
  · exact ⟨9, st_at1, by omega, by omega⟩
  · exact ⟨1 + x, st_at2, by omega, by omega⟩
theorem card_ok {mu : List O} {k n : Nat} (h : PotAt mu k n) (hn : n ≤ 800000000) :
    ∃ s w h l t mu', m_law_card [.cel k] mu = .ok (.fz (.tup [.str s, .int w, .int h, l, .int t])) ⟨[], mu'⟩ ∧ CardOk s w h l t ∧ PotAt mu' k (n + 22) := by
  obtain ⟨t, mu1, e1, a1, b1, p1⟩ := moment_ok h (by omega)
  obtain ⟨r2, mu2, e2, a2, b2, p2⟩ := draw_ok (m := 3) p1 (by decide) (by decide) (by omega)
  obtain ⟨r3, mu3, e3, a3, b3, p3⟩ := draw_ok (m := 100) p2 (by decide) (by decide) (by omega)
  obtain ⟨r4, mu4, e4, a4, b4, p4⟩ := draw_ok (m := 5) p3 (by decide) (by decide) (by omega)
  obtain ⟨r5, mu5, e5, a5, b5, p5⟩ := draw_ok (m := 9) p4 (by decide) (by decide) (by omega)
  obtain ⟨r6, mu6, e6, a6, b6, p6⟩ := draw_ok (m := 3) p5 (by decide) (by decide) (by omega)
  obtain ⟨r7, mu7, e7, a7, b7, p7⟩ := draw_ok (m := 9) p6 (by decide) (by decide) (by omega)
  obtain ⟨r8, mu8, e8, a8, b8, p8⟩ := draw_ok (m := 3) p7 (by decide) (by decide) (by omega)
  obtain ⟨s, mu9, e9, hs, p9⟩ := name_ok p8 (by omega)
  have i1 : ∃ d, atI [D.non, .non, .int t] r2 = some d ∧ LastOk d := by
    have hr : r2 = 0 ∨ r2 = 1 ∨ r2 = 2 := by omega
    rcases hr with rfl | rfl | rfl
    · exact ⟨_, st_at0, .inl rfl⟩
    · exact ⟨_, st_at1, .inl rfl⟩
    · exact ⟨_, st_at2, .inr ⟨t, rfl, a1, b1⟩⟩
  have i2 : ∃ v : Int, atI [D.int 0, .int 0, .int 1, .int 99, .int r3] r4 = some (.int v) ∧ 0 ≤ v ∧ v ≤ 99 := by
    have hr : r4 = 0 ∨ r4 = 1 ∨ r4 = 2 ∨ r4 = 3 ∨ r4 = 4 := by omega
    rcases hr with rfl | rfl | rfl | rfl | rfl
    · exact ⟨0, st_at0, by omega, by omega⟩
    · exact ⟨0, st_at1, by omega, by omega⟩
    · exact ⟨1, st_at2, by omega, by omega⟩
    · exact ⟨99, st_at3, by omega, by omega⟩
    · exact ⟨r3, st_at4, by omega, by omega⟩
  obtain ⟨l, j1, lo⟩ := i1
  obtain ⟨tn, j2, t0, t1⟩ := i2
  obtain ⟨w, j3, w0, w1⟩ := side_at a5 b5 a6 b6
  obtain ⟨hh, j4, h0, h1⟩ := side_at a7 b7 a8 b8
  have hr2 : rng1 [.int 2] = some [.int 0, .int 1] := rfl
  have ok : CardOk s w hh l tn := ⟨hs, w0, w1, h0, h1, lo, t0, t1⟩
  have pw : PotAt mu9 k (n + 22) := p9.mono (by omega)
  refine ⟨s, w, hh, l, tn, mu9, ?_, ok, pw⟩
  unfold m_law_card
  walk_at "stp"
def isAny : D → Bool
  | .non => true
  | .bl _ => true
  | .int _ => true
  | .str s => decide (s.length ≤ 10000000)
  | .tup xs => noCA xs
  | .lst xs => noCA xs
  | .dct kvs => noCK kvs
  | _ => false
def nameS (s : Str) : Bool := decide (1 ≤ s.length) && decide (s.length ≤ 8) && s.cps.toList.all (fun c => decide (c ∈ lettersT.cps.toList)) && decide (s ∉ keptT)
def nameB : D → Bool
  | .str s => nameS s
  | _ => false
theorem isi_str {d : D} (h : isAny d = true) : isiD [d, .ty "str"] = some (.fz (.bl (match d with | .str _ => true | _ => false))) := by
  cases d <;> first | (cases h; done) | rfl
theorem any_strs (s : Str) : ∀ l : List Str, (l.map D.str).any (fun y => eqF y (.str s)) = decide (s ∈ l)
  | [] => rfl
  | x :: l => by
    rw [List.map_cons, List.any_cons, any_strs s l]
    show ((x == s) || _) = _
    rw [show (x == s) = decide (s = x) by
      by_cases h : x = s
      · subst h; simp
      · rw [decide_eq_false (Ne.symm h)]; exact beq_eq_false_iff_ne.mpr h]
    rw [← Bool.decide_or]
    exact decide_eq_decide.mpr (List.mem_cons.symm)
theorem inK {s : Str} {L : D} {l : List Str} (hL : itemsD L = some (l.map D.str)) : inB (.str s) L = some (decide (s ∈ l)) := by
  have e : inB (.str s) L = (match itemsD L with
    | some ds => if flatD (.str s) = true ∧ ds.all flatD = true then some (ds.any fun y => eqF y (.str s)) else none
    | none => none) := by
    cases L <;> first | rfl | cases hL
  rw [e, hL]
  dsimp only
  rw [if_pos ⟨rfl, by rw [List.all_map]; exact List.all_eq_true.mpr fun _ _ => rfl⟩, any_strs]
theorem ninK {s : Str} (L : D) (hL : itemsD L = some (keptT.map D.str)) : ninD (.str s) L = some (.fz (.bl (decide (s ∉ keptT)))) := by
  unfold ninD
  rw [inK hL]
  by_cases h : s ∈ keptT <;> simp [h]
theorem name_any {d : D} {mu : List O} (h : isAny d = true) : m_is_name [d] mu = .ok (.fz (.bl (nameB d))) ⟨[], mu⟩ := by
  have e1 := isi_str h
  cases d with
  | str s =>
    have hl : s.length ≤ 10000000 := of_decide_eq_true h
    have hl2 : s.length ≤ 16777216 := by omega
    have e2 : stripD (.str s) [.str "abcdefghijklmnopqrstuvwxyz"] = some (.fz (.str (Txt.stripChars s lettersT))) := by
      show (if s.length ≤ 16777216 then some (O.fz (D.str (Txt.stripChars s lettersT))) else none) = _
      rw [if_pos hl2]
    have e3 := ninK (s := s) (.tuk [(.str "pin"), (.str "again"), (.str "move"), (.str "take"), (.str "tear"), (.str "at"), (.str "to"), (.str "until"), (.str "strips"), (.str "known")]) rfl
    have e4 : decide (Txt.stripChars s lettersT = "") = s.cps.toList.all (fun c => decide (c ∈ lettersT.cps.toList)) := by
      rw [decide_eq_decide.mpr (strip_iff s lettersT)]
      by_cases hh : ∀ c ∈ s.cps.toList, c ∈ lettersT.cps.toList
      · rw [decide_eq_true hh]; exact (List.all_eq_true.mpr fun c hc => decide_eq_true (hh c hc)).symm
      · rw [decide_eq_false hh]
        symm
        rw [← Bool.not_eq_true, List.all_eq_true]
        exact fun z => hh fun c hc => of_decide_eq_true (z c hc)
    dsimp only at e1
    show _ = R.ok (O.fz (D.bl (nameS s))) _
    unfold nameS
    generalize s.cps.toList.all (fun c => decide (c ∈ lettersT.cps.toList)) = A at *
    by_cases h1 : 1 ≤ s.length
    · have k1 : decide ((1 : Int) ≤ (s.length : Int)) = true := decide_eq_true (by omega)
      have k1' := decide_eq_true h1
      by_cases h2 : s.length ≤ 8
      · have k2 : decide ((s.length : Int) ≤ 8) = true := decide_eq_true (by omega)
        have k2' := decide_eq_true h2
        rw [k1', k2']
        clear h hl h1 h2 k1' k2'
        unfold m_is_name
        cases A <;> walk_at "spn"
      · have k2 : decide ((s.length : Int) ≤ 8) = false := decide_eq_false (by omega)
        have k2' := decide_eq_false h2
        rw [k1', k2']
        clear h hl h1 h2 k1' k2'
        unfold m_is_name
        walk_at "spn"
    · have k1 : decide ((1 : Int) ≤ (s.length : Int)) = false := decide_eq_false (by omega)
      have k1' := decide_eq_false h1
      rw [k1']
      clear h hl h1 k1'
      unfold m_is_name
      walk_at "spn"
  | _ =>
    first
    | (cases h; done)
    | (unfold m_is_name nameB; dsimp only at e1; walk_at "spn")
theorem day_all : ∀ k ∈ List.range 400, (digB (toString ((k : Nat) : Int) : Str) && !zeroB (toString ((k : Nat) : Int) : Str) && decide (1 ≤ (toString ((k : Nat) : Int) : Str).length) && decide ((toString ((k : Nat) : Int) : Str).length ≤ 3) && decide (PySem.NumText.digitsVal (toString ((k : Nat) : Int) : Str).cps.toList = k)) = true := by decide +kernel
theorem hour_all : ∀ k ∈ List.range 24, (digB (Txt.zfill (toString ((k : Nat) : Int) : Str) 2) && decide ((Txt.zfill (toString ((k : Nat) : Int) : Str) 2).length = 2) && decide (PySem.NumText.digitsVal (Txt.zfill (toString ((k : Nat) : Int) : Str) 2).cps.toList = k)) = true := by decide +kernel
theorem app_list (a b : Str) : (a ++ b).cps.toList = a.cps.toList ++ b.cps.toList := Array.toList_append
theorem mom_when {m : Int} (h0 : 0 ≤ m) (h1 : m < 9600) : momOf (whenT m) = some m := by
  obtain ⟨d, hd⟩ : ∃ d : Nat, m / 24 = d := ⟨(m / 24).toNat, by omega⟩
  obtain ⟨r, hr⟩ : ∃ r : Nat, m % 24 = r := ⟨(m % 24).toNat, by omega⟩
  have D := day_all d (List.mem_range.mpr (by omega))
  have R := hour_all r (List.mem_range.mpr (by omega))
  unfold whenT
  rw [hd, hr]
  generalize (toString ((d : Nat) : Int) : Str) = day at *
  generalize Txt.zfill (toString ((r : Nat) : Int) : Str) 2 = hour at *
  simp only [Bool.and_eq_true, decide_eq_true_eq, Bool.not_eq_true'] at D R
  obtain ⟨⟨⟨⟨D1, D2⟩, D3⟩, D4⟩, D5⟩ := D
  obtain ⟨⟨R1, R2⟩, R3⟩ := R
  have e0 : ("." : Str).cps.toList = [46] := rfl
  have el : (day ++ "." ++ hour).cps.toList = day.cps.toList ++ ([46] ++ hour.cps.toList) := by rw [app_list, app_list, e0, List.append_assoc]
  have ll : (day ++ "." ++ hour).length = day.length + 3 := by rw [len_list, el, List.length_append, List.length_append, ← len_list, ← len_list]; simp; omega
  have i1 : PySem.intText? day = some ((d : Nat) : Int) := by
    rw [PySem.intText_digits (dig_all D1) (fun e => by rw [len_list, e] at D3; simp at D3) (by omega), D5]
  have i2 : PySem.intText? hour = some ((r : Nat) : Int) := by
    rw [PySem.intText_digits (dig_all R1) (fun e => by rw [len_list, e] at R2; simp at R2) (by omega), R3]
  have c1 : cutS (day ++ "." ++ hour) none (some (-3)) = day := str_ext (by
    rw [show (-3 : Int) = -((3 : Nat) : Int) from rfl, cut_to_neg (by decide) (by omega), el, ll, List.take_append_of_le_length (by rw [← len_list]; omega), List.take_of_length_le (by rw [← len_list]; omega)])
  have c2 : cutS (day ++ "." ++ hour) (some (-2)) none = hour := str_ext (by
    rw [show (-2 : Int) = -((2 : Nat) : Int) from rfl, cut_from_neg (by decide) (by omega), el, ll, ← List.append_assoc, List.drop_left' (by rw [List.length_append, ← len_list]; simp)])
  have hp := mom_part (s := day ++ "." ++ hour) (by omega) (by
    rw [el, ll, List.getElem?_append_right (by rw [← len_list]; omega), ← len_list]; simp) (by rw [c1]; exact D1)
  rw [c1, c2] at hp
  rw [momOf_of hp D3 D4 D1 i1 R2 R1 i2, D2, if_neg (by decide), if_pos (by omega)]
  congr 1
  omega
def optD : Option Int → D
  | none => .non
  | some n => .int n
theorem digB_iff {s : Str} : digB s = true ↔ ∀ c ∈ s.cps.toList, c ∈ figT.cps.toList := by
  unfold digB
  rw [List.all_eq_true]
  exact ⟨fun h c hc => of_decide_eq_true (h c hc), fun h c hc => decide_eq_true (h c hc)⟩
theorem strip_fig {s : Str} (hl : s.length ≤ 16777216) : stripD (.str s) [.str "0123456789"] = some (.fz (.str (Txt.stripChars s figT))) := by
  show (if s.length ≤ 16777216 then some (O.fz (D.str (Txt.stripChars s figT))) else none) = _
  rw [if_pos hl]
theorem strip_digB {s : Str} : Txt.stripChars s figT = "" ↔ digB s = true := (strip_iff s figT).trans digB_iff.symm
theorem at_str0 {s : Str} (h : 1 ≤ s.length) : atI s.cps.toList 0 = some (s.cps.toList.getD 0 0) := by
  have hk : 0 < s.cps.toList.length := by rw [← len_list]; omega
  show atI s.cps.toList ((0 : Nat) : Int) = _
  rw [atN, List.getElem?_eq_getElem hk, List.getD_eq_getElem?_getD, List.getElem?_eq_getElem hk]; rfl
theorem numOf_no {s : Str} {lo hi : Int} (h : ¬ ((1 : Int) ≤ (s.length : Int) ∧ (s.length : Int) ≤ ((toString hi : Str).length : Int) ∧ digB s = true ∧ zeroB s = false)) : numOf s lo hi = none := by
  unfold numOf
  rw [if_neg]
  intro z
  rw [Bool.and_eq_true, Bool.and_eq_true, Bool.and_eq_true, decide_eq_true_eq, decide_eq_true_eq, Bool.not_eq_true'] at z
  exact h ⟨z.1.1.1, z.1.1.2, z.1.2, z.2⟩
theorem numOf_yes {s : Str} {lo hi n : Int} (a1 : (1 : Int) ≤ (s.length : Int)) (a2 : (s.length : Int) ≤ ((toString hi : Str).length : Int)) (a3 : digB s = true) (a4 : zeroB s = false) (hn : PySem.intText? s = some n) : numOf s lo hi = if lo ≤ n ∧ n ≤ hi then some n else none := by
  unfold numOf
  rw [decide_eq_true a1, decide_eq_true a2, a3, a4, if_pos (show (true && true && true && !false) = true from rfl), hn]
theorem zeroB_eq {s : Str} : zeroB s = (decide ((⟨#[s.cps.toList.getD 0 0]⟩ : Str) = "0") && !decide (s = "0")) := rfl
noncomputable def number_of_0T : M Bool :=
    (bOr (bNot (toB (xChain leD leD (xC (.int 1)) (xUn lenD (xRd 0)) (xUn lenD (xUn strD (xRd 2)))))) (toB (xOp neD (xM1 stripD (xBor 0) (frz (xC (.str "0123456789")))) (xC (.str "")))))
noncomputable def number_of_0B0 : M Fl :=
    (sRet (xC .non))
noncomputable def number_of_0B : M Fl :=
    number_of_0B0
noncomputable def number_of_1T : M Bool :=
    (bAnd (toB (xOp eqD (xOpQ ixD (xRd 0) (fun _ => some (.int 0))) (xC (.str "0")))) (toB (xOp neD (xBor 0) (xC (.str "0")))))
noncomputable def number_of_1B0 : M Fl :=
    (sRet (xC .non))
noncomputable def number_of_1B : M Fl :=
    number_of_1B0
noncomputable def number_of_2 : M Fl :=
    (sRet (xIf (toB (xChain leD leD (xBor 1) (xUn intD (xRd 0)) (xRd 2))) (xUn intD (xRd 0)) (xC .non)))
theorem number_of_eq : m_number_of = fnM 3
    (sSeq (sIf number_of_0T number_of_0B sNil) (sSeq (sIf number_of_1T number_of_1B sNil) number_of_2)) := rfl
set_option maxHeartbeats 1000000 in
theorem number_ok {s : Str} {lo hi : Int} {mu : List O} (hl : s.length ≤ 16777216) (h0 : 0 ≤ hi) (h1 : hi ≤ 100000) : m_number_of [.str s, .int lo, .int hi] mu = .ok (.fz (optD (numOf s lo hi))) ⟨[], mu⟩ := by
  have ll : lenD (.str s) = some (.fz (.int (s.length : Int))) := by rw [st_lens, if_pos hl]
  have lg := log_small (i := hi) h0 (by omega)
  have hm := int_len (i := hi) h0 (by omega)
  have hm2 : (toString hi : Str).length ≤ 16777216 := by omega
  have sf := strip_fig (s := s) hl
  have sl : s.length ≤ 16777216 := hl
  by_cases a1 : (1 : Int) ≤ (s.length : Int)
  case neg =>
    rw [numOf_no fun z => a1 z.1]
    refine w_eq ?_
    (refine fn_wv number_of_eq ?_; unfold number_of_2 number_of_0B number_of_0T number_of_1B number_of_1T number_of_0B0 number_of_1B0)
    ((walk_at "vc"); repeat ((refine w_rw (by first | (simp only [ll, a1]; done) | (simp only [ll, a1]; rfl)) ?_); (walk_at "vc")))
    exact ⟨rfl, rfl⟩
  by_cases a2 : (s.length : Int) ≤ ((toString hi : Str).length : Int)
  case neg =>
    rw [numOf_no fun z => a2 z.2.1]
    refine w_eq ?_
    (refine fn_wv number_of_eq ?_; unfold number_of_2 number_of_0B number_of_0T number_of_1B number_of_1T number_of_0B0 number_of_1B0)
    ((walk_at "vc"); repeat ((refine w_rw (by first | (simp only [ll, a1, lg, hm2, a2]; done) | (simp only [ll, a1, lg, hm2, a2]; rfl)) ?_); (walk_at "vc")))
    exact ⟨rfl, rfl⟩
  by_cases a3 : Txt.stripChars s figT = ""
  case neg =>
    rw [numOf_no fun z => a3 (strip_digB.mpr z.2.2.1)]
    refine w_eq ?_
    (refine fn_wv number_of_eq ?_; unfold number_of_2 number_of_0B number_of_0T number_of_1B number_of_1T number_of_0B0 number_of_1B0)
    ((walk_at "vc"); repeat ((refine w_rw (by first | (simp only [ll, a1, lg, hm2, a2, sf, a3]; done) | (simp only [ll, a1, lg, hm2, a2, sf, a3]; rfl)) ?_); (walk_at "vc")))
    exact ⟨rfl, rfl⟩
  have dg := strip_digB.mp a3
  obtain ⟨n, hn⟩ := dig_int dg (by omega) (by omega)
  have i0 : atI s.cps.toList 0 = some (s.cps.toList.getD 0 0) := at_str0 (by omega)
  have iD : intD (.str s) = some (.fz (.int (n : Int))) := by
    show (if s.length ≤ 640 then (PySem.intText? s).map fun n => O.fz (.int n) else none) = _
    rw [if_pos (by omega), hn]; rfl
  have no := fun h => numOf_no (s := s) (lo := lo) (hi := hi) h
  have yes := fun h => numOf_yes (lo := lo) a1 a2 dg h hn
  have ze := zeroB_eq (s := s)
  generalize s.cps.toList.getD 0 0 = c0 at *
  have fin : ∀ (v : O), (zeroB s = false) → (lo ≤ (n : Int) ∧ (n : Int) ≤ hi → v = .fz (.int (n : Int))) → (¬ (lo ≤ (n : Int) ∧ (n : Int) ≤ hi) → v = .fz .non) → v = .fz (optD (numOf s lo hi)) := fun v h hy hn2 => by
    rw [yes h]
    by_cases c : lo ≤ (n : Int) ∧ (n : Int) ≤ hi
    · rw [if_pos c, hy c]; rfl
    · rw [if_neg c, hn2 c]; rfl
  by_cases b1 : (⟨#[c0]⟩ : Str) = "0"
  · by_cases b2 : s = "0"
    · have z0 : zeroB s = false := by rw [ze, decide_eq_true b1, decide_eq_true b2]; rfl
      have dz := decide_eq_true b2
      refine w_eq ?_
      (refine fn_wv number_of_eq ?_; unfold number_of_2 number_of_0B number_of_0T number_of_1B number_of_1T number_of_0B0 number_of_1B0)
      by_cases c1 : lo ≤ (n : Int)
      · by_cases c2 : (n : Int) ≤ hi
        · ((walk_at "vc"); repeat ((refine w_rw (by first | (simp only [ll, a1, lg, hm2, a2, sf, a3, i0, b1, iD, c1, c2, dz]; done) | (simp only [ll, a1, lg, hm2, a2, sf, a3, i0, b1, iD, c1, c2, dz]; rfl)) ?_); (walk_at "vc")))
          exact ⟨fin _ z0 (fun _ => rfl) (fun z => absurd ⟨c1, c2⟩ z), rfl⟩
        · ((walk_at "vc"); repeat ((refine w_rw (by first | (simp only [ll, a1, lg, hm2, a2, sf, a3, i0, b1, iD, c1, c2, dz]; done) | (simp only [ll, a1, lg, hm2, a2, sf, a3, i0, b1, iD, c1, c2, dz]; rfl)) ?_); (walk_at "vc")))
          exact ⟨fin _ z0 (fun z => absurd z.2 c2) (fun _ => rfl), rfl⟩
      · ((walk_at "vc"); repeat ((refine w_rw (by first | (simp only [ll, a1, lg, hm2, a2, sf, a3, i0, b1, iD, c1, dz]; done) | (simp only [ll, a1, lg, hm2, a2, sf, a3, i0, b1, iD, c1, dz]; rfl)) ?_); (walk_at "vc")))
        exact ⟨fin _ z0 (fun z => absurd z.1 c1) (fun _ => rfl), rfl⟩
    · have z0 : zeroB s = true := by rw [ze, decide_eq_true b1, decide_eq_false b2]; rfl
      rw [no fun z => by rw [z0] at z; cases z.2.2.2]
      refine w_eq ?_
      (refine fn_wv number_of_eq ?_; unfold number_of_2 number_of_0B number_of_0T number_of_1B number_of_1T number_of_0B0 number_of_1B0)
      ((walk_at "vc"); repeat ((refine w_rw (by first | (simp only [ll, a1, lg, hm2, a2, sf, a3, i0, b1, b2]; done) | (simp only [ll, a1, lg, hm2, a2, sf, a3, i0, b1, b2]; rfl)) ?_); (walk_at "vc")))
      exact ⟨rfl, rfl⟩
  · have z0 : zeroB s = false := by rw [ze, decide_eq_false b1]; rfl
    refine w_eq ?_
    (refine fn_wv number_of_eq ?_; unfold number_of_2 number_of_0B number_of_0T number_of_1B number_of_1T number_of_0B0 number_of_1B0)
    by_cases c1 : lo ≤ (n : Int)
    · by_cases c2 : (n : Int) ≤ hi
      · ((walk_at "vc"); repeat ((refine w_rw (by first | (simp only [ll, a1, lg, hm2, a2, sf, a3, i0, b1, iD, c1, c2]; done) | (simp only [ll, a1, lg, hm2, a2, sf, a3, i0, b1, iD, c1, c2]; rfl)) ?_); (walk_at "vc")))
        exact ⟨fin _ z0 (fun _ => rfl) (fun z => absurd ⟨c1, c2⟩ z), rfl⟩
      · ((walk_at "vc"); repeat ((refine w_rw (by first | (simp only [ll, a1, lg, hm2, a2, sf, a3, i0, b1, iD, c1, c2]; done) | (simp only [ll, a1, lg, hm2, a2, sf, a3, i0, b1, iD, c1, c2]; rfl)) ?_); (walk_at "vc")))
        exact ⟨fin _ z0 (fun z => absurd z.2 c2) (fun _ => rfl), rfl⟩
    · ((walk_at "vc"); repeat ((refine w_rw (by first | (simp only [ll, a1, lg, hm2, a2, sf, a3, i0, b1, iD, c1]; done) | (simp only [ll, a1, lg, hm2, a2, sf, a3, i0, b1, iD, c1]; rfl)) ?_); (walk_at "vc")))
      exact ⟨fin _ z0 (fun z => absurd z.1 c1) (fun _ => rfl), rfl⟩
noncomputable def moment_of_0 : M Fl :=
    (sAsgT (gT [(gN 2), (gN 3), (gN 4)]) (frz (xM1 partD (xBor 0) (frz (xC (.str "."))))))
noncomputable def moment_of_1 : M Fl :=
    (sAsg 1 (xCall m_number_of (fun ds _ => ds) 3 (nK []) (aCons (frz (xVar 2)) (aCons (frz (xC (.int 0))) (aCons (frz (xOp subD (xOp divD (xC (.int 9600)) (xC (.int 24))) (xC (.int 1)))) aNil))) aNil))
noncomputable def moment_of_2T : M Bool :=
    (bOr (toB (xOp isD (xBor 1) (xC .non))) (bOr (toB (xOp eqD (xBor 3) (xC (.str "")))) (bOr (toB (xOp neD (xUn lenD (xRd 4)) (xC (.int 2)))) (bOr (toB (xOp neD (xM1 stripD (xBor 4) (frz (xC (.str "0123456789")))) (xC (.str "")))) (toB (xOp geD (xUn intD (xRd 4)) (xC (.int 24))))))))
noncomputable def moment_of_2B0 : M Fl :=
    (sRet (xC .non))
noncomputable def moment_of_2B : M Fl :=
    moment_of_2B0
noncomputable def moment_of_3 : M Fl :=
    (sRet (xOp addD (xOp mulD (xBor 1) (xC (.int 24))) (xUn intD (xRd 4))))
theorem moment_of_eq : m_moment_of = fnM 5
    (sSeq moment_of_0 (sSeq moment_of_1 (sSeq (sIf moment_of_2T moment_of_2B sNil) moment_of_3))) := rfl
set_option maxHeartbeats 1000000 in
theorem mom_ok {s : Str} {mu : List O} (hl : s.length ≤ 16777216) : m_moment_of [.str s] mu = .ok (.fz (optD (momOf s))) ⟨[], mu⟩ := by
  have pl := part_len s "."
  obtain ⟨da, sg, ho, hp⟩ : ∃ da sg ho, Txt.partition s "." = (da, sg, ho) := ⟨_, _, _, rfl⟩
  have pd : partD (.str s) [.str "."] = some (.fz (.tup [.str da, .str sg, .str ho])) := by
    have e : partD (.str s) [.str "."] = some (.fz (.tup [.str (Txt.partition s ".").1, .str (Txt.partition s ".").2.1, .str (Txt.partition s ".").2.2])) := if_pos ⟨by decide, hl⟩
    rw [hp] at e
    exact e
  rw [hp] at pl
  have pl1 : da.length ≤ s.length := pl.1
  have pl2 : ho.length ≤ s.length := pl.2
  have e4 : (9600 : Int) / 24 - 1 = 399 := by decide
  have e5 : (9600 : Int) / 24 = 400 := by decide
  have nm := fun env => run_ok (env := env) (number_ok (s := da) (lo := 0) (hi := 399) (mu := mu) (by omega) (by decide) (by decide))
  have lh : lenD (.str ho) = some (.fz (.int (ho.length : Int))) := by rw [st_lens, if_pos (by omega)]
  have sf := strip_fig (s := ho) (by omega)
  have mo : momOf s = match numOf da 0 399 with
    | none => none
    | some d => if sg = "" ∨ ho.length ≠ 2 ∨ digB ho = false then none else match PySem.intText? ho with
      | some h => if h < 24 then some (d * 24 + h) else none
      | none => none := by
    unfold momOf
    rw [hp]
    try rfl
  cases hd : numOf da 0 399 with
  | none =>
    rw [hd] at nm mo
    rw [mo]
    have nm : ∀ env, runF m_number_of [.str da, .int 0, .int 399] ⟨env, mu⟩ = .ok (.fz .non) ⟨env, mu⟩ := nm
    refine w_eq ?_
    (refine fn_wv moment_of_eq ?_; unfold moment_of_0 moment_of_1 moment_of_3 moment_of_2B moment_of_2T moment_of_2B0)
    ((walk_at "vc"); repeat ((refine w_rw (by first | (simp only [pd, e5, nm]; done) | (simp only [pd, e5, nm]; rfl)) ?_); (walk_at "vc")))
    exact ⟨rfl, rfl⟩
  | some d =>
    have dle := numOf_le hd
    rw [hd] at nm mo
    dsimp only at mo
    have nm : ∀ env, runF m_number_of [.str da, .int 0, .int 399] ⟨env, mu⟩ = .ok (.fz (.int d)) ⟨env, mu⟩ := nm
    have i0 : isD (.int d) .non = some (.fz (.bl false)) := rfl
    by_cases c1 : sg = ""
    · rw [mo, if_pos (.inl c1)]
      have dz := decide_eq_true c1
      refine w_eq ?_
      (refine fn_wv moment_of_eq ?_; unfold moment_of_0 moment_of_1 moment_of_3 moment_of_2B moment_of_2T moment_of_2B0)
      ((walk_at "vc"); repeat ((refine w_rw (by first | (simp only [pd, e5, nm, i0, dz]; done) | (simp only [pd, e5, nm, i0, dz]; rfl)) ?_); (walk_at "vc")))
      exact ⟨rfl, rfl⟩
    by_cases c2 : (ho.length : Int) = 2
    case neg =>
      rw [mo, if_pos (.inr (.inl (by omega)))]
      refine w_eq ?_
      (refine fn_wv moment_of_eq ?_; unfold moment_of_0 moment_of_1 moment_of_3 moment_of_2B moment_of_2T moment_of_2B0)
      ((walk_at "vc"); repeat ((refine w_rw (by first | (simp only [pd, e5, nm, i0, c1, lh, c2]; done) | (simp only [pd, e5, nm, i0, c1, lh, c2]; rfl)) ?_); (walk_at "vc")))
      exact ⟨rfl, rfl⟩
    by_cases c3 : Txt.stripChars ho figT = ""
    case neg =>
      have : digB ho = false := by
        cases e : digB ho with
        | false => rfl
        | true => exact absurd (strip_digB.mpr e) c3
      rw [mo, if_pos (.inr (.inr this))]
      refine w_eq ?_
      (refine fn_wv moment_of_eq ?_; unfold moment_of_0 moment_of_1 moment_of_3 moment_of_2B moment_of_2T moment_of_2B0)
      ((walk_at "vc"); repeat ((refine w_rw (by first | (simp only [pd, e5, nm, i0, c1, lh, c2, sf, c3]; done) | (simp only [pd, e5, nm, i0, c1, lh, c2, sf, c3]; rfl)) ?_); (walk_at "vc")))
      exact ⟨rfl, rfl⟩
    have dg := strip_digB.mp c3
    obtain ⟨n, hn⟩ := dig_int dg (by omega) (by omega)
    have iD : intD (.str ho) = some (.fz (.int (n : Int))) := by
      show (if ho.length ≤ 640 then (PySem.intText? ho).map fun n => O.fz (.int n) else none) = _
      rw [if_pos (by omega), hn]; rfl
    rw [mo, if_neg (fun z => z.elim c1 fun z => z.elim (fun z => z (by omega)) fun z => by rw [dg] at z; cases z), hn]
    dsimp only
    by_cases c4 : (n : Int) < 24
    · rw [if_pos c4]
      have c4' : ¬ (24 : Int) ≤ (n : Int) := by omega
      have mk : mulOkB d 24 = true := mulR (by omega) (by omega)
      refine w_eq ?_
      (refine fn_wv moment_of_eq ?_; unfold moment_of_0 moment_of_1 moment_of_3 moment_of_2B moment_of_2T moment_of_2B0)
      ((walk_at "vc"); repeat ((refine w_rw (by first | (simp only [pd, e5, nm, i0, c1, lh, c2, sf, c3, iD, c4', mk]; done) | (simp only [pd, e5, nm, i0, c1, lh, c2, sf, c3, iD, c4', mk]; rfl)) ?_); (walk_at "vc")))
      exact ⟨rfl, rfl⟩
    · rw [if_neg c4]
      have c4' : (24 : Int) ≤ (n : Int) := by omega
      refine w_eq ?_
      (refine fn_wv moment_of_eq ?_; unfold moment_of_0 moment_of_1 moment_of_3 moment_of_2B moment_of_2T moment_of_2B0)
      ((walk_at "vc"); repeat ((refine w_rw (by first | (simp only [pd, e5, nm, i0, c1, lh, c2, sf, c3, iD, c4']; done) | (simp only [pd, e5, nm, i0, c1, lh, c2, sf, c3, iD, c4']; rfl)) ?_); (walk_at "vc")))
      exact ⟨rfl, rfl⟩
theorem dig1 : ∀ a ∈ List.range 10, (zeroB ⟨#[48 + a]⟩ || decide ((toString ((PySem.NumText.digitsVal [48 + a] : Nat) : Int) : Str) = ⟨#[48 + a]⟩)) = true := by decide +kernel
theorem dig2 : ∀ a ∈ List.range 10, ∀ b ∈ List.range 10, (zeroB ⟨#[48 + a, 48 + b]⟩ || decide ((toString ((PySem.NumText.digitsVal [48 + a, 48 + b] : Nat) : Int) : Str) = ⟨#[48 + a, 48 + b]⟩)) = true := by decide +kernel
theorem dig3 : ∀ a ∈ List.range 10, ∀ b ∈ List.range 10, ∀ c ∈ List.range 10, (zeroB ⟨#[48 + a, 48 + b, 48 + c]⟩ || decide ((toString ((PySem.NumText.digitsVal [48 + a, 48 + b, 48 + c] : Nat) : Int) : Str) = ⟨#[48 + a, 48 + b, 48 + c]⟩)) = true := by decide +kernel
theorem len9 : ∀ k ∈ List.range 10, (toString ((k : Nat) : Int) : Str).length ≤ (toString (9 : Int) : Str).length := by decide +kernel
theorem len99 : ∀ k ∈ List.range 100, (toString ((k : Nat) : Int) : Str).length ≤ (toString (99 : Int) : Str).length := by decide +kernel
theorem len399 : ∀ k ∈ List.range 400, (toString ((k : Nat) : Int) : Str).length ≤ (toString (399 : Int) : Str).length := by decide +kernel
theorem len_hi : (toString (9 : Int) : Str).length = 1 ∧ (toString (99 : Int) : Str).length = 2 ∧ (toString (399 : Int) : Str).length = 3 := by decide +kernel
theorem canon {s : Str} {n : Int} (dg : digB s = true) (h1 : 1 ≤ s.length) (h3 : s.length ≤ 3) (hz : zeroB s = false) (hn : PySem.intText? s = some n) : (toString n : Str) = s := by
  have ad := dig_all dg
  have e : PySem.intText? s = some ((PySem.NumText.digitsVal s.cps.toList : Nat) : Int) := PySem.intText_digits ad (fun e => by rw [len_list, e] at h1; simp at h1) (by omega)
  rw [hn] at e
  cases e
  obtain ⟨⟨l⟩⟩ := s
  have h1 : 1 ≤ l.length := h1
  have h3 : l.length ≤ 3 := h3
  have ad : ∀ c ∈ l, 48 ≤ c ∧ c ≤ 57 := ad
  match l, h1, h3 with
  | [a], _, _ =>
    have ha := ad a (by simp)
    obtain ⟨x, rfl⟩ : ∃ x, a = 48 + x := ⟨a - 48, by omega⟩
    have := dig1 x (List.mem_range.mpr (by omega))
    rw [hz] at this
    exact of_decide_eq_true this
  | [a, b], _, _ =>
    have ha := ad a (by simp)
    have hb := ad b (by simp)
    obtain ⟨x, rfl⟩ : ∃ x, a = 48 + x := ⟨a - 48, by omega⟩
    obtain ⟨y, rfl⟩ : ∃ x, b = 48 + x := ⟨b - 48, by omega⟩
    have := dig2 x (List.mem_range.mpr (by omega)) y (List.mem_range.mpr (by omega))
    rw [hz] at this
    exact of_decide_eq_true this
  | [a, b, c], _, _ =>
    have ha := ad a (by simp)
    have hb := ad b (by simp)
    have hc := ad c (by simp)
    obtain ⟨x, rfl⟩ : ∃ x, a = 48 + x := ⟨a - 48, by omega⟩
    obtain ⟨y, rfl⟩ : ∃ x, b = 48 + x := ⟨b - 48, by omega⟩
    obtain ⟨z, rfl⟩ : ∃ x, c = 48 + x := ⟨c - 48, by omega⟩
    have := dig3 x (List.mem_range.mpr (by omega)) y (List.mem_range.mpr (by omega)) z (List.mem_range.mpr (by omega))
    rw [hz] at this
    exact of_decide_eq_true this
/-- the law's own number is the same one -/
theorem num_law {s : Str} {lo hi n : Int} (hh : hi = 9 ∨ hi = 99 ∨ hi = 399) (l0 : 0 ≤ lo) (dg : digB s = true) (h1 : 1 ≤ s.length) (hn : PySem.intText? s = some n) :
    numOf s lo hi = if (toString n : Str) = s ∧ lo ≤ n ∧ n ≤ hi then some n else none := by
  obtain ⟨e9, e99, e399⟩ := len_hi
  by_cases c : (toString n : Str) = s ∧ lo ≤ n ∧ n ≤ hi
  · obtain ⟨c1, c2, c3⟩ := c
    obtain ⟨k, rfl⟩ := Int.eq_ofNat_of_zero_le (show 0 ≤ n by omega)
    have ls : s.length ≤ (toString hi : Str).length := by
      rw [← c1]
      rcases hh with rfl | rfl | rfl
      · exact len9 k (List.mem_range.mpr (by omega))
      · exact len99 k (List.mem_range.mpr (by omega))
      · exact len399 k (List.mem_range.mpr (by omega))
    have z : zeroB s = false := by
      have D := day_all k (List.mem_range.mpr (by omega))
      simp only [Bool.and_eq_true, Bool.not_eq_true'] at D
      rw [← c1]
      exact D.1.1.1.2
    rw [numOf_yes (by omega) (by omega) dg z hn, if_pos ⟨c2, c3⟩, if_pos ⟨c1, c2, c3⟩]
  · rw [if_neg c]
    by_cases ls : s.length ≤ (toString hi : Str).length
    · cases z : zeroB s with
      | true => exact numOf_no fun w => by rw [z] at w; cases w.2.2.2
      | false =>
        have h3 : s.length ≤ 3 := by rcases hh with rfl | rfl | rfl <;> omega
        have cs := canon dg h1 h3 z hn
        rw [numOf_yes (by omega) (by omega) dg z hn, if_neg (fun w => c ⟨cs, w⟩)]
    · exact numOf_no fun w => ls (by omega)
theorem val4 {s : Str} {n : Int} (dg : digB s = true) (h1 : 1 ≤ s.length) (h4 : s.length ≤ 4) (hn : PySem.intText? s = some n) : 0 ≤ n ∧ n < 10000 := by
  have ad := dig_all dg
  have e : PySem.intText? s = some ((PySem.NumText.digitsVal s.cps.toList : Nat) : Int) := PySem.intText_digits ad (fun e => by rw [len_list, e] at h1; simp at h1) (by omega)
  rw [hn] at e
  cases e
  obtain ⟨⟨l⟩⟩ := s
  have h1 : 1 ≤ l.length := h1
  have h4 : l.length ≤ 4 := h4
  have ad : ∀ c ∈ l, 48 ≤ c ∧ c ≤ 57 := ad
  show 0 ≤ ((PySem.NumText.digitsVal l : Nat) : Int) ∧ ((PySem.NumText.digitsVal l : Nat) : Int) < 10000
  match l, h1, h4 with
  | [a], _, _ =>
    have ha := ad a (by simp)
    simp only [PySem.NumText.digitsVal, List.foldl_cons, List.foldl_nil]
    omega
  | [a, b], _, _ =>
    have ha := ad a (by simp)
    have hb := ad b (by simp)
    simp only [PySem.NumText.digitsVal, List.foldl_cons, List.foldl_nil]
    omega
  | [a, b, c], _, _ =>
    have ha := ad a (by simp)
    have hb := ad b (by simp)
    have hc := ad c (by simp)
    simp only [PySem.NumText.digitsVal, List.foldl_cons, List.foldl_nil]
    omega
  | [a, b, c, d], _, _ =>
    have ha := ad a (by simp)
    have hb := ad b (by simp)
    have hc := ad c (by simp)
    have hd := ad d (by simp)
    simp only [PySem.NumText.digitsVal, List.foldl_cons, List.foldl_nil]
    omega
theorem cps_len (s : Str) : s.cps.toList.length = s.length := by rw [← len_list]
noncomputable def law_number_0TL0 : M D :=
    (frz (xOp inD (xBor 4) (xC (.str "0123456789"))))
noncomputable def law_number_0T : M Bool :=
    (bOr (toB (xOp ltD (xUn lenD (xRd 0)) (xC (.int 1)))) (bOr (toB (xOp gtD (xUn lenD (xRd 0)) (xC (.int 4)))) (bNot (toB (xUn allD (xLc [4] (mSeq (frz (xVar 0))) (gN 4) (ret true) law_number_0TL0))))))
noncomputable def law_number_0B0 : M Fl :=
    (sRet (xC .non))
noncomputable def law_number_0B : M Fl :=
    law_number_0B0
noncomputable def law_number_1 : M Fl :=
    (sAsg 3 (xUn intD (xRd 0)))
noncomputable def law_number_2 : M Fl :=
    (sRet (xIf (bAnd (toB (xOp eqD (xUn strD (xRd 3)) (xRd 0))) (toB (xChain leD leD (xBor 1) (xBor 3) (xRd 2)))) (xVar 3) (xC .non)))
theorem law_number_eq : m_law_number = fnM 5
    (sSeq (sIf law_number_0T law_number_0B sNil) (sSeq law_number_1 law_number_2)) := rfl
set_option maxHeartbeats 1000000 in
theorem lnum_ok {s : Str} {lo hi : Int} {mu : List O} (hl : s.length ≤ 16777216) (hh : hi = 9 ∨ hi = 99 ∨ hi = 399) (l0 : 0 ≤ lo) : m_law_number [.str s, .int lo, .int hi] mu = .ok (.fz (optD (numOf s lo hi))) ⟨[], mu⟩ := by
  have ll : lenD (.str s) = some (.fz (.int (s.length : Int))) := by rw [st_lens, if_pos hl]
  by_cases a1 : (s.length : Int) < 1
  · rw [numOf_no fun z => by omega]
    refine w_eq ?_
    (refine fn_wv law_number_eq ?_; unfold law_number_1 law_number_2 law_number_0B law_number_0T law_number_0B0)
    ((walk_at "vc"); repeat ((refine w_rw (by first | (simp only [ll, a1]; done) | (simp only [ll, a1]; rfl)) ?_); (walk_at "vc")))
    exact ⟨rfl, rfl⟩
  by_cases a2 : (4 : Int) < (s.length : Int)
  · have e := len_hi
    rw [numOf_no fun z => by
      have := z.2.1
      rcases hh with rfl | rfl | rfl <;> omega]
    refine w_eq ?_
    (refine fn_wv law_number_eq ?_; unfold law_number_1 law_number_2 law_number_0B law_number_0T law_number_0B0)
    ((walk_at "vc"); repeat ((refine w_rw (by first | (simp only [ll, a1, a2]; done) | (simp only [ll, a1, a2]; rfl)) ?_); (walk_at "vc")))
    exact ⟨rfl, rfl⟩
  have cl : (s.cps.toList.map fun c => D.str ⟨#[c]⟩).length ≤ 16777216 := by rw [List.length_map, cps_len]; omega
  have al : allD (.lst (s.cps.toList.map fun c => D.bl (decide (c ∈ figT.cps.toList)))) = some (.fz (.bl (s.cps.toList.all fun c => decide (c ∈ figT.cps.toList)))) := all_mapD s.cps.toList _
  have ic : ∀ c : Nat, inD (.str ⟨#[c]⟩) (.str "0123456789") = some (.fz (.bl (decide (c ∈ figT.cps.toList)))) := fun c => rfl
  have db : (s.cps.toList.all fun c => decide (c ∈ figT.cps.toList)) = digB s := rfl
  rw [db] at al
  obtain ⟨CS, hCS⟩ : ∃ CS, s.cps.toList = CS := ⟨_, rfl⟩
  have sq : seqI (.str s) = some (CS.map fun c => D.str ⟨#[c]⟩) := by rw [← hCS]; rfl
  rw [hCS] at al cl
  refine w_eq ?_
  (refine fn_wv law_number_eq ?_; unfold law_number_1 law_number_2 law_number_0B law_number_0T law_number_0B0)
  ((walk_at "vc"); repeat ((refine w_rw (by first | (simp only [ll, a1, a2, sq, cl]; done) | (simp only [ll, a1, a2, sq, cl]; rfl)) ?_); (walk_at "vc")))
  refine w_lcx (enc := fun c : Nat => D.str ⟨#[c]⟩) (fun c => D.bl (decide (c ∈ figT.cps.toList))) (fun c hc => ?_) ?_
  · have i := ic c
    refine ⟨_, rfl, ?_⟩
    unfold law_number_0TL0
    generalize (⟨#[c]⟩ : Str) = C at *
    generalize decide (c ∈ figT.cps.toList) = B at *
    ((walk_at "vc"); repeat ((refine w_rw (by first | (simp only [i]; done) | (simp only [i]; rfl)) ?_); (walk_at "vc")))
    exact ⟨rfl, rfl, rfl, rfl⟩
  generalize (CS.map fun c => D.bl (decide (c ∈ figT.cps.toList))) = BL at *
  cases dg : digB s with
  | false =>
    rw [dg] at al
    rw [numOf_no fun z => by rw [dg] at z; cases z.2.2.1]
    ((walk_at "vc"); repeat ((refine w_rw (by first | (simp only [al]; done) | (simp only [al]; rfl)) ?_); (walk_at "vc")))
    exact ⟨rfl, rfl⟩
  | true =>
    rw [dg] at al
    obtain ⟨n, hn⟩ := dig_int dg (by omega) (by omega)
    have v4 := val4 dg (by omega) (by omega) hn
    have iD : intD (.str s) = some (.fz (.int (n : Int))) := by
      show (if s.length ≤ 640 then (PySem.intText? s).map fun n => O.fz (.int n) else none) = _
      rw [if_pos (by omega), hn]; rfl
    have lg := log_small (i := (n : Int)) v4.1 (by omega)
    rw [num_law hh l0 dg (by omega) hn]
    by_cases c1 : (toString (n : Int) : Str) = s
    · have c1' := decide_eq_true c1
      by_cases c2 : lo ≤ (n : Int)
      · by_cases c3 : (n : Int) ≤ hi
        · rw [if_pos ⟨c1, c2, c3⟩]
          ((walk_at "vc"); repeat ((refine w_rw (by first | (simp only [al, iD, lg, c1', c2, c3]; done) | (simp only [al, iD, lg, c1', c2, c3]; rfl)) ?_); (walk_at "vc")))
          exact ⟨rfl, rfl⟩
        · rw [if_neg fun z => c3 z.2.2]
          ((walk_at "vc"); repeat ((refine w_rw (by first | (simp only [al, iD, lg, c1', c2, c3]; done) | (simp only [al, iD, lg, c1', c2, c3]; rfl)) ?_); (walk_at "vc")))
          exact ⟨rfl, rfl⟩
      · rw [if_neg fun z => c2 z.2.1]
        ((walk_at "vc"); repeat ((refine w_rw (by first | (simp only [al, iD, lg, c1', c2]; done) | (simp only [al, iD, lg, c1', c2]; rfl)) ?_); (walk_at "vc")))
        exact ⟨rfl, rfl⟩
    · rw [if_neg fun z => c1 z.1]
      ((walk_at "vc"); repeat ((refine w_rw (by first | (simp only [al, iD, lg, c1]; done) | (simp only [al, iD, lg, c1]; rfl)) ?_); (walk_at "vc")))
      exact ⟨rfl, rfl⟩
theorem numOf_dig {s : Str} {lo hi n : Int} (h : numOf s lo hi = some n) : digB s = true := by
  cases e : digB s with
  | true => rfl
  | false =>
    rw [numOf_no fun z => by rw [e] at z; cases z.2.2.1] at h
    cases h
theorem mom_law {s : Str} : momOf s = if 4 ≤ s.length ∧ s.cps.toList[s.length - 3]? = some 46 ∧ digB (cutS s (some (-2)) none) = true then
    (match numOf (cutS s none (some (-3))) 0 399 with
      | none => none
      | some d => match PySem.intText? (cutS s (some (-2)) none) with
        | some h => if h < 24 then some (d * 24 + h) else none
        | none => none) else none := by
  by_cases c : 4 ≤ s.length ∧ s.cps.toList[s.length - 3]? = some 46 ∧ digB (cutS s (some (-2)) none) = true
  · rw [if_pos c]
    obtain ⟨c1, c2, c3⟩ := c
    have hl : (cutS s (some (-2)) none).length = 2 := by
      have := cut_from_neg (s := s) (k := 2) (by decide) (by omega)
      rw [len_list, show (-2 : Int) = -((2 : Nat) : Int) from rfl, this, List.length_drop, ← len_list]; omega
    cases hd : numOf (cutS s none (some (-3))) 0 399 with
    | none =>
      dsimp only
      cases e : momOf s with
      | none => rfl
      | some m =>
        obtain ⟨_, _, _, d4, _⟩ := mom_some e
        have hp := mom_part c1 c2 d4
        unfold momOf at e
        rw [hp] at e
        dsimp only at e
        rw [hd] at e
        cases e
    | some d =>
      have hp := mom_part c1 c2 (numOf_dig hd)
      unfold momOf
      rw [hp]
      dsimp only
      rw [hd]
      dsimp only
      rw [if_neg (fun z => z.elim (fun z => absurd z (by decide)) fun z => z.elim (fun z => z hl) fun z => by rw [c3] at z; cases z)]
      try rfl
  · rw [if_neg c]
    cases e : momOf s with
    | none => rfl
    | some m =>
      obtain ⟨d1, _, d3, _, d5⟩ := mom_some e
      exact absurd ⟨d1, d3, d5⟩ c
noncomputable def law_moment_of_0 : M Fl :=
    (sPar 2 3 (oCons (xSl (xBor 0) (ret none) (mPart (xUn negD (xC (.int 3))))) (oCons (xSl (xBor 0) (mPart (xUn negD (xC (.int 2)))) (ret none)) oNil)))
noncomputable def law_moment_of_1TL0 : M D :=
    (frz (xOp inD (xBor 4) (xC (.str "0123456789"))))
noncomputable def law_moment_of_1T : M Bool :=
    (bOr (toB (xOp ltD (xUn lenD (xRd 0)) (xC (.int 4)))) (bOr (toB (xOp neD (xOp ixD (xBor 0) (xUn negD (xC (.int 3)))) (xC (.str ".")))) (bOr (bNot (toB (xUn allD (xLc [4] (mSeq (frz (xVar 3))) (gN 4) (ret true) law_moment_of_1TL0)))) (toB (xOp gtD (xUn intD (xRd 3)) (xC (.int 23)))))))
noncomputable def law_moment_of_1B0 : M Fl :=
    (sRet (xC .non))
noncomputable def law_moment_of_1B : M Fl :=
    law_moment_of_1B0
noncomputable def law_moment_of_2 : M Fl :=
    (sAsg 1 (xCall m_law_number (fun ds _ => ds) 3 (nK []) (aCons (frz (xVar 2)) (aCons (frz (xC (.int 0))) (aCons (frz (xC (.int 399))) aNil))) aNil))
noncomputable def law_moment_of_3 : M Fl :=
    (sRet (xIf (toB (xOp isD (xBor 1) (xC .non))) (xC .non) (xOp addD (xOp mulD (xC (.int 24)) (xRd 1)) (xUn intD (xRd 3)))))
theorem law_moment_of_eq : m_law_moment_of = fnM 5
    (sSeq law_moment_of_0 (sSeq (sIf law_moment_of_1T law_moment_of_1B sNil) (sSeq law_moment_of_2 law_moment_of_3))) := rfl
set_option maxHeartbeats 1000000 in
theorem lmom_ok {s : Str} {mu : List O} (hl : s.length ≤ 16777216) : m_law_moment_of [.str s] mu = .ok (.fz (optD (momOf s))) ⟨[], mu⟩ := by
  have ll : lenD (.str s) = some (.fz (.int (s.length : Int))) := by rw [st_lens, if_pos hl]
  have s1 : slD (.str s) none (some (-3)) = some (.fz (.str (cutS s none (some (-3))))) := if_pos hl
  have s2 : slD (.str s) (some (-2)) none = some (.fz (.str (cutS s (some (-2)) none))) := if_pos hl
  have dl : (cutS s none (some (-3))).length ≤ 16777216 := Nat.le_trans (cutS_length s _ _) hl
  have hol : (cutS s (some (-2)) none).length ≤ 16777216 := Nat.le_trans (cutS_length s _ _) hl
  have nm := fun env => run_ok (env := env) (lnum_ok (s := cutS s none (some (-3))) (lo := 0) (hi := 399) (mu := mu) dl (.inr (.inr rfl)) (by decide))
  rw [mom_law]
  by_cases a1 : (s.length : Int) < 4
  · rw [if_neg fun z => by omega]
    generalize cutS s none (some (-3)) = DA at *
    generalize cutS s (some (-2)) none = HO at *
    refine w_eq ?_
    (refine fn_wv law_moment_of_eq ?_; unfold law_moment_of_0 law_moment_of_2 law_moment_of_3 law_moment_of_1B law_moment_of_1T law_moment_of_1B0)
    ((walk_at "vc"); repeat ((refine w_rw (by first | (simp only [s1, s2, ll, a1]; done) | (simp only [s1, s2, ll, a1]; rfl)) ?_); (walk_at "vc")))
    exact ⟨rfl, rfl⟩
  have hol2 : (cutS s (some (-2)) none).length = 2 := by
    have := cut_from_neg (s := s) (k := 2) (by decide) (by omega)
    rw [len_list, show (-2 : Int) = -((2 : Nat) : Int) from rfl, this, List.length_drop, ← len_list]; omega
  have at3 : ∃ c, s.cps.toList[s.length - 3]? = some c := by
    rw [List.getElem?_eq_getElem (by rw [← len_list]; omega)]
    exact ⟨_, rfl⟩
  obtain ⟨c, hc⟩ := at3
  have ai : atI s.cps.toList (-3) = some c := by
    have := atI_neg (xs := s.cps.toList) (k := 3) (by decide) (by rw [← len_list]; omega)
    rw [show (-3 : Int) = -((3 : Nat) : Int) from rfl, this, ← len_list]
    exact hc
  rw [hc]
  generalize cutS s none (some (-3)) = DA at *
  generalize cutS s (some (-2)) none = HO at *
  have c4 : 4 ≤ s.length := by omega
  refine w_eq ?_
  (refine fn_wv law_moment_of_eq ?_; unfold law_moment_of_0 law_moment_of_2 law_moment_of_3 law_moment_of_1B law_moment_of_1T law_moment_of_1B0)
  by_cases a2 : (⟨#[c]⟩ : Str) = "."
  case neg =>
    have a2' : ¬ c = 46 := fun e => a2 (by rw [e]; rfl)
    rw [if_neg fun z => a2' (by have := z.2.1; cases this; rfl)]
    ((walk_at "vc"); repeat ((refine w_rw (by first | (simp only [s1, s2, ll, a1, ai, a2]; done) | (simp only [s1, s2, ll, a1, ai, a2]; rfl)) ?_); (walk_at "vc")))
    exact ⟨rfl, rfl⟩
  have a2' : c = 46 := by
    have : (⟨#[c]⟩ : Str) = ⟨#[46]⟩ := a2
    exact one_eq.mp this
  have cl : (HO.cps.toList.map fun c => D.str ⟨#[c]⟩).length ≤ 16777216 := by rw [List.length_map, cps_len]; omega
  have al : allD (.lst (HO.cps.toList.map fun c => D.bl (decide (c ∈ figT.cps.toList)))) = some (.fz (.bl (HO.cps.toList.all fun c => decide (c ∈ figT.cps.toList)))) := all_mapD HO.cps.toList _
  have ic : ∀ c : Nat, inD (.str ⟨#[c]⟩) (.str "0123456789") = some (.fz (.bl (decide (c ∈ figT.cps.toList)))) := fun c => rfl
  have db : (HO.cps.toList.all fun c => decide (c ∈ figT.cps.toList)) = digB HO := rfl
  rw [db] at al
  obtain ⟨CS, hCS⟩ : ∃ CS, HO.cps.toList = CS := ⟨_, rfl⟩
  have sq : seqI (.str HO) = some (CS.map fun c => D.str ⟨#[c]⟩) := by rw [← hCS]; rfl
  rw [hCS] at al cl
  ((walk_at "vc"); repeat ((refine w_rw (by first | (simp only [s1, s2, ll, a1, ai, a2, sq, cl]; done) | (simp only [s1, s2, ll, a1, ai, a2, sq, cl]; rfl)) ?_); (walk_at "vc")))
  refine w_lcx (enc := fun c : Nat => D.str ⟨#[c]⟩) (fun c => D.bl (decide (c ∈ figT.cps.toList))) (fun c hc => ?_) ?_
  · have i := ic c
    refine ⟨_, rfl, ?_⟩
    unfold law_moment_of_1TL0
    generalize (⟨#[c]⟩ : Str) = C at *
    generalize decide (c ∈ figT.cps.toList) = B at *
    ((walk_at "vc"); repeat ((refine w_rw (by first | (simp only [i]; done) | (simp only [i]; rfl)) ?_); (walk_at "vc")))
    exact ⟨rfl, rfl, rfl, rfl⟩
  generalize (CS.map fun c => D.bl (decide (c ∈ figT.cps.toList))) = BL at *
  cases dg : digB HO with
  | false =>
    rw [dg] at al
    rw [if_neg fun z => by cases z.2.2]
    ((walk_at "vc"); repeat ((refine w_rw (by first | (simp only [al]; done) | (simp only [al]; rfl)) ?_); (walk_at "vc")))
    exact ⟨rfl, rfl⟩
  | true =>
    rw [dg] at al
    obtain ⟨n, hn⟩ := dig_int dg (by omega) (by omega)
    have iD : intD (.str HO) = some (.fz (.int (n : Int))) := by
      show (if HO.length ≤ 640 then (PySem.intText? HO).map fun n => O.fz (.int n) else none) = _
      rw [if_pos (by omega), hn]; rfl
    rw [if_pos ⟨c4, by rw [a2'], rfl⟩, hn]
    by_cases c5 : (n : Int) < 24
    · have c5' : ¬ (23 : Int) < (n : Int) := by omega
      cases hd : numOf DA 0 399 with
      | none =>
        rw [hd] at nm
        have nm : ∀ env, runF m_law_number [.str DA, .int 0, .int 399] ⟨env, mu⟩ = .ok (.fz .non) ⟨env, mu⟩ := nm
        ((walk_at "vc"); repeat ((refine w_rw (by first | (simp only [al, iD, c5', nm]; done) | (simp only [al, iD, c5', nm]; rfl)) ?_); (walk_at "vc")))
        exact ⟨rfl, rfl⟩
      | some d =>
        have dle := numOf_le hd
        rw [hd] at nm
        have nm : ∀ env, runF m_law_number [.str DA, .int 0, .int 399] ⟨env, mu⟩ = .ok (.fz (.int d)) ⟨env, mu⟩ := nm
        have i0 : isD (.int d) .non = some (.fz (.bl false)) := rfl
        have mk : mulOkB 24 d = true := mulL (by decide) (by decide)
        dsimp only
        rw [if_pos c5]
        ((walk_at "vc"); repeat ((refine w_rw (by first | (simp only [al, iD, c5', nm, i0, mk]; done) | (simp only [al, iD, c5', nm, i0, mk]; rfl)) ?_); (walk_at "vc")))
        exact ⟨by show _ = O.fz (D.int (d * 24 + (n : Int))); rw [Int.mul_comm d 24], rfl⟩
    · have c5' : (23 : Int) < (n : Int) := by omega
      have e : (match numOf DA 0 399 with
        | none => none
        | some d => if (n : Int) < 24 then some (d * 24 + (n : Int)) else none) = (none : Option Int) := by
        cases numOf DA 0 399 with
        | none => rfl
        | some d => exact if_neg c5
      dsimp only
      rw [e]
      ((walk_at "vc"); repeat ((refine w_rw (by first | (simp only [al, iD, c5']; done) | (simp only [al, iD, c5']; rfl)) ?_); (walk_at "vc")))
      exact ⟨rfl, rfl⟩
noncomputable def law_is_name_0 : M Fl :=
    (sAsg 1 (xLst (aCons (frz (xC (.str "pin"))) (aCons (frz (xC (.str "again"))) (aCons (frz (xC (.str "move"))) (aCons (frz (xC (.str "take"))) (aCons (frz (xC (.str "tear"))) (aCons (frz (xC (.str "at"))) (aCons (frz (xC (.str "to"))) (aCons (frz (xC (.str "until"))) (aCons (frz (xC (.str "strips"))) (aCons (frz (xC (.str "known"))) aNil))))))))))))
noncomputable def law_is_name_1T : M Bool :=
    (bOr (toB (xOp ltD (xUn lenD (xRd 0)) (xC (.int 1)))) (bOr (toB (xOp gtD (xUn lenD (xRd 0)) (xC (.int 8)))) (toB (xOp inD (xBor 0) (xRd 1)))))
noncomputable def law_is_name_1B0 : M Fl :=
    (sRet (xC (.bl false)))
noncomputable def law_is_name_1B : M Fl :=
    law_is_name_1B0
noncomputable def law_is_name_2L0 : M D :=
    (frz (xOp inD (xBor 2) (xC (.str "abcdefghijklmnopqrstuvwxyz"))))
noncomputable def law_is_name_2 : M Fl :=
    (sRet (xUn allD (xLc [2] (mSeq (frz (xVar 0))) (gN 2) (ret true) law_is_name_2L0)))
theorem law_is_name_eq : m_law_is_name = fnM 3
    (sSeq law_is_name_0 (sSeq (sIf law_is_name_1T law_is_name_1B sNil) law_is_name_2)) := rfl
set_option maxHeartbeats 1000000 in
theorem lname_ok {s : Str} {mu : List O} (hl : s.length ≤ 10000000) : m_law_is_name [.str s] mu = .ok (.fz (.bl (nameS s))) ⟨[], mu⟩ := by
  have ll : lenD (.str s) = some (.fz (.int (s.length : Int))) := by rw [st_lens, if_pos (by omega)]
  have ik : inD (.str s) (.lst [(.str "pin"), (.str "again"), (.str "move"), (.str "take"), (.str "tear"), (.str "at"), (.str "to"), (.str "until"), (.str "strips"), (.str "known")]) = some (.fz (.bl (decide (s ∈ keptT)))) := by
    unfold inD
    rw [inK (l := keptT) rfl]; rfl
  by_cases a1 : (s.length : Int) < 1
  · have : nameS s = false := by unfold nameS; rw [decide_eq_false (by omega)]; rfl
    rw [this]
    refine w_eq ?_
    (refine fn_wv law_is_name_eq ?_; unfold law_is_name_0 law_is_name_2 law_is_name_1B law_is_name_1T law_is_name_1B0)
    ((walk_at "vc"); repeat ((refine w_rw (by first | (simp only [ll, a1]; done) | (simp only [ll, a1]; rfl)) ?_); (walk_at "vc")))
    exact ⟨rfl, rfl⟩
  by_cases a2 : (8 : Int) < (s.length : Int)
  · have : nameS s = false := by unfold nameS; rw [decide_eq_false (show ¬ s.length ≤ 8 by omega)]; simp
    rw [this]
    refine w_eq ?_
    (refine fn_wv law_is_name_eq ?_; unfold law_is_name_0 law_is_name_2 law_is_name_1B law_is_name_1T law_is_name_1B0)
    ((walk_at "vc"); repeat ((refine w_rw (by first | (simp only [ll, a1, a2]; done) | (simp only [ll, a1, a2]; rfl)) ?_); (walk_at "vc")))
    exact ⟨rfl, rfl⟩
  by_cases a3 : s ∈ keptT
  · have : nameS s = false := by unfold nameS; rw [decide_eq_false (show ¬ s ∉ keptT from fun z => z a3)]; simp
    rw [this]
    rw [decide_eq_true a3] at ik
    refine w_eq ?_
    (refine fn_wv law_is_name_eq ?_; unfold law_is_name_0 law_is_name_2 law_is_name_1B law_is_name_1T law_is_name_1B0)
    ((walk_at "vc"); repeat ((refine w_rw (by first | (simp only [ll, a1, a2, ik]; done) | (simp only [ll, a1, a2, ik]; rfl)) ?_); (walk_at "vc")))
    exact ⟨rfl, rfl⟩
  rw [decide_eq_false a3] at ik
  have cl : (s.cps.toList.map fun c => D.str ⟨#[c]⟩).length ≤ 16777216 := by rw [List.length_map, cps_len]; omega
  have al : allD (.lst (s.cps.toList.map fun c => D.bl (decide (c ∈ lettersT.cps.toList)))) = some (.fz (.bl (s.cps.toList.all fun c => decide (c ∈ lettersT.cps.toList)))) := all_mapD s.cps.toList _
  have ic : ∀ c : Nat, inD (.str ⟨#[c]⟩) (.str "abcdefghijklmnopqrstuvwxyz") = some (.fz (.bl (decide (c ∈ lettersT.cps.toList)))) := fun c => rfl
  have val : nameS s = s.cps.toList.all fun c => decide (c ∈ lettersT.cps.toList) := by
    unfold nameS
    rw [decide_eq_true (show 1 ≤ s.length by omega), decide_eq_true (show s.length ≤ 8 by omega), decide_eq_true a3]
    simp
  rw [val]
  obtain ⟨CS, hCS⟩ : ∃ CS, s.cps.toList = CS := ⟨_, rfl⟩
  have sq : seqI (.str s) = some (CS.map fun c => D.str ⟨#[c]⟩) := by rw [← hCS]; rfl
  rw [hCS] at al cl ⊢
  refine w_eq ?_
  (refine fn_wv law_is_name_eq ?_; unfold law_is_name_0 law_is_name_2 law_is_name_1B law_is_name_1T law_is_name_1B0)
  ((walk_at "vc"); repeat ((refine w_rw (by first | (simp only [ll, a1, a2, ik, sq, cl]; done) | (simp only [ll, a1, a2, ik, sq, cl]; rfl)) ?_); (walk_at "vc")))
  refine w_lcx (enc := fun c : Nat => D.str ⟨#[c]⟩) (fun c => D.bl (decide (c ∈ lettersT.cps.toList))) (fun c hc => ?_) ?_
  · have i := ic c
    refine ⟨_, rfl, ?_⟩
    unfold law_is_name_2L0
    generalize (⟨#[c]⟩ : Str) = C at *
    generalize decide (c ∈ lettersT.cps.toList) = B at *
    ((walk_at "vc"); repeat ((refine w_rw (by first | (simp only [i]; done) | (simp only [i]; rfl)) ?_); (walk_at "vc")))
    exact ⟨rfl, rfl, rfl, rfl⟩
  generalize (CS.map fun c => D.bl (decide (c ∈ lettersT.cps.toList))) = BL at *
  ((walk_at "vc"); repeat ((refine w_rw (by first | (simp only [al]; done) | (simp only [al]; rfl)) ?_); (walk_at "vc")))
  exact ⟨rfl, rfl⟩
noncomputable def sizes_of_0 : M Fl :=
    (sAsg 4 (xM1 splitD (xBor 0) (frz (xVar 1))))
noncomputable def sizes_of_1L0 : M D :=
    (frz (xCall m_number_of (fun ds _ => ds) 3 (nK []) (aCons (frz (xVar 6)) (aCons (frz (xVar 2)) (aCons (frz (xVar 3)) aNil))) aNil))
noncomputable def sizes_of_1 : M Fl :=
    (sAsg 5 (xLc [6] (mSeq (frz (xVar 4))) (gN 6) (ret true) sizes_of_1L0))
noncomputable def sizes_of_2T : M Bool :=
    (bOr (toB (xOp neD (xUn lenD (xRd 4)) (xC (.int 2)))) (bOr (toB (xOp isD (xOpQ ixD (xRd 5) (fun _ => some (.int 0))) (xC .non))) (toB (xOp isD (xOpQ ixD (xRd 5) (fun _ => some (.int 1))) (xC .non)))))
noncomputable def sizes_of_2B0 : M Fl :=
    (sRet (xC .non))
noncomputable def sizes_of_2B : M Fl :=
    sizes_of_2B0
noncomputable def sizes_of_3 : M Fl :=
    (sRet (xTup (aCons (frz (xOpQ ixD (xRd 5) (fun _ => some (.int 0)))) (aCons (frz (xOpQ ixD (xRd 5) (fun _ => some (.int 1)))) aNil))))
theorem sizes_of_eq : m_sizes_of = fnM 7
    (sSeq sizes_of_0 (sSeq sizes_of_1 (sSeq (sIf sizes_of_2T sizes_of_2B sNil) sizes_of_3))) := rfl
/-- the two numbers of a word with an x between -/
def sizesR (ps : List Str) : Option (Int × Int) := match ps with
  | [a, b] => (match numOf a 1 9, numOf b 1 9 with
    | some m, some n => some (m, n)
    | _, _ => none)
  | _ => none
def sizesD : Option (Int × Int) → D
  | none => .non
  | some (m, n) => .tup [.int m, .int n]
/-! ### texts parted -/
/-- a text not too long, of plain signs -/
structure SmT (s : Str) (n : Nat) : Prop where
  len : s.length ≤ n
  chr : ∀ c ∈ s.cps.toList, c < 128
theorem SmT.mono {s : Str} {n m : Nat} (h : SmT s n) (e : n ≤ m) : SmT s m := ⟨Nat.le_trans h.len e, h.chr⟩
theorem SmT.cut {s : Str} {n : Nat} (h : SmT s n) (lo hi : Option Int) : SmT (cutS s lo hi) n := ⟨Nat.le_trans (cutS_length s lo hi) h.len, fun c hc => h.chr c (by
  unfold cutS at hc
  have hc : c ∈ ((s.cps.toList.drop (HT.sIx s.length 0 lo)).take (HT.sIx s.length s.length hi - HT.sIx s.length 0 lo)) := by simpa using hc
  exact List.mem_of_mem_drop (List.mem_of_mem_take hc))⟩
theorem SmT.app {s t : Str} {n m : Nat} (hs : SmT s n) (ht : SmT t m) : SmT (s ++ t) (n + m) := ⟨by rw [strLen_append]; have := hs.len; have := ht.len; omega, fun c hc => by
  have hc : c ∈ (s.cps ++ t.cps).toList := hc
  rw [Array.toList_append] at hc
  exact (List.mem_append.mp hc).elim (hs.chr c) (ht.chr c)⟩
theorem join_mem {y p : Str} : ∀ {ps : List Str}, p ∈ ps → p.length ≤ (Txt.join y ps).length ∧ ∀ c ∈ p.cps.toList, c ∈ (Txt.join y ps).cps.toList
  | [], h => nomatch h
  | [a], h => by
    rw [List.mem_singleton.mp h, join_one]
    exact ⟨Nat.le_refl _, fun c hc => hc⟩
  | a :: b :: r, h => by
    rw [join_two, strLen_append, strLen_append]
    have e : ∀ c, c ∈ (a ++ (y ++ Txt.join y (b :: r))).cps.toList ↔ c ∈ a.cps.toList ∨ c ∈ y.cps.toList ∨ c ∈ (Txt.join y (b :: r)).cps.toList := fun c => by
      show c ∈ (a.cps ++ (y.cps ++ (Txt.join y (b :: r)).cps)).toList ↔ _
      rw [Array.toList_append, Array.toList_append, List.mem_append, List.mem_append]
    rcases List.mem_cons.mp h with rfl | h
    · exact ⟨by omega, fun c hc => (e c).mpr (.inl hc)⟩
    · obtain ⟨h1, h2⟩ := join_mem (y := y) h
      exact ⟨by omega, fun c hc => (e c).mpr (.inr (.inr (h2 c hc)))⟩
theorem join_sum {y : Str} : ∀ {ps : List Str}, ps ≠ [] → (ps.map (·.length)).sum + (ps.length - 1) * y.length = (Txt.join y ps).length
  | [], h => absurd rfl h
  | [a], _ => by rw [join_one]; simp
  | a :: b :: r, _ => by
    have ih := join_sum (y := y) (ps := b :: r) (by simp)
    rw [join_two, strLen_append, strLen_append, ← ih, List.map_cons, List.sum_cons]
    simp only [List.length_cons, Nat.add_sub_cancel]
    rw [Nat.add_mul (r.length) 1 y.length, Nat.one_mul]
    omega
theorem join_chr {y : Str} (hy : ∀ c ∈ y.cps.toList, c < 128) : ∀ {ps : List Str}, (∀ p ∈ ps, ∀ c ∈ p.cps.toList, c < 128) → ∀ c ∈ (Txt.join y ps).cps.toList, c < 128
  | [], _ => fun c hc => by
    have : (Txt.join y []).cps.toList = [] := rfl
    rw [this] at hc; cases hc
  | [a], h => by rw [join_one]; exact h a List.mem_cons_self
  | a :: b :: r, h => by
    rw [join_two]
    intro c hc
    have hc : c ∈ (a.cps ++ (y.cps ++ (Txt.join y (b :: r)).cps)).toList := hc
    rw [Array.toList_append, Array.toList_append, List.mem_append, List.mem_append] at hc
    rcases hc with z | z | z
    · exact h a List.mem_cons_self c z
    · exact hy c z
    · exact join_chr hy (fun p hp => h p (List.mem_cons_of_mem _ hp)) c z
theorem join_split (x y : Str) : Txt.join y (Txt.split x y) = x := by
  unfold Txt.join
  rw [PySem.StrLaws.glued_eq_join, PySem.StrLaws.join_split]
theorem split_ne (x y : Str) : Txt.split x y ≠ [] := by
  unfold Txt.split
  split
  · exact List.cons_ne_nil _ _
  · split
    · exact List.cons_ne_nil _ _
    · intro z
      have := congrArg List.length z
      rw [PySem.length_partsBetween, List.length_nil] at this
      omega
theorem split_mem {x y p : Str} {n : Nat} (h : p ∈ Txt.split x y) (hx : SmT x n) : SmT p n := by
  have j := join_mem (y := y) h
  rw [join_split] at j
  exact ⟨Nat.le_trans j.1 hx.len, fun c hc => hx.chr c (j.2 c hc)⟩
theorem split_len (x y : Str) : (Txt.split x y).length ≤ x.length + 2 := PyProof.Rows.split_le x y
theorem split_sum (x y : Str) : ((Txt.split x y).map (·.length)).sum + ((Txt.split x y).length - 1) * y.length = x.length := by
  have j := join_sum (y := y) (split_ne x y)
  rw [join_split] at j
  exact j
theorem part_le {x y p : Str} (h : p ∈ Txt.split x y) : p.length ≤ x.length := by
  have j := join_mem (y := y) h
  rw [join_split] at j
  exact j.1
set_option maxHeartbeats 1000000 in
theorem sizes_ok {s : Str} {mu : List O} (hl : s.length ≤ 10000000) : m_sizes_of [.str s, .str "x", .int 1, .int 9] mu = .ok (.fz (sizesD (sizesR (Txt.split s "x")))) ⟨[], mu⟩ := by
  have sp : splitD (.str s) [.str "x"] = some (.lst ((Txt.split s "x").map .str)) := sk_split (by decide) (by omega)
  have pl := fun p (h : p ∈ Txt.split s "x") => part_le h
  have sl := split_len s "x"
  have ne := split_ne s "x"
  generalize Txt.split s "x" = ps at *
  have nm := fun p (h : p ∈ ps) env => run_ok (env := env) (number_ok (s := p) (lo := 1) (hi := 9) (mu := mu) (by have := pl p h; omega) (by decide) (by decide))
  have psl : ((ps.map D.str).length : Int) = (ps.length : Int) := by rw [List.length_map]
  have psl2 : (ps.map D.str).length ≤ 16777216 := by rw [List.length_map]; omega
  obtain ⟨PD, hPD⟩ : ∃ PD, ps.map D.str = PD := ⟨_, rfl⟩
  rw [hPD] at sp psl psl2
  refine w_eq ?_
  (refine fn_wv sizes_of_eq ?_; unfold sizes_of_0 sizes_of_1 sizes_of_3 sizes_of_2B sizes_of_2T sizes_of_2B0)
  ((walk_at "vc"); repeat ((refine w_rw (by first | (simp only [sp, psl2]; done) | (simp only [sp, psl2]; rfl)) ?_); (walk_at "vc")))
  refine w_rw (r' := lcL [6] (gN 6) (Tr.ret true) sizes_of_1L0 (ps.map D.str) _) (by rw [hPD]) ?_
  refine w_lcx (enc := D.str) (fun p => optD (numOf p 1 9)) (fun p hp => ?_) ?_
  · have e1 := nm p hp
    refine ⟨_, rfl, ?_⟩
    unfold sizes_of_1L0
    generalize optD (numOf p 1 9) = N at *
    ((walk_at "vc"); repeat ((refine w_rw (by first | (simp only [e1]; done) | (simp only [e1]; rfl)) ?_); (walk_at "vc")))
    exact ⟨rfl, rfl, rfl, rfl⟩
  by_cases c : (PD.length : Int) = 2
  case neg =>
    have e : sizesR ps = none := by
      unfold sizesR
      split
      · rename_i a b
        exact absurd (by rw [psl]; rfl) c
      · rfl
    rw [e]
    generalize (ps.map fun p => optD (numOf p 1 9)) = ND at *
    ((walk_at "vc"); repeat ((refine w_rw (by first | (simp only [c]; done) | (simp only [c]; rfl)) ?_); (walk_at "vc")))
    exact ⟨rfl, rfl⟩
  obtain ⟨a, b, rfl⟩ : ∃ a b, ps = [a, b] := by
    match ps, (show ps.length = 2 by omega) with
    | [a, b], _ => exact ⟨a, b, rfl⟩
  have nn : isD .non .non = some (.fz (.bl true)) := rfl
  have ni : ∀ i, isD (.int i) .non = some (.fz (.bl false)) := fun _ => rfl
  simp only [List.map_cons, List.map_nil, sizesR]
  cases ha : numOf a 1 9 with
  | none =>
    simp only [optD, sizesD]
    ((walk_at "vc"); repeat ((refine w_rw (by first | (simp only [c, nn]; done) | (simp only [c, nn]; rfl)) ?_); (walk_at "vc")))
    exact ⟨rfl, rfl⟩
  | some m =>
    cases hb : numOf b 1 9 with
    | none =>
      simp only [optD, sizesD]
      ((walk_at "vc"); repeat ((refine w_rw (by first | (simp only [c, nn, ni]; done) | (simp only [c, nn, ni]; rfl)) ?_); (walk_at "vc")))
      exact ⟨rfl, rfl⟩
    | some n =>
      simp only [optD, sizesD]
      ((walk_at "vc"); repeat ((refine w_rw (by first | (simp only [c, nn, ni]; done) | (simp only [c, nn, ni]; rfl)) ?_); (walk_at "vc")))
      exact ⟨rfl, rfl⟩
theorem cut_drop (ds : List D) (a : Nat) : cutD ds (some (a : Int)) none = ds.drop a := by
  unfold cutD
  rw [HT.sIx_none, HT.sIx_nat]
  by_cases h : a ≤ ds.length
  · rw [Nat.min_eq_left h, List.take_of_length_le (by rw [List.length_drop]; omega)]
  · rw [Nat.min_eq_right (by omega), List.drop_of_length_le (Nat.le_refl _), List.drop_of_length_le (by omega), List.take_nil]
/-- what stands behind a word at the front -/
def behR (ws : List Str) (w : Str) : Option Str × List Str := match ws with
  | a :: b :: r => if a = w then (some b, r) else (none, ws)
  | _ => (none, ws)
def optS : Option Str → D
  | none => .non
  | some s => .str s
def lsD (ws : List Str) : D := .lst (ws.map .str)
noncomputable def behind_word_0T : M Bool :=
    (bAnd (toB (xOp gtD (xUn lenD (xRd 0)) (xC (.int 1)))) (toB (xOp eqD (xOpQ ixD (xRd 0) (fun _ => some (.int 0))) (xRd 1))))
noncomputable def behind_word_0B0 : M Fl :=
    (sRet (xTup (aCons (frz (xOpQ ixD (xRd 0) (fun _ => some (.int 1)))) (aCons (frz (xSl (xBor 0) (mPart (xC (.int 2))) (ret none))) aNil))))
noncomputable def behind_word_0B : M Fl :=
    behind_word_0B0
noncomputable def behind_word_1 : M Fl :=
    (sRet (xTup (aCons (frz (xC .non)) (aCons (frz (xVar 0)) aNil))))
theorem behind_word_eq : m_behind_word = fnM 2
    (sSeq (sIf behind_word_0T behind_word_0B sNil) behind_word_1) := rfl
theorem beh_ok {ws : List Str} {w : Str} {mu : List O} (hl : ws.length ≤ 16777216) : m_behind_word [lsD ws, .str w] mu = .ok (.fz (.tup [optS (behR ws w).1, lsD (behR ws w).2])) ⟨[], mu⟩ := by
  unfold lsD
  match ws, hl with
  | [], _ =>
    refine w_eq ?_
    (refine fn_wv behind_word_eq ?_; unfold behind_word_1 behind_word_0B behind_word_0T behind_word_0B0)
    simp only [List.map_nil, behR, optS]
    walk_at "vc"
    exact ⟨rfl, rfl⟩
  | [a], _ =>
    refine w_eq ?_
    (refine fn_wv behind_word_eq ?_; unfold behind_word_1 behind_word_0B behind_word_0T behind_word_0B0)
    simp only [List.map_cons, List.map_nil, behR, optS]
    walk_at "vc"
    exact ⟨rfl, rfl⟩
  | a :: b :: r, hl =>
    have e1 : (1 : Int) < (((a :: b :: r).map D.str).length : Int) := by rw [List.length_map, List.length_cons, List.length_cons]; omega
    have cd : slD (.lst ((a :: b :: r).map D.str)) (some 2) none = some (.lst (r.map D.str)) := by
      show some (O.lst (cutD _ (some ((2 : Nat) : Int)) none)) = _
      rw [cut_drop]; rfl
    have i0 : ixD (.lst ((a :: b :: r).map D.str)) (.int 0) = some (.fz (.str a)) := by rw [st_ixl]; show Option.map _ (atI _ ((0 : Nat) : Int)) = _; rw [atN]; rfl
    have i1 : ixD (.lst ((a :: b :: r).map D.str)) (.int 1) = some (.fz (.str b)) := by rw [st_ixl]; show Option.map _ (atI _ ((1 : Nat) : Int)) = _; rw [atN]; rfl
    by_cases c : a = w
    · have c' := decide_eq_true c
      simp only [behR, if_pos c, optS]
      generalize (a :: b :: r).map D.str = WD at *
      refine w_eq ?_
      (refine fn_wv behind_word_eq ?_; unfold behind_word_1 behind_word_0B behind_word_0T behind_word_0B0)
      ((walk_at "vc"); repeat ((refine w_rw (by first | (simp only [e1, i0, i1, c', cd]; done) | (simp only [e1, i0, i1, c', cd]; rfl)) ?_); (walk_at "vc")))
      exact ⟨rfl, rfl⟩
    · simp only [behR, if_neg c, optS]
      generalize (a :: b :: r).map D.str = WD at *
      refine w_eq ?_
      (refine fn_wv behind_word_eq ?_; unfold behind_word_1 behind_word_0B behind_word_0T behind_word_0B0)
      ((walk_at "vc"); repeat ((refine w_rw (by first | (simp only [e1, i0, i1, c, cd]; done) | (simp only [e1, i0, i1, c, cd]; rfl)) ?_); (walk_at "vc")))
      exact ⟨rfl, rfl⟩
abbrev cardF (s : Str) (w h : Int) (l : D) (t : Int) : List (Str × O) := [("name", .fz (.str s)), ("wide", .fz (.int w)), ("high", .fz (.int h)), ("until", .fz l), ("strips", .fz (.int t))]
abbrev dCard (s : Str) (w h : Int) (l : D) (t : Int) : D := .ins "Card" [("name", .str s), ("wide", .int w), ("high", .int h), ("until", l), ("strips", .int t)]
theorem whole_ok {x a b : Int} {mu : List O} (h0 : a ≤ x) (h1 : x ≤ b) : m_is_whole [.int x, .int a, .int b] mu = .ok (.fz (.bl true)) ⟨[], mu⟩ := by
  have e1 : isiD [.int x, .ty "int"] = some (.fz (.bl true)) := rfl
  have e2 : isiD [.int x, .ty "bool"] = some (.fz (.bl false)) := rfl
  have c2 : ∀ mc : M O, chainK leD leD mc (.fz (.int a)) (.fz (.int x)) = bnd mc fun z => ofO (leD (.int x) z.toD) := fun mc => by
    unfold chainK; rw [st_tdf, st_tdf, st_lei]; simp [h0, asB]
  unfold m_is_whole
  walk_at "stp"
theorem is_name_ok {s : Str} {mu : List O} (h : NameOk s) : m_is_name [.str s] mu = .ok (.fz (.bl true)) ⟨[], mu⟩ := by
  obtain ⟨h1, h2, h3, h4⟩ := h
  have l1 : s.length ≤ 16777216 := by omega
  have i1 : (1 : Int) ≤ (s.length : Int) := by omega
  have i2 : (s.length : Int) ≤ 8 := by omega
  have e1 : isiD [.str s, .ty "str"] = some (.fz (.bl true)) := rfl
  have e2 : stripD (.str s) [.str "abcdefghijklmnopqrstuvwxyz"] = some (.fz (.str "")) := by
    show (if s.length ≤ 16777216 then some (O.fz (D.str (Txt.stripChars s lettersT))) else none) = _
    rw [if_pos l1, (strip_iff s lettersT).mpr h3]
  have e3 : ninD (.str s) (.tuk [(.str "pin"), (.str "again"), (.str "move"), (.str "take"), (.str "tear"), (.str "at"), (.str "to"), (.str "until"), (.str "strips"), (.str "known")]) = some (.fz (.bl true)) := by
    have hm : s ∉ (["pin", "again", "move", "take", "tear", "at", "to", "until", "strips", "known"] : List Str) := h4
    simp only [List.mem_cons, List.not_mem_nil, or_false, not_or] at hm
    obtain ⟨a1, a2, a3, a4, a5, a6, a7, a8, a9, a10⟩ := hm
    simp [ninD, inB, itemsD, flatD, eqF, Ne.symm a1, Ne.symm a2, Ne.symm a3, Ne.symm a4, Ne.symm a5, Ne.symm a6, Ne.symm a7, Ne.symm a8, Ne.symm a9, Ne.symm a10]
  have c1 (g g' : D → D → Option O) (mc : M O) (x y : O) (h : (g x.toD y.toD).bind asB = some true) : chainK g g' mc x y = bnd mc fun z => ofO (g' y.toD z.toD) := by unfold chainK; rw [h]
  have c2 : chainK leD leD (xC (.int 8)) (.fz (.int 1)) (.fz (.int (s.length : Int))) = bnd (xC (.int 8)) fun z => ofO (leD (.int (s.length : Int)) z.toD) := c1 _ _ _ _ _ (by rw [st_tdf, st_tdf, st_lei]; simp [i1, asB])
  unfold m_is_name
  walk_at "stp"
theorem is_moment_ok {x : Int} {mu : List O} (h0 : 0 ≤ x) (h1 : x < 9600) : m_is_moment [.int x] mu = .ok (.fz (.bl true)) ⟨[], mu⟩ := by
  have e1 := fun mu => whole_ok (x := x) (a := 0) (b := 9600 - 1) (mu := mu) h0 (by omega)
  unfold m_is_moment
  walk_at "stp"
theorem init_ok {s : Str} {w h : Int} {l : D} {t : Int} {mu : List O} (k : CardOk s w h l t) : m_Card_init [.str s, .int w, .int h, l, .int t] mu = .ok (.ins "Card" (cardF s w h l t)) ⟨[], mu⟩ := by
  have e1 := fun mu => is_name_ok (mu := mu) k.n
  have e2 := fun mu => whole_ok (x := w) (a := 1) (b := 9) (mu := mu) k.w0 k.w1
  have e3 := fun mu => whole_ok (x := h) (a := 1) (b := 9) (mu := mu) k.h0 k.h1
  have e4 := fun mu => whole_ok (x := t) (a := 0) (b := 99) (mu := mu) k.t0 k.t1
  have g0 : ∀ x mu, getM (x :: mu) 0 = some x := fun _ _ => rfl
  have g1 : ∀ x mu o, setM (x :: mu) 0 o = o :: mu := fun _ _ _ => rfl
  have o1 : okF CT "Card" "name" = true := rfl
  have o2 : okF CT "Card" "wide" = true := rfl
  have o3 : okF CT "Card" "high" = true := rfl
  have o4 : okF CT "Card" "until" = true := rfl
  have o5 : okF CT "Card" "strips" = true := rfl
  have q1 : ∀ a, putO "name" a [] = ([("name", a)] : List (Str × O)) := fun _ => rfl
  have q2 : ∀ a b, putO "wide" b ([("name", a)] : List (Str × O)) = ([("name", a), ("wide", b)] : List (Str × O)) := fun _ _ => rfl
  have q3 : ∀ a b c, putO "high" c ([("name", a), ("wide", b)] : List (Str × O)) = ([("name", a), ("wide", b), ("high", c)] : List (Str × O)) := fun _ _ _ => rfl
  have q4 : ∀ a b c d, putO "until" d ([("name", a), ("wide", b), ("high", c)] : List (Str × O)) = ([("name", a), ("wide", b), ("high", c), ("until", d)] : List (Str × O)) := fun _ _ _ _ => rfl
  have q5 : ∀ a b c d e, putO "strips" e ([("name", a), ("wide", b), ("high", c), ("until", d)] : List (Str × O)) = ([("name", a), ("wide", b), ("high", c), ("until", d), ("strips", e)] : List (Str × O)) := fun _ _ _ _ _ => rfl
  have nc : noCA [.str s, .int w, .int h, l, .int t] = true := by
    rcases k.l with rfl | ⟨x, rfl, _, _⟩ <;> rfl
  have nd : noCO (.ins "Card" (cardF s w h l t)) = true := by
    rcases k.l with rfl | ⟨x, rfl, _, _⟩ <;> rfl
  have al1 : ∀ a : D, List.all [O.fz a] isFz = true := fun _ => rfl
  have al2 : ∀ a b : D, List.all [O.fz a, .fz b] isFz = true := fun _ _ => rfl
  have al3 : ∀ a b c : D, List.all [O.fz a, .fz b, .fz c] isFz = true := fun _ _ _ => rfl
  have al4 : ∀ a b c d : D, List.all [O.fz a, .fz b, .fz c, .fz d] isFz = true := fun _ _ _ _ => rfl
  have z0 : (0 : Nat) < 1000 := by decide
  have z1 : (1 : Nat) < 1000 := by decide
  have z2 : (2 : Nat) < 1000 := by decide
  have z3 : (3 : Nat) < 1000 := by decide
  have z4 : (4 : Nat) < 1000 := by decide
  have al0 : List.all ([] : List O) isFz = true := rfl
  rcases k.l with rfl | ⟨x, rfl, x0, x1⟩
  · unfold m_Card_init fnI
    walk_at "stp"
  · have e5 := fun mu => is_moment_ok (x := x) (mu := mu) x0 x1
    unfold m_Card_init fnI
    walk_at "stp"
theorem nameS_iff {s : Str} : nameS s = true ↔ NameOk s := by
  unfold nameS NameOk
  simp only [Bool.and_eq_true, decide_eq_true_eq, List.all_eq_true]
  constructor
  · rintro ⟨⟨⟨a, b⟩, c⟩, d⟩; exact ⟨a, b, c, d⟩
  · rintro ⟨a, b, c, d⟩; exact ⟨⟨⟨a, b⟩, c⟩, d⟩
/-- the moment behind «until», or none; none if it is no moment -/
def untR : Option Str → Option D
  | none => some .non
  | some t => (momOf t).map .int
def strR : Option Str → Option Int
  | none => some 0
  | some t => numOf t 1 99
/-- the card that words write -/
def cardR (ws : List Str) : Option (Str × Int × Int × D × Int) := match ws with
  | s :: z :: r => if nameS s = true then (match sizesR (Txt.split z "x"), untR (behR r "until").1, strR (behR (behR r "until").2 "strips").1, (behR (behR r "until").2 "strips").2 with
    | some (m, n), some l, some e, [] => some (s, m, n, l, e)
    | _, _, _, _ => none) else none
  | _ => none
noncomputable def card_of_0T : M Bool :=
    (bOr (toB (xOp ltD (xUn lenD (xRd 0)) (xC (.int 2)))) (bNot (toB (xCall m_is_name (fun ds _ => ds) 1 (nK []) (aCons (frz (xOpQ ixD (xRd 0) (fun _ => some (.int 0)))) aNil) aNil))))
noncomputable def card_of_0B0 : M Fl :=
    (sRet (xC .non))
noncomputable def card_of_0B : M Fl :=
    card_of_0B0
noncomputable def card_of_1 : M Fl :=
    (sAsg 1 (xCall m_sizes_of (fun ds _ => ds) 4 (nK []) (aCons (frz (xOpQ ixD (xRd 0) (fun _ => some (.int 1)))) (aCons (frz (xC (.str "x"))) (aCons (frz (xC (.int 1))) (aCons (frz (xC (.int 9))) aNil)))) aNil))
noncomputable def card_of_2 : M Fl :=
    (sAsgT (gT [(gN 4), (gN 5)]) (frz (xCall m_behind_word (fun ds _ => ds) 2 (nK []) (aCons (frz (xSl (xBor 0) (mPart (xC (.int 2))) (ret none))) (aCons (frz (xC (.str "until"))) aNil)) aNil)))
noncomputable def card_of_3 : M Fl :=
    (sAsgT (gT [(gN 6), (gN 5)]) (frz (xCall m_behind_word (fun ds _ => ds) 2 (nK []) (aCons (frz (xVar 5)) (aCons (frz (xC (.str "strips"))) aNil)) aNil)))
noncomputable def card_of_4 : M Fl :=
    (sAsg 2 (xIf (toB (xOp isD (xBor 4) (xC .non))) (xC .non) (xCall m_moment_of (fun ds _ => ds) 1 (nK []) (aCons (frz (xVar 4)) aNil) aNil)))
noncomputable def card_of_5 : M Fl :=
    (sAsg 3 (xIf (toB (xOp isD (xBor 6) (xC .non))) (xC (.int 0)) (xCall m_number_of (fun ds _ => ds) 3 (nK []) (aCons (frz (xVar 6)) (aCons (frz (xC (.int 1))) (aCons (frz (xC (.int 99))) aNil))) aNil)))
noncomputable def card_of_6T : M Bool :=
    (bOr (toB (xOp isD (xBor 1) (xC .non))) (bOr (toB (xOp (nilD true) (xBor 5) (xLst aNil))) (bOr (toB (xOp isD (xBor 3) (xC .non))) (bAnd (toB (xOp isntD (xBor 4) (xC .non))) (toB (xOp isD (xBor 2) (xC .non)))))))
noncomputable def card_of_6B0 : M Fl :=
    (sRet (xC .non))
noncomputable def card_of_6B : M Fl :=
    card_of_6B0
noncomputable def card_of_7 : M Fl :=
    (sRet (xCall m_Card_init g_Card_init_all 5 (nK []) (aCons (frz (xOpQ ixD (xRd 0) (fun _ => some (.int 0)))) (aCons (frz (xOpQ ixD (xRd 1) (fun _ => some (.int 0)))) (aCons (frz (xOpQ ixD (xRd 1) (fun _ => some (.int 1)))) (aCons (frz (xVar 2)) (aCons (frz (xVar 3)) aNil))))) aNil))
theorem card_of_eq : m_card_of = fnM 7
    (sSeq (sIf card_of_0T card_of_0B sNil) (sSeq card_of_1 (sSeq card_of_2 (sSeq card_of_3 (sSeq card_of_4 (sSeq card_of_5 (sSeq (sIf card_of_6T card_of_6B sNil) card_of_7))))))) := rfl
theorem sizesR_le {ps : List Str} {m n : Int} (h : sizesR ps = some (m, n)) : (1 ≤ m ∧ m ≤ 9) ∧ 1 ≤ n ∧ n ≤ 9 := by
  unfold sizesR at h
  split at h
  · rename_i a b
    cases ha : numOf a 1 9 with
    | none => rw [ha] at h; cases h
    | some x =>
      cases hb : numOf b 1 9 with
      | none => rw [ha, hb] at h; cases h
      | some y => rw [ha, hb] at h; cases h; exact ⟨numOf_le ha, numOf_le hb⟩
  · cases h
theorem momOf_lt {s : Str} {m : Int} (h : momOf s = some m) : 0 ≤ m ∧ m < 9600 := by
  unfold momOf at h
  cases hd : numOf (Txt.partition s ".").1 0 399 with
  | none => rw [hd] at h; cases h
  | some d =>
    have dle := numOf_le hd
    rw [hd] at h
    dsimp only at h
    by_cases c : (Txt.partition s ".").2.1 = "" ∨ (Txt.partition s ".").2.2.length ≠ 2 ∨ digB (Txt.partition s ".").2.2 = false
    · rw [if_pos c] at h; cases h
    · rw [if_neg c] at h
      have c2 : (Txt.partition s ".").2.2.length = 2 := by
        by_cases z : (Txt.partition s ".").2.2.length = 2
        · exact z
        · exact absurd (.inr (.inl z)) c
      have dg : digB (Txt.partition s ".").2.2 = true := by
        cases e : digB (Txt.partition s ".").2.2 with
        | true => rfl
        | false => exact absurd (.inr (.inr e)) c
      obtain ⟨n, hn⟩ := dig_int dg (by omega) (by omega)
      rw [hn] at h
      dsimp only at h
      split at h
      · cases h; omega
      · cases h
theorem behR_mem (ws : List Str) (w : Str) : (behR ws w).2.length ≤ ws.length ∧ (∀ t, (behR ws w).1 = some t → t ∈ ws) ∧ ∀ t ∈ (behR ws w).2, t ∈ ws := by
  unfold behR
  split
  · rename_i a b r
    split
    · refine ⟨by simp only [List.length_cons]; omega, fun t h => ?_, fun t h => by simp [h]⟩
      cases h
      simp
    · exact ⟨Nat.le_refl _, fun t h => (nomatch h), fun t h => h⟩
  · exact ⟨Nat.le_refl _, fun t h => (nomatch h), fun t h => h⟩
set_option maxHeartbeats 4000000 in
theorem card_of_ok {s z : Str} {r : List Str} {mu : List O} (hw : r.length ≤ 1000000) (hs : s.length ≤ 10000000) (hz : z.length ≤ 10000000) (hr : ∀ w ∈ r, w.length ≤ 10000000) :
    wv (m_card_of [lsD (s :: z :: r)] mu) (fun v st => st = ⟨[], mu⟩ ∧ ((cardR (s :: z :: r) = none ∧ v = .fz .non) ∨ ∃ m n l e, cardR (s :: z :: r) = some (s, m, n, l, e) ∧ v = .ins "Card" (cardF s m n l e))) noQ := by
  have ln : ¬ (((s :: z :: r).map D.str).length : Int) < 2 := by rw [List.length_map, List.length_cons, List.length_cons]; omega
  have i0 : ixD (.lst ((s :: z :: r).map D.str)) (.int 0) = some (.fz (.str s)) := by rw [st_ixl]; show Option.map _ (atI _ ((0 : Nat) : Int)) = _; rw [atN]; rfl
  have i1 : ixD (.lst ((s :: z :: r).map D.str)) (.int 1) = some (.fz (.str z)) := by rw [st_ixl]; show Option.map _ (atI _ ((1 : Nat) : Int)) = _; rw [atN]; rfl
  have cd : slD (.lst ((s :: z :: r).map D.str)) (some 2) none = some (.lst (r.map D.str)) := by
    show some (O.lst (cutD _ (some ((2 : Nat) : Int)) none)) = _
    rw [cut_drop]; rfl
  have nm := fun env => run_ok (env := env) (name_any (d := .str s) (mu := mu) (decide_eq_true hs))
  have nm : ∀ env, runF m_is_name [.str s] ⟨env, mu⟩ = .ok (.fz (.bl (nameS s))) ⟨env, mu⟩ := nm
  have sz := fun env => run_ok (env := env) (sizes_ok (s := z) (mu := mu) hz)
  obtain ⟨u1, u2, hu⟩ : ∃ u1 u2, behR r "until" = (u1, u2) := ⟨_, _, rfl⟩
  have hbu := behR_mem r "until"
  rw [hu] at hbu
  obtain ⟨lu, mu1, mu2⟩ := hbu
  obtain ⟨v1, v2, hv⟩ : ∃ v1 v2, behR u2 "strips" = (v1, v2) := ⟨_, _, rfl⟩
  have hbv := behR_mem u2 "strips"
  rw [hv] at hbv
  obtain ⟨lv, mv1, mv2⟩ := hbv
  have b1 := fun env => run_ok (env := env) (beh_ok (ws := r) (w := "until") (mu := mu) (by omega))
  have b2 := fun env => run_ok (env := env) (beh_ok (ws := u2) (w := "strips") (mu := mu) (by have : u2.length ≤ r.length := lu; omega))
  rw [hu] at b1
  rw [hv] at b2
  have b1 : ∀ env, runF m_behind_word [.lst (r.map D.str), .str "until"] ⟨env, mu⟩ = .ok (.fz (.tup [optS u1, .lst (u2.map D.str)])) ⟨env, mu⟩ := b1
  have b2 : ∀ env, runF m_behind_word [.lst (u2.map D.str), .str "strips"] ⟨env, mu⟩ = .ok (.fz (.tup [optS v1, .lst (v2.map D.str)])) ⟨env, mu⟩ := b2
  have mo := fun t (h : u1 = some t) env => run_ok (env := env) (mom_ok (s := t) (mu := mu) (by have := hr t (mu1 t h); omega))
  have nu := fun t (h : v1 = some t) env => run_ok (env := env) (number_ok (s := t) (lo := 1) (hi := 99) (mu := mu) (by have := hr t (mu2 t (mv1 t h)); omega) (by decide) (by decide))
  have gk : ∀ a b c d e : D, g_Card_init_all [a, b, c, d, e] [] = [a, b, c, d, e] := fun _ _ _ _ _ => rfl
  have cr : cardR (s :: z :: r) = if nameS s = true then (match sizesR (Txt.split z "x"), untR u1, strR v1, v2 with
    | some (m, n), some l, some e, [] => some (s, m, n, l, e)
    | _, _, _, _ => none) else none := by
    show (if nameS s = true then _ else none) = _
    rw [hu]
    dsimp only
    rw [hv]
  show wv (m_card_of [.lst ((s :: z :: r).map D.str)] mu) _ _
  generalize (s :: z :: r).map D.str = WD at *
  generalize cardR (s :: z :: r) = CR at *
  refine fn_wv card_of_eq ?_
  unfold card_of_0T card_of_0B card_of_0B0 card_of_1 card_of_2 card_of_3 card_of_4 card_of_5
  cases hn : nameS s with
  | false =>
    rw [hn] at nm
    rw [hn] at cr
    ((walk_at "vc"); repeat ((refine w_rw (by first | (simp only [ln, i0, nm]; done) | (simp only [ln, i0, nm]; rfl)) ?_); (walk_at "vc")))
    exact ⟨rfl, .inl ⟨cr, rfl⟩⟩
  | true =>
    rw [hn] at nm
    rw [hn, if_pos rfl] at cr
    have nn : Tr.isNon .non = true := rfl
    have ns : ∀ t, Tr.isNon (.str t) = false := fun _ => rfl
    have ni : ∀ i, Tr.isNon (.int i) = false := fun _ => rfl
    have nt : ∀ xs, Tr.isNon (.tup xs) = false := fun _ => rfl
    have ini : ∀ m n l e, CardOk s m n l e → ∀ env, runF m_Card_init [.str s, .int m, .int n, l, .int e] ⟨env, mu⟩ = .ok (.ins "Card" (cardF s m n l e)) ⟨env, mu⟩ := fun m n l e k env => run_ok (init_ok k)
    have so : NameOk s := nameS_iff.mp hn
    have isn : ∀ d, isD d .non = some (.fz (.bl (Tr.isNon d))) := fun d => by cases d <;> rfl
    have ln2 : ∀ a (l : List Str), nilD true (.lst ((a :: l).map D.str)) (.lst []) = some (.fz (.bl true)) := fun _ _ => rfl
    have ln0 : nilD true (.lst (([] : List Str).map D.str)) (.lst []) = some (.fz (.bl false)) := rfl
    ((walk_at "vc"); repeat ((refine w_rw (by first | (simp only [ln, i0, nm, i1, sz, cd, b1, b2]; done) | (simp only [ln, i0, nm, i1, sz, cd, b1, b2]; rfl)) ?_); (walk_at "vc")))
    generalize Txt.split z "x" = ps at *
    cases hz2 : sizesR ps with
    | none =>
      rw [hz2] at cr
      subst cr
      simp only [sizesD]
      rcases u1 with _ | t <;> rcases v1 with _ | t2
      all_goals
        simp only [optS]
        try replace mo := mo _ rfl
        try replace nu := nu _ rfl
        unfold card_of_6T card_of_6B card_of_6B0
        ((walk_at "vc"); repeat ((refine w_rw (by first | (simp only [nn, ns, mo, nu]; done) | (simp only [nn, ns, mo, nu]; rfl)) ?_); (walk_at "vc")))
        exact ⟨rfl, .inl ⟨trivial, rfl⟩⟩
    | some mn =>
      obtain ⟨m, n⟩ := mn
      have mnl := sizesR_le hz2
      rw [hz2] at cr
      simp only [sizesD]
      cases v2 with
      | cons a l =>
        have cr : CR = none := by
          rw [cr]
          rcases untR u1 with _ | x <;> rcases strR v1 with _ | y <;> rfl
        subst cr
        have lf : ((a :: l).map D.str).isEmpty = false := rfl
        generalize (a :: l).map D.str = L at *
        rcases u1 with _ | t <;> rcases v1 with _ | t2
        all_goals
          simp only [optS]
          try replace mo := mo _ rfl
          try replace nu := nu _ rfl
          unfold card_of_6T card_of_6B card_of_6B0
          ((walk_at "vc"); repeat ((refine w_rw (by first | (simp only [nn, ns, nt, mo, nu, lf]; done) | (simp only [nn, ns, nt, mo, nu, lf]; rfl)) ?_); (walk_at "vc")))
          exact ⟨rfl, .inl ⟨trivial, rfl⟩⟩
      | nil =>
        have fin : ∀ {l : D} {e : Int} (k : LastOk l) (e0 : 0 ≤ e) (e1 : e ≤ 99), CardOk s m n l e := fun k e0 e1 => ⟨so, mnl.1.1, mnl.1.2, mnl.2.1, mnl.2.2, k, e0, e1⟩
        have j0 : ixD (.tup [.int m, .int n]) (.int 0) = some (.fz (.int m)) := rfl
        have j1 : ixD (.tup [.int m, .int n]) (.int 1) = some (.fz (.int n)) := rfl
        simp only [List.map_nil]
        have done : ∀ {U : D} {t : Int} {w : Option O} {x6 : Option O}, CardOk s m n U t → CR = some (s, m, n, U, t) → wv (card_of_7 ⟨[some (.fz (.lst WD)), some (.fz (.tup [.int m, .int n])), some (.fz U), some (.fz (.int t)), w, some (.fz (.lst [])), x6], mu⟩)
            (rtQ fun v st => st = ⟨[], mu⟩ ∧ (CR = none ∧ v = O.fz .non ∨ ∃ m n l e, CR = some (s, m, n, l, e) ∧ v = O.ins "Card" (cardF s m n l e))) fun x s => noQ x ⟨[], s.mu⟩ := fun {U t w x6} k hc => by
          have ik := ini m n U t k
          unfold card_of_7
          clear ini
          ((walk_at "vc"); repeat ((refine w_rw (by first | (simp only [i0, j0, j1, gk, ik]; done) | (simp only [i0, j0, j1, gk, ik]; rfl)) ?_); (walk_at "vc")))
          exact ⟨rfl, .inr ⟨m, n, U, t, hc, rfl⟩⟩
        rcases u1 with _ | t <;> rcases v1 with _ | t2
        all_goals
          simp only [optS]
          try replace mo := mo _ rfl
          try replace nu := nu _ rfl
        · unfold card_of_6T card_of_6B card_of_6B0
          ((walk_at "vc"); repeat ((refine w_rw (by first | (simp only [nn, ns, ni, nt]; done) | (simp only [nn, ns, ni, nt]; rfl)) ?_); (walk_at "vc")))
          exact done (fin (.inl rfl) (by omega) (by omega)) cr
        · cases h2 : numOf t2 1 99 with
          | none =>
            simp only [untR, strR, h2] at cr
            rw [h2] at nu
            simp only [optD] at nu
            unfold card_of_6T card_of_6B card_of_6B0
            ((walk_at "vc"); repeat ((refine w_rw (by first | (simp only [nn, ns, ni, nt, nu]; done) | (simp only [nn, ns, ni, nt, nu]; rfl)) ?_); (walk_at "vc")))
            exact ⟨rfl, .inl ⟨cr, rfl⟩⟩
          | some e =>
            simp only [untR, strR, h2] at cr
            rw [h2] at nu
            simp only [optD] at nu
            have le := numOf_le h2
            unfold card_of_6T card_of_6B card_of_6B0
            ((walk_at "vc"); repeat ((refine w_rw (by first | (simp only [nn, ns, ni, nt, nu]; done) | (simp only [nn, ns, ni, nt, nu]; rfl)) ?_); (walk_at "vc")))
            exact done (fin (.inl rfl) (by omega) le.2) cr
        · cases h1 : momOf t with
          | none =>
            simp only [untR, strR, h1, Option.map] at cr
            rw [h1] at mo
            simp only [optD] at mo
            unfold card_of_6T card_of_6B card_of_6B0
            ((walk_at "vc"); repeat ((refine w_rw (by first | (simp only [nn, ns, ni, nt, mo]; done) | (simp only [nn, ns, ni, nt, mo]; rfl)) ?_); (walk_at "vc")))
            exact ⟨rfl, .inl ⟨cr, rfl⟩⟩
          | some l =>
            simp only [untR, strR, h1, Option.map] at cr
            rw [h1] at mo
            simp only [optD] at mo
            have le := momOf_lt h1
            unfold card_of_6T card_of_6B card_of_6B0
            ((walk_at "vc"); repeat ((refine w_rw (by first | (simp only [nn, ns, ni, nt, mo]; done) | (simp only [nn, ns, ni, nt, mo]; rfl)) ?_); (walk_at "vc")))
            exact done (fin (.inr ⟨l, rfl, le.1, le.2⟩) (by omega) (by omega)) cr
        · cases h1 : momOf t with
          | none =>
            simp only [untR, strR, h1, Option.map] at cr
            rw [h1] at mo
            simp only [optD] at mo
            have cr : CR = none := by
              rw [cr]
            unfold card_of_6T card_of_6B card_of_6B0
            cases h2 : numOf t2 1 99 with
            | none =>
              rw [h2] at nu
              simp only [optD] at nu
              ((walk_at "vc"); repeat ((refine w_rw (by first | (simp only [nn, ns, ni, nt, mo, nu]; done) | (simp only [nn, ns, ni, nt, mo, nu]; rfl)) ?_); (walk_at "vc")))
              exact ⟨rfl, .inl ⟨cr, rfl⟩⟩
            | some e =>
              rw [h2] at nu
              simp only [optD] at nu
              ((walk_at "vc"); repeat ((refine w_rw (by first | (simp only [nn, ns, ni, nt, mo, nu]; done) | (simp only [nn, ns, ni, nt, mo, nu]; rfl)) ?_); (walk_at "vc")))
              exact ⟨rfl, .inl ⟨cr, rfl⟩⟩
          | some l =>
            have le1 := momOf_lt h1
            rw [h1] at mo
            simp only [optD] at mo
            unfold card_of_6T card_of_6B card_of_6B0
            cases h2 : numOf t2 1 99 with
            | none =>
              simp only [untR, strR, h1, h2, Option.map] at cr
              rw [h2] at nu
              simp only [optD] at nu
              ((walk_at "vc"); repeat ((refine w_rw (by first | (simp only [nn, ns, ni, nt, mo, nu]; done) | (simp only [nn, ns, ni, nt, mo, nu]; rfl)) ?_); (walk_at "vc")))
              exact ⟨rfl, .inl ⟨cr, rfl⟩⟩
            | some e =>
              simp only [untR, strR, h1, h2, Option.map] at cr
              rw [h2] at nu
              simp only [optD] at nu
              have le := numOf_le h2
              ((walk_at "vc"); repeat ((refine w_rw (by first | (simp only [nn, ns, ni, nt, mo, nu]; done) | (simp only [nn, ns, ni, nt, mo, nu]; rfl)) ?_); (walk_at "vc")))
              exact done (fin (.inr ⟨l, rfl, le1.1, le1.2⟩) (by omega) le.2) cr
abbrev noTx (d : D) : Exc := ⟨"NoText", [("text", d)]⟩
noncomputable def read_card_0 : M Fl :=
    (sAsg 1 (xIf (toB (xCn isiD (aCons (frz (xVar 0)) (aCons (ret (.ty "str")) aNil)))) (xCall m_card_of (fun ds _ => ds) 1 (nK []) (aCons (frz (xM1 splitD (xBor 0) (frz (xC (.str " "))))) aNil) aNil) (xC .non)))
noncomputable def read_card_1T : M Bool :=
    (toB (xOp isD (xBor 1) (xC .non)))
noncomputable def read_card_1B0 : M Fl :=
    (sRaise "NoText" ["text"] (aCons (frz (xVar 0)) aNil))
noncomputable def read_card_1B : M Fl :=
    read_card_1B0
noncomputable def read_card_2 : M Fl :=
    (sRet (xMov 1))
theorem read_card_eq : m_read_card = fnM 2
    (sSeq read_card_0 (sSeq (sIf read_card_1T read_card_1B sNil) read_card_2)) := rfl
theorem read_odd {d : D} {mu : List O} (h : isiD [d, .ty "str"] = some (.fz (.bl false))) : m_read_card [d] mu = .exc (noTx d) ⟨[], mu⟩ := by
  refine w_eqX ?_
  (refine fn_wv read_card_eq ?_; unfold read_card_0 read_card_2 read_card_1B read_card_1T read_card_1B0)
  ((walk_at "vc"); repeat ((refine w_rw (by first | (simp only [h]; done) | (simp only [h]; rfl)) ?_); (walk_at "vc")))
  exact ⟨rfl, rfl⟩
def wordsT (t : Str) : List Str := Txt.split t " "
theorem read_str {t : Str} {mu : List O} (hl : t.length ≤ 900000) :
    (cardR (wordsT t) = none → m_read_card [.str t] mu = .exc (noTx (.str t)) ⟨[], mu⟩) ∧
    (∀ s m n l e, cardR (wordsT t) = some (s, m, n, l, e) → m_read_card [.str t] mu = .ok (.ins "Card" (cardF s m n l e)) ⟨[], mu⟩) := by
  have i1 : isiD [.str t, .ty "str"] = some (.fz (.bl true)) := rfl
  have s1 : splitD (.str t) [.str " "] = some (.lst ((wordsT t).map .str)) := sk_split (by decide) (by omega)
  have sl := split_len t " "
  have pl : ∀ p ∈ wordsT t, p.length ≤ t.length := fun p h => part_le h
  have sl : (wordsT t).length ≤ t.length + 2 := sl
  generalize wordsT t = ws at *
  have key : wv (m_card_of [.lst (ws.map .str)] mu) (fun v st => st = ⟨[], mu⟩ ∧ ((cardR ws = none ∧ v = .fz .non) ∨ ∃ s m n l e, cardR ws = some (s, m, n, l, e) ∧ v = .ins "Card" (cardF s m n l e))) noQ := by
    match ws, pl, sl with
    | [], _, _ =>
      have ln : ((0 : Int) < 2) := by decide
      refine fn_wv card_of_eq ?_
      unfold card_of_0T card_of_0B card_of_0B0
      simp only [List.map_nil]
      walk_at "vc"
      exact ⟨rfl, .inl ⟨rfl, rfl⟩⟩
    | [a], _, _ =>
      refine fn_wv card_of_eq ?_
      unfold card_of_0T card_of_0B card_of_0B0
      simp only [List.map_nil, List.map_cons]
      walk_at "vc"
      exact ⟨rfl, .inl ⟨rfl, rfl⟩⟩
    | s :: z :: r, pl, sl =>
      refine w_imp0 (card_of_ok (s := s) (z := z) (r := r) (mu := mu) (by simp only [List.length_cons] at sl; omega) (by have := pl s (by simp); omega) (by have := pl z (by simp); omega) fun w hw => by have := pl w (by simp [hw]); omega) fun v st h => ?_
      obtain ⟨h1, h2⟩ := h
      refine ⟨h1, ?_⟩
      rcases h2 with h2 | ⟨m, n, l, e, h2, h3⟩
      · exact .inl h2
      · exact .inr ⟨s, m, n, l, e, h2, h3⟩
  obtain ⟨v, st, hv, rfl, hc⟩ := w_ex key
  have nn : Tr.isNon .non = true := rfl
  have nin : ∀ c xs, Tr.isNon (.ins c xs) = false := fun _ _ => rfl
  rcases hc with ⟨hc, rfl⟩ | ⟨s, m, n, l, e, hc, rfl⟩
  · have cv := fun env => run_ok (env := env) hv
    refine ⟨fun _ => ?_, fun s m n l e z => (by rw [hc] at z; cases z)⟩
    clear key pl hv
    refine w_eqX ?_
    (refine fn_wv read_card_eq ?_; unfold read_card_0 read_card_2 read_card_1B read_card_1T read_card_1B0)
    ((walk_at "vc"); repeat ((refine w_rw (by first | (simp only [i1, s1, cv, nn]; done) | (simp only [i1, s1, cv, nn]; rfl)) ?_); (walk_at "vc")))
    exact ⟨rfl, rfl⟩
  · have cv := fun env => run_ok (env := env) hv
    refine ⟨fun z => (by rw [hc] at z; cases z), fun s' m' n' l' e' z => ?_⟩
    rw [hc] at z
    cases z
    clear key pl hv
    refine w_eq ?_
    (refine fn_wv read_card_eq ?_; unfold read_card_0 read_card_2 read_card_1B read_card_1T read_card_1B0)
    ((walk_at "vc"); repeat ((refine w_rw (by first | (simp only [i1, s1, cv, nin]; done) | (simp only [i1, s1, cv, nin]; rfl)) ?_); (walk_at "vc")))
    exact ⟨rfl, rfl⟩
def dueD : Option (Str × Int × Int × D × Int) → D
  | none => .non
  | some (s, m, n, l, e) => .tup [.str s, .int m, .int n, l, .int e]
theorem split_count (z : Str) : (Txt.count z "x" = 1) ↔ (Txt.split z "x").length = 2 := by
  have h := PyProof.Rows.split_len z 120
  have c := PyProof.Rows.count_is z 120
  have e : (⟨#[120]⟩ : Str) = "x" := rfl
  unfold PyProof.Rows.cnt at h
  rw [← c, e] at h
  omega
noncomputable def law_due_0 : M Fl :=
    (sAsg 1 (xIf (toB (xCn isiD (aCons (frz (xVar 0)) (aCons (ret (.ty "str")) aNil)))) (xM1 splitD (xBor 0) (frz (xC (.str " ")))) (xLst aNil)))
noncomputable def law_due_1T : M Bool :=
    (bOr (toB (xOp ninD (xUn lenD (xRd 1)) (xTup (aCons (frz (xC (.int 2))) (aCons (frz (xC (.int 4))) (aCons (frz (xC (.int 6))) aNil)))))) (bOr (bNot (toB (xCall m_law_is_name (fun ds _ => ds) 1 (nK []) (aCons (frz (xOpQ ixD (xRd 1) (fun _ => some (.int 0)))) aNil) aNil))) (toB (xOp neD (xM1 countD (xOpQ ixD (xRd 1) (fun _ => some (.int 1))) (frz (xC (.str "x")))) (xC (.int 1))))))
noncomputable def law_due_1B0 : M Fl :=
    (sRet (xC .non))
noncomputable def law_due_1B : M Fl :=
    law_due_1B0
noncomputable def law_due_2L0 : M D :=
    (frz (xCall m_law_number (fun ds _ => ds) 3 (nK []) (aCons (frz (xVar 10)) (aCons (frz (xC (.int 1))) (aCons (frz (xC (.int 9))) aNil))) aNil))
noncomputable def law_due_2 : M Fl :=
    (sAsgT (gL [(gN 2), (gN 3)]) (frz (xLc [10] (mSeq (frz (xM1 splitD (xOpQ ixD (xRd 1) (fun _ => some (.int 1))) (frz (xC (.str "x")))))) (gN 10) (ret true) law_due_2L0)))
noncomputable def law_due_3 : M Fl :=
    (sPar3 4 5 6 (oCons (xC .non) (oCons (xC (.int 0)) (oCons (xUn (evD 2) (xRd 1)) oNil))))
noncomputable def law_due_4T : M Bool :=
    (bOr (toB (xOp (inED true) (xBor 6) (xTup (aCons (frz (xLst aNil)) (aCons (frz (xLst (aCons (frz (xC (.str "until"))) aNil))) (aCons (frz (xLst (aCons (frz (xC (.str "strips"))) aNil))) (aCons (frz (xLst (aCons (frz (xC (.str "until"))) (aCons (frz (xC (.str "strips"))) aNil)))) aNil))))))) (bOr (toB (xOp isD (xBor 2) (xC .non))) (toB (xOp isD (xBor 3) (xC .non)))))
noncomputable def law_due_4B0 : M Fl :=
    (sRet (xC .non))
noncomputable def law_due_4B : M Fl :=
    law_due_4B0
noncomputable def law_due_5I : M (List D) :=
    (mZip (aCons (frz (xVar 6)) (aCons (frz (xUn (evD 3) (xRd 1))) aNil)))
noncomputable def law_due_5B0 : M Fl :=
    (sAsg 9 (xIf (toB (xOp eqD (xBor 7) (xC (.str "until")))) (xCall m_law_moment_of (fun ds _ => ds) 1 (nK []) (aCons (frz (xVar 8)) aNil) aNil) (xCall m_law_number (fun ds _ => ds) 3 (nK []) (aCons (frz (xVar 8)) (aCons (frz (xC (.int 1))) (aCons (frz (xC (.int 99))) aNil))) aNil)))
noncomputable def law_due_5B1T : M Bool :=
    (toB (xOp isD (xBor 9) (xC .non)))
noncomputable def law_due_5B1B0 : M Fl :=
    (sRet (xC .non))
noncomputable def law_due_5B1B : M Fl :=
    law_due_5B1B0
noncomputable def law_due_5B2 : M Fl :=
    (sAsgT (gT [(gN 4), (gN 5)]) (frz (xOp ixD (xLst (aCons (frz (xTup (aCons (frz (xVar 9)) (aCons (frz (xVar 5)) aNil)))) (aCons (frz (xTup (aCons (frz (xVar 4)) (aCons (frz (xVar 9)) aNil)))) aNil))) (xUn intD (xOp eqD (xBor 7) (xC (.str "strips")))))))
noncomputable def law_due_5B : M Fl :=
    (sSeq law_due_5B0 (sSeq (sIf law_due_5B1T law_due_5B1B sNil) law_due_5B2))
noncomputable def law_due_6 : M Fl :=
    (sRet (xTup (aCons (frz (xOpQ ixD (xRd 1) (fun _ => some (.int 0)))) (aCons (frz (xVar 2)) (aCons (frz (xVar 3)) (aCons (frz (xVar 4)) (aCons (frz (xVar 5)) aNil)))))))
theorem law_due_eq : m_law_due = fnM 11
    (sSeq law_due_0 (sSeq (sIf law_due_1T law_due_1B sNil) (sSeq law_due_2 (sSeq law_due_3 (sSeq (sIf law_due_4T law_due_4B sNil) (sSeq (sFor law_due_5I (gT [(gN 7), (gN 8)]) law_due_5B) law_due_6)))))) := rfl
def lenB (n : Nat) : Bool := decide (n = 2 ∨ n = 4 ∨ n = 6)
abbrev len3 : D := .tup [.int 2, .int 4, .int 6]
theorem nin_len (n : Nat) : ninD (.int (n : Int)) len3 = some (.fz (.bl (!lenB n))) := by
  have e : ninD (.int (n : Int)) len3 = some (.fz (.bl (!(decide ((2 : Int) = n) || (decide ((4 : Int) = n) || (decide ((6 : Int) = n) || false)))))) := rfl
  rw [e]
  unfold lenB
  congr 4
  rw [Bool.eq_iff_iff]
  simp only [Bool.or_false, Bool.or_eq_true, decide_eq_true_eq]
  omega
theorem due_odd {d : D} {mu : List O} (h : isiD [d, .ty "str"] = some (.fz (.bl false))) : m_law_due [d] mu = .ok (.fz .non) ⟨[], mu⟩ := by
  have n0 : ninD (.int ((0 : Nat) : Int)) len3 = some (.fz (.bl true)) := nin_len 0
  refine w_eq ?_
  (refine fn_wv law_due_eq ?_; unfold law_due_0 law_due_2 law_due_3 law_due_6 law_due_1B law_due_1T law_due_4B law_due_4T law_due_5I law_due_1B0 law_due_4B0)
  ((walk_at "vc"); repeat ((refine w_rw (by first | (simp only [h, n0]; done) | (simp only [h, n0]; rfl)) ?_); (walk_at "vc")))
  exact ⟨rfl, rfl⟩
theorem due_len {t : Str} {mu : List O} (hl : t.length ≤ 900000) (h : lenB (wordsT t).length = false) : m_law_due [.str t] mu = .ok (.fz .non) ⟨[], mu⟩ := by
  have i1 : isiD [.str t, .ty "str"] = some (.fz (.bl true)) := rfl
  have s1 : splitD (.str t) [.str " "] = some (.lst ((wordsT t).map .str)) := sk_split (by decide) (by omega)
  have sl := split_len t " "
  have sl : (wordsT t).length ≤ t.length + 2 := sl
  have ni := nin_len (wordsT t).length
  rw [h] at ni
  have ll : (wordsT t).length = ((wordsT t).map D.str).length := by rw [List.length_map]
  rw [ll] at ni sl
  have sl : ((wordsT t).map D.str).length ≤ 16777216 := by omega
  generalize (wordsT t).map D.str = WD at *
  refine w_eq ?_
  (refine fn_wv law_due_eq ?_; unfold law_due_0 law_due_2 law_due_3 law_due_6 law_due_1B law_due_1T law_due_4B law_due_4T law_due_5I law_due_1B0 law_due_4B0)
  ((walk_at "vc"); repeat ((refine w_rw (by first | (simp only [i1, s1, ni]; done) | (simp only [i1, s1, ni]; rfl)) ?_); (walk_at "vc")))
  exact ⟨rfl, rfl⟩
abbrev mark4 : D := .tup [.lst [], .lst [.str "until"], .lst [.str "strips"], .lst [.str "until", .str "strips"]]
abbrev markP : PyData := .tuple [.list [], .list [.str "until"], .list [.str "strips"], .list [.str "until", .str "strips"]]
theorem mark_py : D.py false mark4 = some markP := rfl
theorem in_mark {d : D} {x : PyData} (e : D.py false d = some x) (hs : SeqAt.shaped x = true) : inED true d mark4 = some (.fz (.bl (!([.list [], .list [.str "until"], .list [.str "strips"], .list [.str "until", .str "strips"]].any fun z => PyData.eqv z x)))) := by
  unfold inED inEB
  rw [e, mark_py]
  show Option.map _ (if _ then _ else _) = _
  rw [if_pos ⟨hs, by simp only [PyData.canLayAll0, PyData.canLay0, Bool.and_true, Bool.true_and]; decide +kernel⟩]
  show some (O.fz (.bl (_ != true))) = _
  simp
theorem in_mark0 : inED true (.lst []) mark4 = some (.fz (.bl false)) := by
  rw [in_mark (x := .list []) rfl (by unfold SeqAt.shaped; simp only [PyData.canLayAll0, PyData.canLay0, Bool.true_and]; rfl)]
  rfl
theorem in_mark1 {a : Str} (ha : PyData.strOk a = true) : inED true (.lst [.str a]) mark4 = some (.fz (.bl (!decide (a = "until" ∨ a = "strips")))) := by
  rw [in_mark (x := .list [.str a]) rfl (by unfold SeqAt.shaped; simp only [PyData.canLayAll0, PyData.canLay0, ha, Bool.true_and]; rfl)]
  have e : ([.list [], .list [.str "until"], .list [.str "strips"], .list [.str "until", .str "strips"]].any fun z => PyData.eqv z (.list [.str a])) = (false || ((("until" : Str) == a) && true || ((("strips" : Str) == a) && true || (((("until" : Str) == a) && false) || false)))) := rfl
  rw [e]
  congr 4
  by_cases h1 : a = "until"
  · subst h1; rfl
  · by_cases h2 : a = "strips"
    · subst h2; rfl
    · simp [h1, h2, Ne.symm h1, Ne.symm h2]
theorem in_mark2 {a b : Str} (ha : PyData.strOk a = true) (hb : PyData.strOk b = true) : inED true (.lst [.str a, .str b]) mark4 = some (.fz (.bl (!decide (a = "until" ∧ b = "strips")))) := by
  rw [in_mark (x := .list [.str a, .str b]) rfl (by unfold SeqAt.shaped; simp only [PyData.canLayAll0, PyData.canLay0, ha, hb, Bool.true_and]; rfl)]
  have e : ([.list [], .list [.str "until"], .list [.str "strips"], .list [.str "until", .str "strips"]].any fun z => PyData.eqv z (.list [.str a, .str b])) = (false || ((("until" : Str) == a) && false || ((("strips" : Str) == a) && false || (((("until" : Str) == a) && ((("strips" : Str) == b) && true)) || false)))) := rfl
  rw [e]
  congr 4
  by_cases h1 : a = "until"
  · by_cases h2 : b = "strips"
    · subst h1; subst h2; rfl
    · simp [h2, Ne.symm h2]
  · simp [h1, Ne.symm h1]
def tailR : List Str → List Str → Option (D × Int)
  | [], [] => some (.non, 0)
  | [a], [b] => if a = "until" then (momOf b).map fun x => (.int x, 0) else if a = "strips" then (numOf b 1 99).map fun e => (.non, e) else none
  | [a, c], [b, d] => if a = "until" ∧ c = "strips" then (match momOf b, numOf d 1 99 with
    | some x, some e => some (.int x, e)
    | _, _ => none) else none
  | _, _ => none
def dueR (s z : Str) (ms vs : List Str) : Option (Str × Int × Int × D × Int) :=
  if nameS s = true then (match sizesR (Txt.split z "x"), tailR ms vs with
    | some (m, n), some (l, e) => some (s, m, n, l, e)
    | _, _ => none) else none
theorem sizes_2 {ps : List Str} (h : ps.length ≠ 2) : sizesR ps = none := by
  unfold sizesR
  split
  · exact absurd rfl h
  · rfl
set_option maxHeartbeats 4000000 in
theorem due_mid {t s z : Str} {WD : List D} {ms vs : List Str} {MB : Bool} {mu : List O} (s1 : splitD (.str t) [.str " "] = some (.lst WD)) (ll : WD.length ≤ 16777216) (ni : ninD (.int (WD.length : Int)) len3 = some (.fz (.bl false)))
    (i0 : ixD (.lst WD) (.int 0) = some (.fz (.str s))) (i1 : ixD (.lst WD) (.int 1) = some (.fz (.str z))) (e2 : evD 2 (.lst WD) = some (.lst (ms.map .str))) (e3 : evD 3 (.lst WD) = some (.lst (vs.map .str)))
    (mk : inED true (.lst (ms.map .str)) mark4 = some (.fz (.bl (!MB)))) (hm : MB = false → tailR ms vs = none) (hs : s.length ≤ 1000000) (hz : z.length ≤ 1000000) (hv : ∀ v ∈ vs, v.length ≤ 1000000)
    (hc : (ms = [] ∧ vs = []) ∨ (∃ a b, ms = [a] ∧ vs = [b] ∧ (MB = true → a = "until" ∨ a = "strips")) ∨ ∃ a b c d, ms = [a, c] ∧ vs = [b, d] ∧ (MB = true → a = "until" ∧ c = "strips")) :
    m_law_due [.str t] mu = .ok (.fz (dueD (dueR s z ms vs))) ⟨[], mu⟩ := by
  have it : isiD [.str t, .ty "str"] = some (.fz (.bl true)) := rfl
  have nm := fun env => run_ok (env := env) (lname_ok (s := s) (mu := mu) (by omega))
  have ct : countD (.str z) [.str "x"] = some (.fz (.int (Txt.count z "x"))) := rfl
  have sp : splitD (.str z) [.str "x"] = some (.lst ((Txt.split z "x").map .str)) := sk_split (by decide) (by omega)
  have sl := split_len z "x"
  have pl := fun p (h : p ∈ Txt.split z "x") => part_le h
  have sc := split_count z
  have nu := fun p (h : p ∈ Txt.split z "x") env => run_ok (env := env) (lnum_ok (s := p) (lo := 1) (hi := 9) (mu := mu) (by have := pl p h; omega) (.inl rfl) (by decide))
  have nv := fun v (h : v ∈ vs) env => run_ok (env := env) (lnum_ok (s := v) (lo := 1) (hi := 99) (mu := mu) (by have := hv v h; omega) (.inr (.inl rfl)) (by decide))
  have mv := fun v (h : v ∈ vs) env => run_ok (env := env) (lmom_ok (s := v) (mu := mu) (by have := hv v h; omega))
  have dr : dueR s z ms vs = if nameS s = true then (match sizesR (Txt.split z "x"), tailR ms vs with
    | some (m, n), some (l, e) => some (s, m, n, l, e)
    | _, _ => none) else none := rfl
  generalize dueR s z ms vs = R at *
  generalize Txt.split z "x" = ps at *
  cases hn : nameS s with
  | false =>
    rw [hn] at nm
    rw [hn, if_neg (by decide)] at dr
    subst dr
    refine w_eq ?_
    (refine fn_wv law_due_eq ?_; unfold law_due_0 law_due_2 law_due_3 law_due_6 law_due_1B law_due_1T law_due_4B law_due_4T law_due_5I law_due_1B0 law_due_4B0)
    ((walk_at "vc"); repeat ((refine w_rw (by first | (simp only [it, s1, ll, ni, i0, nm]; done) | (simp only [it, s1, ll, ni, i0, nm]; rfl)) ?_); (walk_at "vc")))
    exact ⟨rfl, rfl⟩
  | true =>
    rw [hn] at nm
    rw [hn, if_pos rfl] at dr
    generalize Txt.count z "x" = cx at *
    by_cases c1 : cx = 1
    case neg =>
      have c2 : ps.length ≠ 2 := fun h => c1 (sc.mpr h)
      rw [sizes_2 c2] at dr
      have dr : R = none := dr
      subst dr
      have c1' := decide_eq_false c1
      refine w_eq ?_
      (refine fn_wv law_due_eq ?_; unfold law_due_0 law_due_2 law_due_3 law_due_6 law_due_1B law_due_1T law_due_4B law_due_4T law_due_5I law_due_1B0 law_due_4B0)
      ((walk_at "vc"); repeat ((refine w_rw (by first | (simp only [it, s1, ll, ni, i0, nm, i1, ct, c1, c1']; done) | (simp only [it, s1, ll, ni, i0, nm, i1, ct, c1, c1']; rfl)) ?_); (walk_at "vc")))
      exact ⟨rfl, rfl⟩
    obtain ⟨p, q, rfl⟩ : ∃ p q, ps = [p, q] := by
      match ps, sc.mp c1 with
      | [p, q], _ => exact ⟨p, q, rfl⟩
    have np := nu p (by simp)
    have nq := nu q (by simp)
    have isn : ∀ d, isD d .non = some (.fz (.bl (Tr.isNon d))) := fun d => by cases d <;> rfl
    refine w_eq ?_
    (refine fn_wv law_due_eq ?_; unfold law_due_0 law_due_2 law_due_3 law_due_6 law_due_1B law_due_1T law_due_4B law_due_4T law_due_5I law_due_1B0 law_due_4B0)
    subst c1
    simp only [List.map_cons, List.map_nil] at sp
    ((walk_at "vc"); repeat ((refine w_rw (by first | (simp only [it, s1, ll, ni, i0, nm, i1, ct, sp]; done) | (simp only [it, s1, ll, ni, i0, nm, i1, ct, sp]; rfl)) ?_); (walk_at "vc")))
    refine w_rw (r' := lcL [10] (gN 10) (Tr.ret true) law_due_2L0 ([p, q].map D.str) _) rfl ?_
    refine w_lcx (enc := D.str) (fun p => optD (numOf p 1 9)) (fun x hx => ?_) ?_
    · have e1 := nu x hx
      refine ⟨_, rfl, ?_⟩
      unfold law_due_2L0
      generalize optD (numOf x 1 9) = N at *
      ((walk_at "vc"); repeat ((refine w_rw (by first | (simp only [e1]; done) | (simp only [e1]; rfl)) ?_); (walk_at "vc")))
      exact ⟨rfl, rfl, rfl, rfl⟩
    simp only [List.map_cons, List.map_nil]
    have nn : Tr.isNon .non = true := rfl
    have ni' : ∀ i, Tr.isNon (.int i) = false := fun _ => rfl
    clear nu nm np nq sc pl sl
    cases hp : numOf p 1 9 with
    | none =>
      simp only [sizesR, hp] at dr
      subst dr
      simp only [optD]
      generalize hM : ms.map D.str = M at *
      ((walk_at "vc"); repeat ((refine w_rw (by first | (simp only [sk_gL, e2, mk, nn, or_true]; done) | (simp only [sk_gL, e2, mk, nn, or_true]; rfl)) ?_); (walk_at "vc")))
      exact ⟨rfl, rfl⟩
    | some m =>
      cases hq : numOf q 1 9 with
      | none =>
        simp only [sizesR, hp, hq] at dr
        subst dr
        simp only [optD]
        generalize hM : ms.map D.str = M at *
        ((walk_at "vc"); repeat ((refine w_rw (by first | (simp only [sk_gL, e2, mk, nn, ni', or_true]; done) | (simp only [sk_gL, e2, mk, nn, ni', or_true]; rfl)) ?_); (walk_at "vc")))
        exact ⟨rfl, rfl⟩
      | some n =>
        simp only [sizesR, hp, hq] at dr
        simp only [optD]
        cases MB with
        | false =>
          rw [hm rfl] at dr
          have dr : R = none := dr
          subst dr
          generalize hM : ms.map D.str = M at *
          ((walk_at "vc"); repeat ((refine w_rw (by first | (simp only [sk_gL, e2, mk, nn, ni', or_true]; done) | (simp only [sk_gL, e2, mk, nn, ni', or_true]; rfl)) ?_); (walk_at "vc")))
          exact ⟨rfl, rfl⟩
        | true =>
          have mk : inED true (.lst (ms.map .str)) mark4 = some (.fz (.bl false)) := mk
          rcases hc with ⟨rfl, rfl⟩ | ⟨a, b, rfl, rfl, hab⟩ | ⟨a, b, c, d, rfl, rfl, hab⟩
          · simp only [List.map_nil] at mk e2 e3
            have dr : R = some (s, m, n, .non, 0) := dr
            subst dr
            simp only [dueD]
            ((walk_at "vc"); repeat ((refine w_rw (by first | (simp only [sk_gL, e2, mk, ni', e3, st_for0, st_for1, i0]; done) | (simp only [sk_gL, e2, mk, ni', e3, st_for0, st_for1, i0]; rfl)) ?_); (walk_at "vc")))
            exact ⟨rfl, rfl⟩
          · simp only [List.map_cons, List.map_nil] at mk e2 e3
            have mb := mv b (by simp)
            have nb := nv b (by simp)
            clear nv mv hv
            have us : ("strips" : Str) ≠ "until" := by decide
            have su : ("until" : Str) ≠ "strips" := by decide
            rcases hab rfl with rfl | rfl
            · dsimp only [tailR] at dr
              rw [if_pos rfl] at dr
              cases hb : momOf b with
              | none =>
                rw [hb] at mb dr
                have dr : R = none := dr
                subst dr
                simp only [optD] at mb
                ((walk_at "vc"); repeat ((refine w_rw (by first | (simp only [sk_gL, e2, mk, ni', e3]; done) | (simp only [sk_gL, e2, mk, ni', e3]; rfl)) ?_); (walk_at "vc")))
                unfold law_due_5B law_due_5B0 law_due_5B1T law_due_5B1B law_due_5B1B0 law_due_5B2
                ((walk_at "vc"); repeat ((refine w_rw (by first | (simp only [st_for1, st_for0, eq_self, mb, nn]; done) | (simp only [st_for1, st_for0, eq_self, mb, nn]; rfl)) ?_); (walk_at "vc")))
                exact ⟨rfl, rfl⟩
              | some x =>
                rw [hb] at mb dr
                have dr : R = some (s, m, n, .int x, 0) := dr
                subst dr
                simp only [optD] at mb
                simp only [dueD]
                ((walk_at "vc"); repeat ((refine w_rw (by first | (simp only [sk_gL, e2, mk, ni', e3]; done) | (simp only [sk_gL, e2, mk, ni', e3]; rfl)) ?_); (walk_at "vc")))
                unfold law_due_5B law_due_5B0 law_due_5B1T law_due_5B1B law_due_5B1B0 law_due_5B2
                ((walk_at "vc"); repeat ((refine w_rw (by first | (simp only [st_for1, st_for0, eq_self, mb, nn, ni', su, i0]; done) | (simp only [st_for1, st_for0, eq_self, mb, nn, ni', su, i0]; rfl)) ?_); (walk_at "vc")))
                exact ⟨rfl, rfl⟩
            · dsimp only [tailR] at dr
              rw [if_neg us, if_pos rfl] at dr
              cases hb : numOf b 1 99 with
              | none =>
                rw [hb] at nb dr
                have dr : R = none := dr
                subst dr
                simp only [optD] at nb
                ((walk_at "vc"); repeat ((refine w_rw (by first | (simp only [sk_gL, e2, mk, ni', e3]; done) | (simp only [sk_gL, e2, mk, ni', e3]; rfl)) ?_); (walk_at "vc")))
                unfold law_due_5B law_due_5B0 law_due_5B1T law_due_5B1B law_due_5B1B0 law_due_5B2
                ((walk_at "vc"); repeat ((refine w_rw (by first | (simp only [st_for1, st_for0, eq_self, us, nb, nn]; done) | (simp only [st_for1, st_for0, eq_self, us, nb, nn]; rfl)) ?_); (walk_at "vc")))
                exact ⟨rfl, rfl⟩
              | some x =>
                rw [hb] at nb dr
                have dr : R = some (s, m, n, .non, x) := dr
                subst dr
                simp only [optD] at nb
                simp only [dueD]
                ((walk_at "vc"); repeat ((refine w_rw (by first | (simp only [sk_gL, e2, mk, ni', e3]; done) | (simp only [sk_gL, e2, mk, ni', e3]; rfl)) ?_); (walk_at "vc")))
                unfold law_due_5B law_due_5B0 law_due_5B1T law_due_5B1B law_due_5B1B0 law_due_5B2
                ((walk_at "vc"); repeat ((refine w_rw (by first | (simp only [st_for1, st_for0, eq_self, us, nb, nn, ni', su, i0]; done) | (simp only [st_for1, st_for0, eq_self, us, nb, nn, ni', su, i0]; rfl)) ?_); (walk_at "vc")))
                exact ⟨rfl, rfl⟩
          · simp only [List.map_cons, List.map_nil] at mk e2 e3
            have mb := mv b (by simp)
            have nb := nv d (by simp)
            clear nv mv hv
            have us : ("strips" : Str) ≠ "until" := by decide
            have su : ("until" : Str) ≠ "strips" := by decide
            obtain ⟨rfl, rfl⟩ := hab rfl
            dsimp only [tailR] at dr
            rw [if_pos ⟨rfl, rfl⟩] at dr
            cases hb : momOf b with
            | none =>
              rw [hb] at mb dr
              have dr : R = none := dr
              subst dr
              simp only [optD] at mb
              ((walk_at "vc"); repeat ((refine w_rw (by first | (simp only [sk_gL, e2, mk, ni', e3]; done) | (simp only [sk_gL, e2, mk, ni', e3]; rfl)) ?_); (walk_at "vc")))
              unfold law_due_5B law_due_5B0 law_due_5B1T law_due_5B1B law_due_5B1B0 law_due_5B2
              ((walk_at "vc"); repeat ((refine w_rw (by first | (simp only [st_for1, st_for0, eq_self, mb, nn]; done) | (simp only [st_for1, st_for0, eq_self, mb, nn]; rfl)) ?_); (walk_at "vc")))
              exact ⟨rfl, rfl⟩
            | some x =>
              rw [hb] at mb dr
              simp only [optD] at mb
              cases hd : numOf d 1 99 with
              | none =>
                rw [hd] at nb dr
                have dr : R = none := dr
                subst dr
                simp only [optD] at nb
                ((walk_at "vc"); repeat ((refine w_rw (by first | (simp only [sk_gL, e2, mk, ni', e3]; done) | (simp only [sk_gL, e2, mk, ni', e3]; rfl)) ?_); (walk_at "vc")))
                unfold law_due_5B law_due_5B0 law_due_5B1T law_due_5B1B law_due_5B1B0 law_due_5B2
                ((walk_at "vc"); repeat ((refine w_rw (by first | (simp only [st_for1, st_for0, eq_self, us, su, mb, nb, nn, ni']; done) | (simp only [st_for1, st_for0, eq_self, us, su, mb, nb, nn, ni']; rfl)) ?_); (walk_at "vc")))
                exact ⟨rfl, rfl⟩
              | some y =>
                rw [hd] at nb dr
                have dr : R = some (s, m, n, .int x, y) := dr
                subst dr
                simp only [optD] at nb
                simp only [dueD]
                ((walk_at "vc"); repeat ((refine w_rw (by first | (simp only [sk_gL, e2, mk, ni', e3]; done) | (simp only [sk_gL, e2, mk, ni', e3]; rfl)) ?_); (walk_at "vc")))
                unfold law_due_5B law_due_5B0 law_due_5B1T law_due_5B1B law_due_5B1B0 law_due_5B2
                ((walk_at "vc"); repeat ((refine w_rw (by first | (simp only [st_for1, st_for0, eq_self, us, su, mb, nb, nn, ni', i0]; done) | (simp only [st_for1, st_for0, eq_self, us, su, mb, nb, nn, ni', i0]; rfl)) ?_); (walk_at "vc")))
                exact ⟨rfl, rfl⟩
theorem when_ok {t : Int} {mu : List O} (h0 : 0 ≤ t) (h1 : t < 9600) : m_law_when [.int t] mu = .ok (.fz (.str (whenT t))) ⟨[], mu⟩ := by
  have l1 := log_small (i := t / 24) (by omega) (by omega)
  have l2 := int_len (i := t / 24) (by omega) (by omega)
  have a1 := atFig (d := t % 24 / 10) (by omega) (by omega)
  have a2 := atFig (d := t % 24 % 10) (by omega) (by omega)
  have e : whenT t = (toString (t / 24) : Str) ++ "." ++ figS (t % 24 / 10) ++ figS (t % 24 % 10) := by
    unfold whenT
    rw [two_figs' (by omega) (by omega), str_assoc _ (figS _) (figS _)]
  have d1 : (0 : Int) < 24 ∧ (24 : Int) < 1073741824 := by decide
  have d2 : (0 : Int) < 10 ∧ (10 : Int) < 1073741824 := by decide
  have n1 : (("0123456789" : Str).length ≤ 16777216) := by decide
  have n2 : (toString (t / 24) : Str).length + ("." : Str).length ≤ 16777216 := by have : ("." : Str).length = 1 := rfl; omega
  have f1 : ∀ d, (figS d).length = 1 := fun d => rfl
  have fd : ("." : Str).length = 1 := rfl
  have n3 : ((toString (t / 24) : Str) ++ ".").length + (figS (t % 24 / 10)).length ≤ 16777216 := by rw [strLen_append, f1]; omega
  have n4 : ((toString (t / 24) : Str) ++ "." ++ figS (t % 24 / 10)).length + (figS (t % 24 % 10)).length ≤ 16777216 := by rw [strLen_append, strLen_append, f1, f1]; omega
  clear fd f1
  unfold figS at e n3 n4
  rw [e]
  unfold m_law_when
  walk_at "stp"
theorem show_ok {t : Int} {mu : List O} (h0 : 0 ≤ t) (h1 : t < 9600) : m_show_moment [.int t] mu = .ok (.fz (.str (whenT t))) ⟨[], mu⟩ := by
  have l1 := log_small (i := t / 24) (by omega) (by omega)
  have l2 := int_len (i := t / 24) (by omega) (by omega)
  have l3 := log_small (i := t % 24) (by omega) (by omega)
  have l4 : (Txt.zfill (toString (t % 24) : Str) 2).length = 2 := by rw [two_figs' (by omega) (by omega), strLen_append]; rfl
  have d1 : (0 : Int) < 24 ∧ (24 : Int) < 1073741824 := by decide
  have n2 : (toString (t / 24) : Str).length + ("." : Str).length ≤ 16777216 := by have : ("." : Str).length = 1 := rfl; omega
  have n3 : ((toString (t / 24) : Str) ++ ".").length + (Txt.zfill (toString (t % 24) : Str) 2).length ≤ 16777216 := by have fd : ("." : Str).length = 1 := rfl; rw [strLen_append, l4]; omega
  clear l4
  unfold whenT
  unfold m_show_moment
  walk_at "stp"
theorem strsD_map (ws : List Str) : strsD (ws.map D.str) = some ws := by
  induction ws with
  | nil => rfl
  | cons c cs ih => rw [List.map_cons, strsD, ih]; rfl
theorem str_ok0 {s : Str} {w h t : Int} {l : D} {mu : List O} (k : CardOk s w h l t) (x : Int) (hx : l = .int x) (ht : 0 < t) (r : Str)
    (hj : joinD (.str " ") [.lst [.str s, .str ((toString w : Str) ++ "x" ++ (toString h : Str)), .str "until", .str (whenT x), .str "strips", .str (toString t : Str)]] = some (.fz (.str r))) :
    m_Card_str [dCard s w h l t] mu = .ok (.fz (.str r)) ⟨[], mu⟩ := by
  subst hx
  obtain ⟨n, w0, w1, h0, h1, lo, t0, t1⟩ := k
  have hx : 0 ≤ x ∧ x < 9600 := by
    rcases lo with z | ⟨y, z, q1, q2⟩
    · cases z
    · cases z; exact ⟨q1, q2⟩
  have e1 := fun mu => show_ok (t := x) (mu := mu) hx.1 hx.2
  have l1 := log_small (i := w) (by omega) (by omega)
  have l2 := log_small (i := h) (by omega) (by omega)
  have l3 := log_small (i := t) (by omega) (by omega)
  have m1 := int_len (i := w) (by omega) (by omega)
  have m2 := int_len (i := h) (by omega) (by omega)
  have c1 : (toString w : Str).length + ("x" : Str).length ≤ 16777216 := by have : ("x" : Str).length = 1 := rfl; omega
  have c2 : ((toString w : Str) ++ "x").length + (toString h : Str).length ≤ 16777216 := by rw [strLen_append]; have : ("x" : Str).length = 1 := rfl; omega
  have f1 : fldO CT "name" (.fz (dCard s w h (.int x) t)) = some (.fz (.str s)) := rfl
  have f2 : fldO CT "wide" (.fz (dCard s w h (.int x) t)) = some (.fz (.int w)) := rfl
  have f3 : fldO CT "high" (.fz (dCard s w h (.int x) t)) = some (.fz (.int h)) := rfl
  have f4 : fldO CT "until" (.fz (dCard s w h (.int x) t)) = some (.fz (.int x)) := rfl
  have f5 : fldO CT "strips" (.fz (dCard s w h (.int x) t)) = some (.fz (.int t)) := rfl
  clear m1 m2 n
  unfold m_Card_str
  walk_at "stp"
theorem str_ok1 {s : Str} {w h t : Int} {l : D} {mu : List O} (k : CardOk s w h l t) (x : Int) (hx : l = .int x) (ht : ¬0 < t) (r : Str)
    (hj : joinD (.str " ") [.lst [.str s, .str ((toString w : Str) ++ "x" ++ (toString h : Str)), .str "until", .str (whenT x)]] = some (.fz (.str r))) :
    m_Card_str [dCard s w h l t] mu = .ok (.fz (.str r)) ⟨[], mu⟩ := by
  subst hx
  obtain ⟨n, w0, w1, h0, h1, lo, t0, t1⟩ := k
  have hx : 0 ≤ x ∧ x < 9600 := by
    rcases lo with z | ⟨y, z, q1, q2⟩
    · cases z
    · cases z; exact ⟨q1, q2⟩
  have e1 := fun mu => show_ok (t := x) (mu := mu) hx.1 hx.2
  have l1 := log_small (i := w) (by omega) (by omega)
  have l2 := log_small (i := h) (by omega) (by omega)
  have l3 := log_small (i := t) (by omega) (by omega)
  have m1 := int_len (i := w) (by omega) (by omega)
  have m2 := int_len (i := h) (by omega) (by omega)
  have c1 : (toString w : Str).length + ("x" : Str).length ≤ 16777216 := by have : ("x" : Str).length = 1 := rfl; omega
  have c2 : ((toString w : Str) ++ "x").length + (toString h : Str).length ≤ 16777216 := by rw [strLen_append]; have : ("x" : Str).length = 1 := rfl; omega
  have f1 : fldO CT "name" (.fz (dCard s w h (.int x) t)) = some (.fz (.str s)) := rfl
  have f2 : fldO CT "wide" (.fz (dCard s w h (.int x) t)) = some (.fz (.int w)) := rfl
  have f3 : fldO CT "high" (.fz (dCard s w h (.int x) t)) = some (.fz (.int h)) := rfl
  have f4 : fldO CT "until" (.fz (dCard s w h (.int x) t)) = some (.fz (.int x)) := rfl
  have f5 : fldO CT "strips" (.fz (dCard s w h (.int x) t)) = some (.fz (.int t)) := rfl
  clear m1 m2 n
  unfold m_Card_str
  walk_at "stp"
theorem str_ok2 {s : Str} {w h t : Int} {l : D} {mu : List O} (k : CardOk s w h l t) (hx : l = .non) (ht : 0 < t) (r : Str)
    (hj : joinD (.str " ") [.lst [.str s, .str ((toString w : Str) ++ "x" ++ (toString h : Str)), .str "strips", .str (toString t : Str)]] = some (.fz (.str r))) :
    m_Card_str [dCard s w h l t] mu = .ok (.fz (.str r)) ⟨[], mu⟩ := by
  subst hx
  obtain ⟨n, w0, w1, h0, h1, lo, t0, t1⟩ := k
  have l1 := log_small (i := w) (by omega) (by omega)
  have l2 := log_small (i := h) (by omega) (by omega)
  have l3 := log_small (i := t) (by omega) (by omega)
  have m1 := int_len (i := w) (by omega) (by omega)
  have m2 := int_len (i := h) (by omega) (by omega)
  have c1 : (toString w : Str).length + ("x" : Str).length ≤ 16777216 := by have : ("x" : Str).length = 1 := rfl; omega
  have c2 : ((toString w : Str) ++ "x").length + (toString h : Str).length ≤ 16777216 := by rw [strLen_append]; have : ("x" : Str).length = 1 := rfl; omega
  have f1 : fldO CT "name" (.fz (dCard s w h .non t)) = some (.fz (.str s)) := rfl
  have f2 : fldO CT "wide" (.fz (dCard s w h .non t)) = some (.fz (.int w)) := rfl
  have f3 : fldO CT "high" (.fz (dCard s w h .non t)) = some (.fz (.int h)) := rfl
  have f4 : fldO CT "until" (.fz (dCard s w h .non t)) = some (.fz .non) := rfl
  have f5 : fldO CT "strips" (.fz (dCard s w h .non t)) = some (.fz (.int t)) := rfl
  clear m1 m2 n
  unfold m_Card_str
  walk_at "stp"
theorem str_ok3 {s : Str} {w h t : Int} {l : D} {mu : List O} (k : CardOk s w h l t) (hx : l = .non) (ht : ¬0 < t) (r : Str)
    (hj : joinD (.str " ") [.lst [.str s, .str ((toString w : Str) ++ "x" ++ (toString h : Str))]] = some (.fz (.str r))) :
    m_Card_str [dCard s w h l t] mu = .ok (.fz (.str r)) ⟨[], mu⟩ := by
  subst hx
  obtain ⟨n, w0, w1, h0, h1, lo, t0, t1⟩ := k
  have l1 := log_small (i := w) (by omega) (by omega)
  have l2 := log_small (i := h) (by omega) (by omega)
  have l3 := log_small (i := t) (by omega) (by omega)
  have m1 := int_len (i := w) (by omega) (by omega)
  have m2 := int_len (i := h) (by omega) (by omega)
  have c1 : (toString w : Str).length + ("x" : Str).length ≤ 16777216 := by have : ("x" : Str).length = 1 := rfl; omega
  have c2 : ((toString w : Str) ++ "x").length + (toString h : Str).length ≤ 16777216 := by rw [strLen_append]; have : ("x" : Str).length = 1 := rfl; omega
  have f1 : fldO CT "name" (.fz (dCard s w h .non t)) = some (.fz (.str s)) := rfl
  have f2 : fldO CT "wide" (.fz (dCard s w h .non t)) = some (.fz (.int w)) := rfl
  have f3 : fldO CT "high" (.fz (dCard s w h .non t)) = some (.fz (.int h)) := rfl
  have f4 : fldO CT "until" (.fz (dCard s w h .non t)) = some (.fz .non) := rfl
  have f5 : fldO CT "strips" (.fz (dCard s w h .non t)) = some (.fz (.int t)) := rfl
  clear m1 m2 n
  unfold m_Card_str
  walk_at "stp"
def wordsC (s : Str) (w h : Int) (l : D) (t : Int) : List Str :=
  [s, (toString w : Str) ++ "x" ++ (toString h : Str)] ++ (match l with | .int x => (["until", whenT x] : List Str) | _ => []) ++ (if 0 < t then (["strips", (toString t : Str)] : List Str) else [])
def cardT (s : Str) (w h : Int) (l : D) (t : Int) : Str := Txt.join " " (wordsC s w h l t)
theorem when_len {x : Int} (h0 : 0 ≤ x) (h1 : x < 9600) : (whenT x).length ≤ 70 := by
  have l2 := int_len (i := x / 24) (by omega) (by omega)
  have l4 : (Txt.zfill (toString (x % 24) : Str) 2).length = 2 := by rw [two_figs' (by omega) (by omega), strLen_append]; rfl
  unfold whenT
  rw [strLen_append, strLen_append, l4]
  have : ("." : Str).length = 1 := rfl
  omega
theorem words_len {s : Str} {w h t : Int} {l : D} (k : CardOk s w h l t) : ((wordsC s w h l t).map (·.length)).sum + (wordsC s w h l t).length * (" " : Str).length ≤ 1000 := by
  obtain ⟨n, w0, w1, h0, h1, lo, t0, t1⟩ := k
  have m1 := int_len (i := w) (by omega) (by omega)
  have m2 := int_len (i := h) (by omega) (by omega)
  have m3 := int_len (i := t) (by omega) (by omega)
  have ns := n.2.1
  have q1 : ("x" : Str).length = 1 := rfl
  have q2 : (" " : Str).length = 1 := rfl
  have q3 : ("until" : Str).length = 5 := rfl
  have q4 : ("strips" : Str).length = 6 := rfl
  have q5 : ((toString w : Str) ++ "x" ++ (toString h : Str)).length ≤ 131 := by rw [strLen_append, strLen_append]; omega
  unfold wordsC
  rcases lo with rfl | ⟨x, rfl, x0, x1⟩
  · by_cases ht : 0 < t <;> simp only [ht, if_true, if_false, List.cons_append, List.nil_append, List.append_nil, List.map_cons, List.map_nil, List.sum_cons, List.sum_nil, List.length_cons, List.length_nil, q2, q4] <;> omega
  · have wl := when_len x0 x1
    by_cases ht : 0 < t <;> simp only [ht, if_true, if_false, List.cons_append, List.nil_append, List.append_nil, List.map_cons, List.map_nil, List.sum_cons, List.sum_nil, List.length_cons, List.length_nil, q2, q3, q4] <;> omega
theorem str_ok {s : Str} {w h t : Int} {l : D} {mu : List O} (k : CardOk s w h l t) : m_Card_str [dCard s w h l t] mu = .ok (.fz (.str (cardT s w h l t))) ⟨[], mu⟩ := by
  have hj := st_joi (a := " ") (strsD_map (wordsC s w h l t)) (Nat.le_trans (words_len k) (by decide))
  have hl := k.l
  unfold cardT
  by_cases ht : 0 < t
  · rcases hl with rfl | ⟨x, rfl, _, _⟩
    · exact str_ok2 k rfl ht _ (by rw [← hj]; unfold wordsC; rw [if_pos ht]; rfl)
    · exact str_ok0 k x rfl ht _ (by rw [← hj]; unfold wordsC; rw [if_pos ht]; rfl)
  · rcases hl with rfl | ⟨x, rfl, _, _⟩
    · exact str_ok3 k rfl ht _ (by rw [← hj]; unfold wordsC; rw [if_neg ht]; rfl)
    · exact str_ok1 k x rfl ht _ (by rw [← hj]; unfold wordsC; rw [if_neg ht]; rfl)
theorem card_len {s : Str} {w h t : Int} {l : D} (k : CardOk s w h l t) : (cardT s w h l t).length ≤ 1000 := Nat.le_trans (join_le _ _) (words_len k)
theorem card_text_eq (s W H U T : Str) :
    s ++ " " ++ W ++ "x" ++ H ++ (" until " ++ U) ++ (" strips " ++ T) = Txt.join " " [s, W ++ "x" ++ H, "until", U, "strips", T] ∧
    s ++ " " ++ W ++ "x" ++ H ++ (" until " ++ U) ++ "" = Txt.join " " [s, W ++ "x" ++ H, "until", U] ∧
    s ++ " " ++ W ++ "x" ++ H ++ "" ++ (" strips " ++ T) = Txt.join " " [s, W ++ "x" ++ H, "strips", T] ∧
    s ++ " " ++ W ++ "x" ++ H ++ "" ++ "" = Txt.join " " [s, W ++ "x" ++ H] := by
  have e1 : (" until " : Str) = " " ++ ("until" ++ " ") := rfl
  have e2 : (" strips " : Str) = " " ++ ("strips" ++ " ") := rfl
  refine ⟨?_, ?_, ?_, ?_⟩ <;> simp only [join_two, join_one, app_empty, e1, e2, str_assoc]
theorem card_text_ok {s : Str} {w h t : Int} {l : D} {mu : List O} (k : CardOk s w h l t) : m_law_card_text [.tup [.str s, .int w, .int h, l, .int t]] mu = .ok (.fz (.str (cardT s w h l t))) ⟨[], mu⟩ := by
  obtain ⟨n, w0, w1, h0, h1, lo, t0, t1⟩ := k
  have l1 := log_small (i := w) (by omega) (by omega)
  have l2 := log_small (i := h) (by omega) (by omega)
  have l3 := log_small (i := t) (by omega) (by omega)
  have m1 := int_len (i := w) (by omega) (by omega)
  have m2 := int_len (i := h) (by omega) (by omega)
  have m3 := int_len (i := t) (by omega) (by omega)
  have ns := n.2.1
  have a1 : (" " : Str).length = 1 := rfl
  have a2 : ("x" : Str).length = 1 := rfl
  have a3 : (" until " : Str).length = 7 := rfl
  have a4 : (" strips " : Str).length = 8 := rfl
  have a5 : ("" : Str).length = 0 := rfl
  have r1 : ∀ i : Int, i.natAbs.log2 < 1920 → ∀ env mu, runS [("Card", m_Card_str)] strD (.int i) ⟨env, mu⟩ = .ok (.fz (.str (toString i))) ⟨env, mu⟩ := fun i hi env mu => by
    show ofO (strD (.int i)) _ = _
    rw [st_stri hi]; rfl
  have r2 := r1 w l1
  have r3 := r1 h l2
  have r4 := r1 t l3
  have eq := fun U => card_text_eq s (toString w) (toString h) U (toString t)
  unfold cardT wordsC
  have b1 : s.length + (" " : Str).length ≤ 16777216 := by omega
  have b2 : (s ++ " ").length + (toString w : Str).length ≤ 16777216 := by rw [strLen_append]; omega
  have b3 : (s ++ " " ++ toString w).length + ("x" : Str).length ≤ 16777216 := by rw [strLen_append, strLen_append]; omega
  have b4 : (s ++ " " ++ toString w ++ "x").length + (toString h : Str).length ≤ 16777216 := by rw [strLen_append, strLen_append, strLen_append]; omega
  have b5 : (s ++ " " ++ toString w ++ "x" ++ toString h).length ≤ 1000 := by rw [strLen_append, strLen_append, strLen_append, strLen_append]; omega
  have b6 : (" strips " : Str).length + (toString t : Str).length ≤ 16777216 := by omega
  have c1 : ∀ y : Str, y.length ≤ 1000 → (s ++ " " ++ toString w ++ "x" ++ toString h).length + y.length ≤ 16777216 := fun y hy => by omega
  have c2 : ∀ y z : Str, y.length ≤ 1000 → z.length ≤ 1000 → (s ++ " " ++ toString w ++ "x" ++ toString h ++ y).length + z.length ≤ 16777216 := fun y z hy hz => by rw [strLen_append]; omega
  have c3 : (" strips " ++ (toString t : Str)).length ≤ 1000 := by rw [strLen_append]; omega
  rcases lo with rfl | ⟨x, rfl, x0, x1⟩
  · have d1 := c1 "" (by omega)
    have d2 := c2 "" _ (by omega) c3
    have d3 := c2 "" "" (by omega) (by omega)
    obtain ⟨_, _, q3, q4⟩ := eq ""
    clear r1 eq c1 c2 c3 b5 a1 a2 a3 a4 a5 ns m1 m2 m3 n
    by_cases ht : 0 < t
    · simp only [if_pos ht, List.nil_append, List.cons_append, List.append_nil]
      rw [← q3]
      clear q3 q4
      unfold m_law_card_text
      walk_at "stp"
    · simp only [if_neg ht, List.nil_append, List.cons_append, List.append_nil]
      rw [← q4]
      clear q3 q4
      unfold m_law_card_text
      walk_at "stp"
  · have wl := when_len x0 x1
    have e1 := fun mu => when_ok (t := x) (mu := mu) x0 x1
    have b7 : (" until " : Str).length + (whenT x).length ≤ 16777216 := by omega
    have c4 : (" until " ++ whenT x).length ≤ 1000 := by rw [strLen_append]; omega
    have d1 := c1 _ c4
    have d2 := c2 _ _ c4 c3
    have d3 := c2 _ "" c4 (by omega)
    obtain ⟨q1, q2, _, _⟩ := eq (whenT x)
    clear r1 eq c1 c2 c3 c4 b5 a1 a2 a3 a4 a5 ns m1 m2 m3 n wl
    by_cases ht : 0 < t
    · simp only [if_pos ht, List.nil_append, List.cons_append, List.append_nil]
      rw [← q1]
      clear q1 q2
      unfold m_law_card_text
      walk_at "stp"
    · simp only [if_neg ht, List.nil_append, List.cons_append, List.append_nil]
      rw [← q2]
      clear q1 q2
      unfold m_law_card_text
      walk_at "stp"
theorem behR_u {b w : Str} {r : List Str} : behR (w :: b :: r) w = (some b, r) := if_pos rfl
theorem behR_n {a b w : Str} {r : List Str} (h : a ≠ w) : behR (a :: b :: r) w = (none, a :: b :: r) := if_neg h
theorem behR_0 {w : Str} : behR [] w = (none, []) := rfl
theorem behR_1 {a w : Str} : behR [a] w = (none, [a]) := rfl
theorem cardR_eq (s z : Str) (r : List Str) : cardR (s :: z :: r) = if nameS s = true then (match sizesR (Txt.split z "x"), untR (behR r "until").1, strR (behR (behR r "until").2 "strips").1, (behR (behR r "until").2 "strips").2 with
    | some (m, n), some l, some e, [] => some (s, m, n, l, e)
    | _, _, _, _ => none) else none := rfl
/-- the words behind the size -/
def restR (r : List Str) : Option (D × Int) := match untR (behR r "until").1, strR (behR (behR r "until").2 "strips").1, (behR (behR r "until").2 "strips").2 with
  | some l, some e, [] => some (l, e)
  | _, _, _ => none
theorem cardR_rest (s z : Str) (r : List Str) : cardR (s :: z :: r) = if nameS s = true then (match sizesR (Txt.split z "x"), restR r with
    | some (m, n), some (l, e) => some (s, m, n, l, e)
    | _, _ => none) else none := by
  rw [cardR_eq]
  unfold restR
  rcases sizesR (Txt.split z "x") with _ | ⟨m, n⟩
  · rfl
  · rcases untR (behR r "until").1 with _ | l
    · rfl
    · rcases strR (behR (behR r "until").2 "strips").1 with _ | e
      · rfl
      · rcases (behR (behR r "until").2 "strips").2 with _ | ⟨a, q⟩ <;> rfl
theorem us_ne : ("strips" : Str) ≠ "until" := by decide
theorem restR_0 : restR [] = some (.non, 0) := rfl
theorem restR_1 (a : Str) : restR [a] = none := rfl
theorem restR_2 (a b : Str) : restR [a, b] = tailR [a] [b] := by
  unfold restR
  by_cases h : a = "until"
  · subst h
    rw [behR_u]
    dsimp only [behR_0, strR, untR, tailR]
    rw [if_pos rfl]
    cases momOf b <;> rfl
  · rw [behR_n h]
    by_cases h2 : a = "strips"
    · subst h2
      dsimp only
      rw [behR_u]
      dsimp only [strR, untR, tailR]
      rw [if_neg h, if_pos rfl]
      cases numOf b 1 99 <;> rfl
    · dsimp only
      rw [behR_n h2]
      dsimp only [strR, untR, tailR]
      rw [if_neg h, if_neg h2]
theorem restR_3 (a b c : Str) : restR [a, b, c] = none := by
  unfold restR
  by_cases h : a = "until"
  · subst h
    rw [behR_u]
    dsimp only [behR_1, strR, untR]
    cases momOf b <;> rfl
  · rw [behR_n h]
    by_cases h2 : a = "strips"
    · subst h2
      dsimp only
      rw [behR_u]
      dsimp only [strR, untR]
      cases numOf b 1 99 <;> rfl
    · dsimp only
      rw [behR_n h2]
      rfl
theorem restR_4 (a b c d : Str) : restR [a, b, c, d] = tailR [a, c] [b, d] := by
  unfold restR
  by_cases h : a = "until"
  · subst h
    rw [behR_u]
    dsimp only
    by_cases h2 : c = "strips"
    · subst h2
      rw [behR_u]
      dsimp only [strR, untR, tailR]
      rw [if_pos ⟨rfl, rfl⟩]
      cases momOf b <;> cases numOf d 1 99 <;> rfl
    · rw [behR_n h2]
      dsimp only [strR, untR, tailR]
      rw [if_neg fun z => h2 z.2]
      cases momOf b <;> rfl
  · rw [behR_n h]
    dsimp only [tailR]
    rw [if_neg fun z => h z.1]
    by_cases h2 : a = "strips"
    · subst h2
      rw [behR_u]
      dsimp only [strR, untR]
      cases numOf b 1 99 <;> rfl
    · rw [behR_n h2]
      rfl
theorem restR_m (a b c d e : Str) (r : List Str) : restR (a :: b :: c :: d :: e :: r) = none := by
  unfold restR
  by_cases h : a = "until"
  · subst h
    rw [behR_u]
    dsimp only
    by_cases h2 : c = "strips"
    · subst h2
      rw [behR_u]
      dsimp only [strR, untR]
      cases momOf b <;> cases numOf d 1 99 <;> rfl
    · rw [behR_n h2]
      dsimp only [strR, untR]
      cases momOf b <;> rfl
  · rw [behR_n h]
    dsimp only
    by_cases h2 : a = "strips"
    · subst h2
      rw [behR_u]
      dsimp only [strR, untR]
      cases numOf b 1 99 <;> rfl
    · rw [behR_n h2]
      rfl
theorem cardR_len {ws : List Str} (h : lenB ws.length = false) : cardR ws = none := by
  have n0 : ∀ (s z : Str) (r : List Str), restR r = none → cardR (s :: z :: r) = none := fun s z r e => by
    rw [cardR_rest, e]
    cases nameS s
    · rfl
    · rcases sizesR (Txt.split z "x") with _ | ⟨m, n⟩ <;> rfl
  match ws, h with
  | [], _ => rfl
  | [a], _ => rfl
  | [s, z], h => exact absurd h (by simp [lenB])
  | [s, z, a], _ => exact n0 _ _ _ (restR_1 a)
  | [s, z, a, b], h => exact absurd h (by simp [lenB])
  | [s, z, a, b, c], _ => exact n0 _ _ _ (restR_3 a b c)
  | [s, z, a, b, c, d], h => exact absurd h (by simp [lenB])
  | s :: z :: a :: b :: c :: d :: e :: r, _ => exact n0 _ _ _ (restR_m a b c d e r)
theorem cardR_due (s z : Str) {r ms vs : List Str} (e : restR r = tailR ms vs) : cardR (s :: z :: r) = dueR s z ms vs := by
  rw [cardR_rest, e]; rfl
theorem tail_some {r : List Str} {l : D} {e : Int} (h : restR r = some (l, e)) : (r = [] ∧ l = .non ∧ e = 0) ∨ (∃ (b : Str) (x : Int), r = [("until" : Str), b] ∧ momOf b = some x ∧ l = .int x ∧ e = 0) ∨ (∃ b : Str, r = [("strips" : Str), b] ∧ numOf b 1 99 = some e ∧ l = .non) ∨
    ∃ (b d : Str) (x : Int), r = [("until" : Str), b, "strips", d] ∧ momOf b = some x ∧ l = .int x ∧ numOf d 1 99 = some e := by
  match r, h with
  | [], h => rw [restR_0] at h; cases h; exact .inl ⟨rfl, rfl, rfl⟩
  | [a], h => rw [restR_1] at h; cases h
  | [a, b], h =>
    rw [restR_2] at h
    dsimp only [tailR] at h
    by_cases h1 : a = "until"
    · subst h1
      rw [if_pos rfl] at h
      cases e1 : momOf b with
      | none => rw [e1] at h; cases h
      | some x => rw [e1] at h; cases h; exact .inr (.inl ⟨b, x, rfl, e1, rfl, rfl⟩)
    · rw [if_neg h1] at h
      by_cases h2 : a = "strips"
      · subst h2
        rw [if_pos rfl] at h
        cases e1 : numOf b 1 99 with
        | none => rw [e1] at h; cases h
        | some x => rw [e1] at h; cases h; exact .inr (.inr (.inl ⟨b, rfl, e1, rfl⟩))
      · rw [if_neg h2] at h; cases h
  | [a, b, c], h => rw [restR_3] at h; cases h
  | [a, b, c, d], h =>
    rw [restR_4] at h
    dsimp only [tailR] at h
    by_cases h1 : a = "until" ∧ c = "strips"
    · obtain ⟨rfl, rfl⟩ := h1
      rw [if_pos ⟨rfl, rfl⟩] at h
      cases e1 : momOf b with
      | none => rw [e1] at h; cases h
      | some x =>
        cases e2 : numOf d 1 99 with
        | none => rw [e1, e2] at h; cases h
        | some y => rw [e1, e2] at h; cases h; exact .inr (.inr (.inr ⟨b, d, x, rfl, e1, rfl, e2⟩))
    · rw [if_neg h1] at h; cases h
  | a :: b :: c :: d :: e :: q, h => rw [restR_m] at h; cases h
theorem cardR_some {ws : List Str} {s : Str} {m n e : Int} {l : D} (h : cardR ws = some (s, m, n, l, e)) : ∃ z r, ws = s :: z :: r ∧ nameS s = true ∧ sizesR (Txt.split z "x") = some (m, n) ∧ restR r = some (l, e) := by
  match ws, h with
  | [], h => cases h
  | [a], h => cases h
  | a :: z :: r, h =>
    rw [cardR_rest] at h
    cases hn : nameS a with
    | false => rw [hn, if_neg (by decide)] at h; cases h
    | true =>
      rw [hn, if_pos rfl] at h
      cases hz : sizesR (Txt.split z "x") with
      | none => rw [hz] at h; cases h
      | some mn =>
        obtain ⟨m', n'⟩ := mn
        cases hr : restR r with
        | none => rw [hz, hr] at h; cases h
        | some le =>
          obtain ⟨l', e'⟩ := le
          rw [hz, hr] at h
          cases h
          exact ⟨z, r, rfl, hn, hz, hr⟩
theorem str_ext {s t : Str} (h : s.cps.toList = t.cps.toList) : s = t := by
  obtain ⟨a⟩ := s
  obtain ⟨b⟩ := t
  have h : a.toList = b.toList := h
  rw [Array.toList_inj.mp h]
theorem len8 : (toString (8 : Int) : Str).length = 1 := by decide +kernel
theorem numOf_canon {s : Str} {lo hi n : Int} (hh : hi = 9 ∨ hi = 99 ∨ hi = 399 ∨ hi = 8) (h : numOf s lo hi = some n) : (toString n : Str) = s := by
  obtain ⟨a1, a2, a3, a4⟩ : (1 : Int) ≤ (s.length : Int) ∧ (s.length : Int) ≤ ((toString hi : Str).length : Int) ∧ digB s = true ∧ zeroB s = false :=
    Classical.byContradiction fun z => by rw [numOf_no z] at h; cases h
  have l := len_hi
  have l8 := len8
  have l3 : s.length ≤ 3 := by rcases hh with rfl | rfl | rfl | rfl <;> omega
  obtain ⟨k, hk⟩ := dig_int a3 (by omega) (by omega)
  rw [numOf_yes a1 a2 a3 a4 hk] at h
  split at h
  · cases h
    exact canon a3 (by omega) l3 a4 hk
  · cases h
theorem hour2 : ∀ a ∈ List.range 10, ∀ b ∈ List.range 10, Txt.zfill (toString ((PySem.NumText.digitsVal [48 + a, 48 + b] : Nat) : Int) : Str) 2 = ⟨#[48 + a, 48 + b]⟩ := by decide +kernel
theorem hour_canon {s : Str} {h : Int} (dg : digB s = true) (hl : s.length = 2) (hn : PySem.intText? s = some h) : Txt.zfill (toString h : Str) 2 = s := by
  have ad := dig_all dg
  have e : PySem.intText? s = some ((PySem.NumText.digitsVal s.cps.toList : Nat) : Int) := PySem.intText_digits ad (fun e => by rw [len_list, e] at hl; simp at hl) (by omega)
  rw [hn] at e
  cases e
  obtain ⟨⟨l⟩⟩ := s
  have hl : l.length = 2 := hl
  match l, hl, ad with
  | [a, b], _, ad =>
    have ha := ad a (by simp)
    have hb := ad b (by simp)
    have := hour2 (a - 48) (List.mem_range.mpr (by omega)) (b - 48) (List.mem_range.mpr (by omega))
    rw [show 48 + (a - 48) = a by omega, show 48 + (b - 48) = b by omega] at this
    exact this
theorem mom_canon {t : Str} {x : Int} (h : momOf t = some x) : whenT x = t := by
  rw [mom_law] at h
  by_cases c : 4 ≤ t.length ∧ t.cps.toList[t.length - 3]? = some 46 ∧ digB (cutS t (some (-2)) none) = true
  case neg => rw [if_neg c] at h; cases h
  rw [if_pos c] at h
  obtain ⟨c1, c2, c3⟩ := c
  have k1 := cut_to_neg (s := t) (k := 3) (by decide) (by omega)
  have k2 := cut_from_neg (s := t) (k := 2) (by decide) (by omega)
  have k1 : (cutS t none (some (-3))).cps.toList = t.cps.toList.take (t.length - 3) := k1
  have k2 : (cutS t (some (-2)) none).cps.toList = t.cps.toList.drop (t.length - 2) := k2
  have hl : (cutS t (some (-2)) none).length = 2 := by
    rw [len_list, k2, List.length_drop, ← len_list]; omega
  cases hd : numOf (cutS t none (some (-3))) 0 399 with
  | none => rw [hd] at h; cases h
  | some d =>
    rw [hd] at h
    have dle := numOf_le hd
    have dc := numOf_canon (.inr (.inr (.inl rfl))) hd
    obtain ⟨n, hn⟩ := dig_int c3 (by omega) (by omega)
    have hc := hour_canon c3 hl hn
    dsimp only at h
    rw [hn] at h
    dsimp only at h
    split at h
    · rename_i h24
      cases h
      unfold whenT
      rw [show (d * 24 + (n : Int)) / 24 = d by omega, show (d * 24 + (n : Int)) % 24 = n by omega, dc, hc]
      refine str_ext ?_
      rw [app_list, app_list, k1, k2]
      have e46 : ("." : Str).cps.toList = [46] := rfl
      rw [e46]
      have hlt : t.length - 3 < t.cps.toList.length := by rw [← len_list]; omega
      have e3 : t.cps.toList.drop (t.length - 3) = 46 :: t.cps.toList.drop (t.length - 2) := by
        rw [List.drop_eq_getElem_cons hlt, show t.length - 3 + 1 = t.length - 2 by omega]
        rw [List.getElem?_eq_getElem hlt] at c2
        rw [Option.some.inj c2]
      rw [List.append_assoc, List.singleton_append, ← e3, List.take_append_drop]
    · cases h
theorem join_ab (y a b : Str) : Txt.join y [a, b] = a ++ y ++ b := by
  refine str_ext ?_
  rw [app_list, app_list]
  have e := TL.tl_join y [a, b]
  rw [← TL.join_eq] at e
  show TL.tl (Txt.join y [a, b]) = _
  rw [e, List.append_assoc]
  rfl
theorem sizes_canon {z : Str} {m n : Int} (h : sizesR (Txt.split z "x") = some (m, n)) : (toString m : Str) ++ "x" ++ (toString n : Str) = z := by
  have j := join_split z "x"
  unfold sizesR at h
  split at h
  · rename_i a b hs
    rw [hs] at j
    cases ha : numOf a 1 9 with
    | none => rw [ha] at h; cases h
    | some x =>
      cases hb : numOf b 1 9 with
      | none => rw [ha, hb] at h; cases h
      | some y =>
        rw [ha, hb] at h
        cases h
        rw [numOf_canon (.inl rfl) ha, numOf_canon (.inl rfl) hb, ← join_ab, j]
  · cases h
theorem cardR_ok {ws : List Str} {s : Str} {m n e : Int} {l : D} (h : cardR ws = some (s, m, n, l, e)) : CardOk s m n l e ∧ wordsC s m n l e = ws := by
  obtain ⟨z, r, rfl, hn, hz, hr⟩ := cardR_some h
  have hs := sizesR_le hz
  have zc := sizes_canon hz
  have hn := nameS_iff.mp hn
  rcases tail_some hr with ⟨rfl, rfl, rfl⟩ | ⟨b, x, rfl, hb, rfl, rfl⟩ | ⟨b, rfl, hb, rfl⟩ | ⟨b, d, x, rfl, hb, rfl, hd⟩
  · refine ⟨⟨hn, hs.1.1, hs.1.2, hs.2.1, hs.2.2, .inl rfl, by omega, by omega⟩, ?_⟩
    unfold wordsC
    rw [zc]; rfl
  · have hx := momOf_lt hb
    refine ⟨⟨hn, hs.1.1, hs.1.2, hs.2.1, hs.2.2, .inr ⟨x, rfl, hx.1, hx.2⟩, by omega, by omega⟩, ?_⟩
    unfold wordsC
    rw [zc]
    dsimp only
    rw [mom_canon hb]; rfl
  · have he := numOf_le hb
    refine ⟨⟨hn, hs.1.1, hs.1.2, hs.2.1, hs.2.2, .inl rfl, by omega, he.2⟩, ?_⟩
    unfold wordsC
    rw [zc, if_pos (by omega), numOf_canon (.inr (.inl rfl)) hb]; rfl
  · have he := numOf_le hd
    have hx := momOf_lt hb
    refine ⟨⟨hn, hs.1.1, hs.1.2, hs.2.1, hs.2.2, .inr ⟨x, rfl, hx.1, hx.2⟩, by omega, he.2⟩, ?_⟩
    unfold wordsC
    rw [zc, if_pos (by omega), numOf_canon (.inr (.inl rfl)) hd]
    dsimp only
    rw [mom_canon hb]; rfl
theorem sizes_all : ∀ a ∈ List.range 10, ∀ b ∈ List.range 10, a = 0 ∨ b = 0 ∨ sizesR (Txt.split ((toString ((a : Nat) : Int) : Str) ++ "x" ++ (toString ((b : Nat) : Int) : Str)) "x") = some ((a : Int), (b : Int)) := by decide +kernel
theorem strips_all : ∀ a ∈ List.range 100, a = 0 ∨ numOf (toString ((a : Nat) : Int) : Str) 1 99 = some (a : Int) := by decide +kernel
theorem free_int : ∀ a ∈ List.range 400, (32 : Nat) ∉ (toString ((a : Nat) : Int) : Str).cps.toList := by decide +kernel
theorem free_hour : ∀ a ∈ List.range 24, (32 : Nat) ∉ (Txt.zfill (toString ((a : Nat) : Int) : Str) 2).cps.toList := by decide +kernel
theorem free_i {m : Int} (h0 : 0 ≤ m) (h1 : m < 400) : (32 : Nat) ∉ (toString m : Str).cps.toList := by
  have := free_int m.toNat (List.mem_range.mpr (by omega))
  rwa [Int.toNat_of_nonneg h0] at this
theorem free_app {a b : Str} (ha : (32 : Nat) ∉ a.cps.toList) (hb : (32 : Nat) ∉ b.cps.toList) : (32 : Nat) ∉ (a ++ b).cps.toList := by
  rw [app_list]
  exact fun z => (List.mem_append.mp z).elim ha hb
theorem free_when {x : Int} (h0 : 0 ≤ x) (h1 : x < 9600) : (32 : Nat) ∉ (whenT x).cps.toList := by
  have h := free_hour (x % 24).toNat (List.mem_range.mpr (by omega))
  rw [Int.toNat_of_nonneg (by omega)] at h
  exact free_app (free_app (free_i (by omega) (by omega)) (by decide)) h
theorem free_name {s : Str} (h : NameOk s) : (32 : Nat) ∉ s.cps.toList := fun z => absurd (h.2.2.1 32 z) (by decide)
theorem words_free {s : Str} {m n e : Int} {l : D} (k : CardOk s m n l e) : ∀ p ∈ wordsC s m n l e, (32 : Nat) ∉ p.cps.toList := by
  obtain ⟨hn, w0, w1, h0, h1, lo, t0, t1⟩ := k
  have f1 := free_name hn
  have f2 : (32 : Nat) ∉ ((toString m : Str) ++ "x" ++ (toString n : Str)).cps.toList := free_app (free_app (free_i (by omega) (by omega)) (by decide)) (free_i (by omega) (by omega))
  have f3 : (32 : Nat) ∉ ("until" : Str).cps.toList := by decide
  have f4 : (32 : Nat) ∉ ("strips" : Str).cps.toList := by decide
  have f5 : (32 : Nat) ∉ (toString e : Str).cps.toList := free_i t0 (by omega)
  intro p hp
  unfold wordsC at hp
  rcases lo with rfl | ⟨x, rfl, x0, x1⟩
  · by_cases ht : 0 < e
    · rw [if_pos ht] at hp
      simp only [List.append_nil, List.cons_append, List.nil_append, List.mem_cons, List.not_mem_nil, or_false] at hp
      rcases hp with rfl | rfl | rfl | rfl
      · exact f1
      · exact f2
      · exact f4
      · exact f5
    · rw [if_neg ht] at hp
      simp only [List.append_nil, List.cons_append, List.nil_append, List.mem_cons, List.not_mem_nil, or_false] at hp
      rcases hp with rfl | rfl
      · exact f1
      · exact f2
  · have f6 := free_when x0 x1
    by_cases ht : 0 < e
    · rw [if_pos ht] at hp
      simp only [List.append_nil, List.cons_append, List.nil_append, List.mem_cons, List.not_mem_nil, or_false] at hp
      rcases hp with rfl | rfl | rfl | rfl | rfl | rfl
      · exact f1
      · exact f2
      · exact f3
      · exact f6
      · exact f4
      · exact f5
    · rw [if_neg ht] at hp
      simp only [List.append_nil, List.cons_append, List.nil_append, List.mem_cons, List.not_mem_nil, or_false] at hp
      rcases hp with rfl | rfl | rfl | rfl
      · exact f1
      · exact f2
      · exact f3
      · exact f6
theorem words_text {s : Str} {m n e : Int} {l : D} (k : CardOk s m n l e) : wordsT (cardT s m n l e) = wordsC s m n l e :=
  TL.split_join (s := 32) (S := []) rfl (by decide +kernel) (by unfold wordsC; simp) (words_free k)
theorem cardR_words {s : Str} {m n e : Int} {l : D} (k : CardOk s m n l e) : cardR (wordsC s m n l e) = some (s, m, n, l, e) := by
  obtain ⟨hn, w0, w1, h0, h1, lo, t0, t1⟩ := k
  have hz : sizesR (Txt.split ((toString m : Str) ++ "x" ++ (toString n : Str)) "x") = some (m, n) := by
    have := sizes_all m.toNat (List.mem_range.mpr (by omega)) n.toNat (List.mem_range.mpr (by omega))
    rw [Int.toNat_of_nonneg (by omega), Int.toNat_of_nonneg (by omega)] at this
    rcases this with h | h | h
    · omega
    · omega
    · exact h
  have hs : nameS s = true := nameS_iff.mpr hn
  have he : 0 < e → numOf (toString e : Str) 1 99 = some e := fun h => by
    have := strips_all e.toNat (List.mem_range.mpr (by omega))
    rw [Int.toNat_of_nonneg (by omega)] at this
    rcases this with h | h
    · omega
    · exact h
  unfold wordsC
  rcases lo with rfl | ⟨x, rfl, x0, x1⟩
  · by_cases ht : 0 < e
    · rw [if_pos ht]
      show cardR (s :: _ :: [("strips" : Str), (toString e : Str)]) = _
      rw [cardR_rest, hs, if_pos rfl, hz, restR_2]
      dsimp only [tailR]
      rw [if_neg us_ne, if_pos rfl, he ht]
      rfl
    · rw [if_neg ht]
      obtain rfl : e = 0 := by omega
      show cardR (s :: _ :: []) = _
      rw [cardR_rest, hs, if_pos rfl, hz]
      rfl
  · have hm := mom_when x0 x1
    by_cases ht : 0 < e
    · rw [if_pos ht]
      show cardR (s :: _ :: [("until" : Str), whenT x, "strips", (toString e : Str)]) = _
      rw [cardR_rest, hs, if_pos rfl, hz, restR_4]
      dsimp only [tailR]
      rw [if_pos ⟨rfl, rfl⟩, hm, he ht]
    · rw [if_neg ht]
      obtain rfl : e = 0 := by omega
      show cardR (s :: _ :: [("until" : Str), whenT x]) = _
      rw [cardR_rest, hs, if_pos rfl, hz, restR_2]
      dsimp only [tailR]
      rw [if_pos rfl, hm]
      rfl
theorem st22 : stepI 2 2 2 = [] ∧ stepI 3 2 2 = [] ∧ stepI 2 2 4 = [2] ∧ stepI 3 2 4 = [3] ∧ stepI 2 2 6 = [2, 4] ∧ stepI 3 2 6 = [3, 5] := by decide +kernel
theorem ev2 (a : Int) (ds : List D) {n : Nat} {ns : List Nat} {es : List D} (h : ds.length = n) (e : stepI a 2 n = ns) (p : pickN ns ds = es) : evD a (.lst ds) = some (.lst es) := by
  rw [sk_ev, h, e, p]
theorem words_join (t : Str) : Txt.join " " (wordsT t) = t := join_split t " "
theorem due_str {t : Str} {n : Nat} {mu : List O} (h : SmT t n) (hn : n ≤ 800000) : m_law_due [.str t] mu = .ok (.fz (dueD (cardR (wordsT t)))) ⟨[], mu⟩ := by
  have hl : t.length ≤ 800000 := Nat.le_trans h.len hn
  by_cases lb : lenB (wordsT t).length = true
  case neg =>
    have lb : lenB (wordsT t).length = false := by cases e : lenB (wordsT t).length with
      | true => exact absurd e lb
      | false => rfl
    rw [cardR_len lb]
    exact due_len (by omega) lb
  have s1 : splitD (.str t) [.str " "] = some (.lst ((wordsT t).map .str)) := sk_split (by decide) (by omega)
  have sm : ∀ p ∈ wordsT t, SmT p n := fun p hp => split_mem hp h
  have ni := nin_len (wordsT t).length
  rw [lb] at ni
  have ok : ∀ p ∈ wordsT t, PyData.strOk p = true := fun p hp => by
    unfold PyData.strOk
    rw [← Array.all_toList]
    exact List.all_eq_true.mpr fun c hc => decide_eq_true (Nat.lt_trans ((sm p hp).chr c hc) (by decide))
  have pl : ∀ p ∈ wordsT t, p.length ≤ 1000000 := fun p hp => by have := (sm p hp).len; omega
  have i0 : ∀ (s z : Str) (r : List Str), ixD (.lst ((s :: z :: r).map D.str)) (.int 0) = some (.fz (.str s)) := fun s z r => by rw [st_ixl]; show Option.map _ (atI _ ((0 : Nat) : Int)) = _; rw [atN]; rfl
  have i1 : ∀ (s z : Str) (r : List Str), ixD (.lst ((s :: z :: r).map D.str)) (.int 1) = some (.fz (.str z)) := fun s z r => by rw [st_ixl]; show Option.map _ (atI _ ((1 : Nat) : Int)) = _; rw [atN]; rfl
  generalize hw : wordsT t = ws at *
  match ws, lb with
  | [s, z], _ =>
    rw [cardR_due s z (ms := []) (vs := []) rfl]
    exact due_mid (WD := [.str s, .str z]) (MB := true) s1 (by simp) ni (i0 s z []) (i1 s z []) (ev2 2 _ rfl st22.1 rfl) (ev2 3 _ rfl st22.2.1 rfl) in_mark0 (fun h => nomatch h) (pl s (by simp)) (pl z (by simp)) (fun v hv => (nomatch hv)) (.inl ⟨rfl, rfl⟩)
  | [s, z, a, b], _ =>
    rw [cardR_due s z (restR_2 a b)]
    refine due_mid (WD := [.str s, .str z, .str a, .str b]) (MB := decide (a = "until" ∨ a = "strips")) s1 (by simp) ni (i0 s z [a, b]) (i1 s z [a, b]) (ev2 2 _ rfl st22.2.2.1 rfl) (ev2 3 _ rfl st22.2.2.2.1 rfl) (in_mark1 (ok a (by simp))) (fun h => ?_) (pl s (by simp)) (pl z (by simp)) (fun v hv => by rw [List.mem_singleton.mp hv]; exact pl b (by simp)) (.inr (.inl ⟨a, b, rfl, rfl, fun h => of_decide_eq_true h⟩))
    have h := of_decide_eq_false h
    dsimp only [tailR]
    rw [if_neg fun z => h (.inl z), if_neg fun z => h (.inr z)]
  | [s, z, a, b, c, d], _ =>
    rw [cardR_due s z (restR_4 a b c d)]
    refine due_mid (WD := [.str s, .str z, .str a, .str b, .str c, .str d]) (MB := decide (a = "until" ∧ c = "strips")) s1 (by simp) ni (i0 s z [a, b, c, d]) (i1 s z [a, b, c, d]) (ev2 2 _ rfl st22.2.2.2.2.1 rfl) (ev2 3 _ rfl st22.2.2.2.2.2 rfl) (in_mark2 (ok a (by simp)) (ok c (by simp))) (fun h => ?_) (pl s (by simp)) (pl z (by simp)) (fun v hv => by
      rcases List.mem_cons.mp hv with rfl | hv
      · exact pl v (by simp)
      · rw [List.mem_singleton.mp hv]; exact pl d (by simp)) (.inr (.inr ⟨a, b, c, d, rfl, rfl, fun h => of_decide_eq_true h⟩))
    have h := of_decide_eq_false h
    dsimp only [tailR]
    rw [if_neg h]
  | [], lb => exact absurd lb (by simp [lenB])
  | [a], lb => exact absurd lb (by simp [lenB])
  | [a, b, c], lb => exact absurd lb (by simp [lenB])
  | [a, b, c, d, e], lb => exact absurd lb (by simp [lenB])
  | a :: b :: c :: d :: e :: f :: g :: r, lb => exact absurd lb (by simp [lenB])
noncomputable def law_read_0 : M Fl :=
    (sAsg 1 (xC .non))
noncomputable def law_read_1B0 : M Fl :=
    (sAsg 3 (xCall m_read_card (fun ds _ => ds) 1 (nK []) (aCons (frz (xVar 0)) aNil) aNil))
noncomputable def law_read_1B1 : M Fl :=
    (sAsg 1 (xTup (aCons (frz (xFldF CT "name" (xRd 3))) (aCons (frz (xFldF CT "wide" (xRd 3))) (aCons (frz (xFldF CT "high" (xRd 3))) (aCons (frz (xFldF CT "until" (xRd 3))) (aCons (frz (xFldF CT "strips" (xRd 3))) aNil)))))))
noncomputable def law_read_1B2T : M Bool :=
    (toB (xOp neD (xSp [("Card", m_Card_str)] strD (frz (xVar 3))) (xRd 0)))
noncomputable def law_read_1B2B0 : M Fl :=
    (sAsg 1 (xC .non))
noncomputable def law_read_1B2B : M Fl :=
    law_read_1B2B0
noncomputable def law_read_1B : M Fl :=
    (sSeq law_read_1B0 (sSeq law_read_1B1 (sIf law_read_1B2T law_read_1B2B sNil)))
noncomputable def law_read_1 : M Fl :=
    (sTryB 2 [("NoText", true)]
    law_read_1B
    (sAsg 1 (xTup (aCons (frz (xC (.str "none"))) (aCons (frz (xUn reprD (xXk XT "text" (frz (xVar 2))))) aNil)))))
noncomputable def law_read_2 : M Fl :=
    (sRet (xMov 1))
theorem law_read_eq : m_law_read = fnM 4
    (sSeq law_read_0 (sSeq law_read_1 law_read_2)) := rfl
/-! what reading tells, one way and the other -/
theorem read_no {d : D} {T : Str} {mu : List O} (er : m_read_card [d] mu = .exc (noTx d) ⟨[], mu⟩) (hr : reprD d = some (.fz (.str T))) : m_law_read [d] mu = .ok (.fz (.tup [.str "none", .str T])) ⟨[], mu⟩ := by
  have er := fun env => run_ex (env := env) er
  have xk : xkO XT "text" (.xok "NoText" [("text", d)]) = some (.fz d) := rfl
  refine w_eq ?_
  (refine fn_wv law_read_eq ?_; unfold law_read_0 law_read_1 law_read_2 law_read_1B law_read_1B0 law_read_1B1 law_read_1B2B law_read_1B2T law_read_1B2B0)
  walk_at "vc"
  refine w_tryB ?_
  ((walk_at "vc"); repeat ((refine w_rw (by first | (simp only [er]; done) | (simp only [er]; rfl)) ?_); (walk_at "vc")))
  refine ⟨by show 2 < 4; decide, ?_⟩
  ((walk_at "vc"); repeat ((refine w_rw (by first | (simp only [xk, hr]; done) | (simp only [xk, hr]; rfl)) ?_); (walk_at "vc")))
  exact ⟨rfl, rfl⟩
theorem read_yes {t : Str} {s : Str} {m n e : Int} {l : D} {mu : List O} (k : CardOk s m n l e) (er : m_read_card [.str t] mu = .ok (.ins "Card" (cardF s m n l e)) ⟨[], mu⟩) (ht : cardT s m n l e = t) :
    m_law_read [.str t] mu = .ok (.fz (.tup [.str s, .int m, .int n, l, .int e])) ⟨[], mu⟩ := by
  have er := fun env => run_ok (env := env) er
  have es := fun env => run_ok (env := env) (str_ok (mu := mu) k)
  rw [ht] at es
  have td : D.ins "Card" (O.toDf (cardF s m n l e)) = dCard s m n l e := by simp only [cardF, st_tdc, st_tdf, st_tdn]
  have f1 : fldO CT "name" (.fz (dCard s m n l e)) = some (.fz (.str s)) := rfl
  have f2 : fldO CT "wide" (.fz (dCard s m n l e)) = some (.fz (.int m)) := rfl
  have f3 : fldO CT "high" (.fz (dCard s m n l e)) = some (.fz (.int n)) := rfl
  have f4 : fldO CT "until" (.fz (dCard s m n l e)) = some (.fz l) := rfl
  have f5 : fldO CT "strips" (.fz (dCard s m n l e)) = some (.fz (.int e)) := rfl
  have te : neD (.str t) (.str t) = some (.fz (.bl false)) := by rw [st_nes]; simp
  refine w_eq ?_
  (refine fn_wv law_read_eq ?_; unfold law_read_0 law_read_1 law_read_2 law_read_1B law_read_1B0 law_read_1B1 law_read_1B2B law_read_1B2T law_read_1B2B0)
  walk_at "vc"
  refine w_tryB ?_
  ((walk_at "vc"); repeat ((refine w_rw (by first | (simp only [er, es, te, td, f1, f2, f3, f4, f5]; done) | (simp only [er, es, te, td, f1, f2, f3, f4, f5]; rfl)) ?_); (walk_at "vc")))
  exact ⟨rfl, rfl⟩
/-! ### the text of data, in turn a thing to tell -/
theorem joinL_mem {S : List Nat} : ∀ (ps : List (List Nat)) (c : Nat), c ∈ TL.joinL S ps → c ∈ S ∨ ∃ p ∈ ps, c ∈ p
  | [], c, h => by simp [TL.joinL] at h
  | [p], c, h => by simp [TL.joinL] at h; exact .inr ⟨p, by simp, h⟩
  | p :: q :: r, c, h => by
    have e : TL.joinL S (p :: q :: r) = p ++ (S ++ TL.joinL S (q :: r)) := rfl
    rw [e] at h
    rcases List.mem_append.mp h with h | h
    · exact .inr ⟨p, by simp, h⟩
    · rcases List.mem_append.mp h with h | h
      · exact .inl h
      · rcases joinL_mem (q :: r) c h with h | ⟨x, hx, h⟩
        · exact .inl h
        · exact .inr ⟨x, List.mem_cons_of_mem _ hx, h⟩
theorem asc_join {y : Str} {ts : List Str} (hy : Asc y) (h : ∀ t ∈ ts, Asc t) : Asc (Str.join y ts) := by
  intro c hc
  have e := TL.tl_join y ts
  have hc : c ∈ TL.tl (Str.join y ts) := hc
  rw [e] at hc
  rcases joinL_mem _ c hc with h1 | ⟨p, hp, h1⟩
  · exact hy c h1
  · obtain ⟨t, ht, rfl⟩ := List.mem_map.mp hp
    exact h t ht c h1
mutual
theorem asc_sh : ∀ d : D, okD d = true → ∀ p, D.py true d = some p → Asc p.shown
  | .non, _, p, e => by cases e; simp only [PyData.shown]; exact asc_of _
  | .bl b, _, p, e => by cases e; simp only [PyData.shown]; cases b <;> exact asc_of _
  | .int i, _, p, e => by cases e; simp only [PyData.shown]; exact asc_of _
  | .str s, h, p, e => by
    cases e
    rw [okD] at h
    exact asc_repr fun c hc => of_decide_eq_true (List.all_eq_true.mp h c hc)
  | .tup xs, h, p, e => by
    rw [okD] at h
    rw [D.py] at e
    obtain ⟨ps, e1, rfl⟩ := map_some e
    rw [PyData.shown_tuple]
    exact asc_app (asc_app (asc_of _) (asc_join (asc_of _) (asc_shA xs h ps e1))) (asc_of _)
  | .tuk xs, h, p, e => by
    rw [okD] at h
    rw [D.py] at e
    obtain ⟨ps, e1, rfl⟩ := map_some e
    rw [PyData.shown_tuple]
    exact asc_app (asc_app (asc_of _) (asc_join (asc_of _) (asc_shA xs h ps e1))) (asc_of _)
  | .tun xs, h, p, e => by
    rw [okD] at h
    rw [D.py] at e
    obtain ⟨ps, e1, rfl⟩ := map_some e
    rw [PyData.shown_tuple]
    exact asc_app (asc_app (asc_of _) (asc_join (asc_of _) (asc_shA xs h ps e1))) (asc_of _)
  | .lst xs, h, p, e => by
    rw [okD] at h
    rw [D.py] at e
    obtain ⟨ps, e1, rfl⟩ := map_some e
    rw [PyData.shown_list]
    exact asc_app (asc_app (asc_of _) (asc_join (asc_of _) (asc_shA xs h ps e1))) (asc_of _)
  | .lsk xs, h, p, e => by
    rw [okD] at h
    rw [D.py] at e
    obtain ⟨ps, e1, rfl⟩ := map_some e
    rw [PyData.shown_list]
    exact asc_app (asc_app (asc_of _) (asc_join (asc_of _) (asc_shA xs h ps e1))) (asc_of _)
  | .dct kvs, h, p, e => by
    rw [okD] at h
    rw [D.py, if_pos rfl] at e
    obtain ⟨ps, e1, rfl⟩ := map_some e
    rw [PyData.shown_dict]
    exact asc_app (asc_app (asc_of _) (asc_join (asc_of _) (asc_shK kvs h ps e1))) (asc_of _)
  | .dcu _, h, _, _ => by simp [okD] at h
  | .ins _ _, h, _, _ => by simp [okD] at h
  | .cel _, h, _, _ => by simp [okD] at h
  | .fn _, h, _, _ => by simp [okD] at h
  | .ty _, h, _, _ => by simp [okD] at h
  | .xob _ _, h, _, _ => by simp [okD] at h
  | .xok _ _, h, _, _ => by simp [okD] at h
theorem asc_shA : ∀ ds : List D, okA ds = true → ∀ ps, D.pyA true ds = some ps → ∀ t ∈ PyData.shownAll ps, Asc t
  | [], _, ps, e, t, ht => by rw [D.pyA] at e; cases e; rw [PyData.shownAll] at ht; cases ht
  | d :: ds, h, ps, e, t, ht => by
    rw [okA, Bool.and_eq_true] at h
    rw [D.pyA] at e
    obtain ⟨p, e1, e⟩ := bind_some e
    obtain ⟨qs, e2, rfl⟩ := map_some e
    rw [PyData.shownAll] at ht
    rcases List.mem_cons.mp ht with rfl | ht
    · exact asc_sh d h.1 p e1
    · exact asc_shA ds h.2 qs e2 t ht
theorem asc_shK : ∀ ds : List (D × D), okK ds = true → ∀ ps, D.pyK true ds = some ps → ∀ t ∈ PyData.shownKv ps, Asc t
  | [], _, ps, e, t, ht => by rw [D.pyK] at e; cases e; rw [PyData.shownKv] at ht; cases ht
  | (k, d) :: ds, h, ps, e, t, ht => by
    rw [okK, Bool.and_eq_true, Bool.and_eq_true] at h
    rw [D.pyK] at e
    obtain ⟨q, e0, e⟩ := bind_some e
    obtain ⟨p, e1, e⟩ := bind_some e
    obtain ⟨qs, e2, rfl⟩ := map_some e
    rw [PyData.shownKv_cons] at ht
    rcases List.mem_cons.mp ht with rfl | ht
    · exact asc_app (asc_app (asc_sh k h.1.1 q e0) (asc_of _)) (asc_sh d h.1.2 p e1)
    · exact asc_shK ds h.2 qs e2 t ht
end
/-- a thing's text, and that of a pair with it -/
theorem told_repr {d : D} (h : okD d = true) (h1 : dpD d ≤ 50) (h2 : wtD d ≤ 1000000) : ∃ T T1, reprD d = some (.fz (.str T)) ∧ reprD (.tup [.str "none", .str T]) = some (.fz (.str T1)) := by
  obtain ⟨p, e1, e2, e3⟩ := repr_okD h (by omega) (by omega)
  have ha := asc_sh d h p e1
  have ok : okD (.tup [.str "none", .str p.shown]) = true := by
    rw [okD, okA, okA, okA, okD, okD, Bool.and_true, Bool.and_eq_true]
    exact ⟨by decide +kernel, List.all_eq_true.mpr fun c hc => decide_eq_true (ha c hc)⟩
  have wt : wtD (.tup [.str "none", .str p.shown]) ≤ 16777216 := by
    rw [wtD, wtA, wtA, wtA, wtD, wtD, show ("none" : Str).length = 4 from rfl]
    omega
  obtain ⟨q, _, f2, _⟩ := repr_okD ok (by simp [dpD, dpA]) wt
  exact ⟨_, _, e2, f2⟩
theorem take_w {mu : List O} {k n : Nat} {m : Int} {env : List (Option O)} {Q : O → S → Prop} {E : Exc → S → Prop} (h : PotAt mu k n) (h1 : 1 ≤ m) (h2 : m < 1073741824) (hn : n ≤ 1000000000) (hQ : ∀ r mu', 0 ≤ r → r < m → PotAt mu' k (n + 1) → Q (.fz (.int r)) ⟨env, mu'⟩) : wv (runF m_law_draw [.cel k, .int m] ⟨env, mu⟩) Q E := by
  obtain ⟨r, mu', e, r0, r1, p⟩ := draw_ok h h1 h2 hn
  exact w_runE e (hQ r mu' r0 r1 p)
/-! ### lists of texts -/
structure SmL (ps : List Str) (n c : Nat) : Prop where
  len : (ps.map (·.length)).sum ≤ n
  cnt : ps.length ≤ c
  chr : ∀ p ∈ ps, ∀ x ∈ p.cps.toList, x < 128
theorem sum_td {α : Type} (f : α → Nat) (l : List α) (k : Nat) : ((l.take k).map f).sum + ((l.drop k).map f).sum = (l.map f).sum := by
  rw [← List.sum_append, ← List.map_append, List.take_append_drop]
theorem SmL.take {ps : List Str} {n c : Nat} (h : SmL ps n c) (k : Nat) : SmL (ps.take k) n c := ⟨by have := sum_td (·.length) ps k; have := h.len; omega, by rw [List.length_take]; have := h.cnt; omega, fun p hp => h.chr p (List.mem_of_mem_take hp)⟩
theorem SmL.drop {ps : List Str} {n c : Nat} (h : SmL ps n c) (k : Nat) : SmL (ps.drop k) n c := ⟨by have := sum_td (·.length) ps k; have := h.len; omega, by rw [List.length_drop]; have := h.cnt; omega, fun p hp => h.chr p (List.mem_of_mem_drop hp)⟩
theorem SmL.app {ps qs : List Str} {n c n' c' : Nat} (h : SmL ps n c) (h' : SmL qs n' c') : SmL (ps ++ qs) (n + n') (c + c') := ⟨by rw [List.map_append, List.sum_append]; have := h.len; have := h'.len; omega, by rw [List.length_append]; have := h.cnt; have := h'.cnt; omega, fun p hp => (List.mem_append.mp hp).elim (h.chr p) (h'.chr p)⟩
theorem SmL.one {p : Str} {n : Nat} (h : SmT p n) : SmL [p] n 1 := ⟨by simpa using h.len, Nat.le_refl _, fun q hq => by rw [List.mem_singleton.mp hq]; exact h.chr⟩
theorem SmL.rev {ps : List Str} {n c : Nat} (h : SmL ps n c) : SmL ps.reverse n c := ⟨by rw [List.map_reverse, List.sum_reverse]; exact h.len, by rw [List.length_reverse]; exact h.cnt, fun p hp => h.chr p (List.mem_reverse.mp hp)⟩
theorem SmL.join {ps : List Str} {n c : Nat} (h : SmL ps n c) : SmT (Txt.join " " ps) (n + c) := by
  refine ⟨?_, join_chr (by decide) h.chr⟩
  refine Nat.le_trans (join_le _ _) ?_
  have h1 : (" " : Str).length = 1 := rfl
  rw [h1]
  have := h.len
  have := h.cnt
  omega
theorem SmT.words {t : Str} {n : Nat} (h : SmT t n) : SmL (wordsT t) n (n + 2) := by
  have e1 : ((wordsT t).map (·.length)).sum + ((wordsT t).length - 1) * (" " : Str).length = t.length := split_sum t " "
  have := h.len
  have e2 : (wordsT t).length ≤ t.length + 2 := split_len t " "
  exact ⟨by omega, by omega, fun p hp => (split_mem hp h).chr⟩
theorem strs_row : ∀ r : List Str, strsD (r.map D.str) = some r
  | [] => rfl
  | s :: r => by rw [List.map_cons, strsD, strs_row r]; rfl
theorem join_D {ps : List Str} {n c : Nat} (h : SmL ps n c) (hn : n + c ≤ 16777216) : joinD (.str " ") [.lst (ps.map .str)] = some (.fz (.str (Txt.join " " ps))) :=
  st_joi (strs_row _) (by rw [show (" " : Str).length = 1 from rfl]; have := h.len; have := h.cnt; omega)
theorem slS {s : Str} {lo hi : Option Int} (h : s.length ≤ 16777216) : slD (.str s) lo hi = some (.fz (.str (cutS s lo hi))) := if_pos h
theorem slL {ps : List Str} {n c : Nat} (h : SmL ps n c) (lo hi : Option Int) : ∃ q, slD (.lst (ps.map .str)) lo hi = some (.lst (q.map .str)) ∧ SmL q n c :=
  ⟨(ps.drop (HT.sIx (ps.map D.str).length 0 lo)).take (HT.sIx (ps.map D.str).length (ps.map D.str).length hi - HT.sIx (ps.map D.str).length 0 lo), by
    show some (O.lst (cutD _ _ _)) = _
    unfold cutD
    rw [List.map_take, List.map_drop], (h.drop _).take _⟩
theorem rep_sm {s : Str} {c : Nat} (hs : s = ⟨#[c]⟩) (hc : c < 128) : SmT (Txt.mul s 4301) 4301 := by
  subst hs
  have e : (Txt.mul ⟨#[c]⟩ 4301).cps.toList = List.replicate 4301 c := by
    have e : Txt.mul ⟨#[c]⟩ 4301 = ⟨(List.replicate 4301 #[c]).foldl (· ++ ·) #[]⟩ := rfl
    rw [e]
    exact foldl_rep c 4301 #[]
  refine ⟨?_, fun x hx => ?_⟩
  · rw [len_list, e, List.length_replicate]; exact Nat.le_refl _
  · rw [e] at hx
    rw [List.eq_of_mem_replicate hx]; exact hc
/-! ### things of any kind -/
structure OdT (d : D) (j : Nat) : Prop where
  ok : okD d = true
  dp : dpD d ≤ j + 1
  wt : wtD d ≤ 50000 + 5 * j
  st : isiD [d, .ty "str"] = some (.fz (.bl false)) ∨ ∃ s, d = .str s ∧ SmT s 5000
theorem OdT.mono {d : D} {i j : Nat} (h : OdT d i) (e : i ≤ j) : OdT d j := ⟨h.ok, by have := h.dp; omega, by have := h.wt; omega, h.st⟩
theorem OdT.tup {d : D} {j : Nat} (h : OdT d j) : OdT (.tup [d]) (j + 1) :=
  ⟨by rw [okD, okA, okA, h.ok]; rfl, by rw [dpD, dpA, dpA]; have := h.dp; exact Nat.succ_le_succ (Nat.max_le.mpr ⟨this, Nat.zero_le _⟩), by rw [wtD, wtA, wtA]; have := h.wt; omega, .inl rfl⟩
theorem OdT.lst {d : D} {j : Nat} (h : OdT d j) : OdT (.lst [d]) (j + 1) :=
  ⟨by rw [okD, okA, okA, h.ok]; rfl, by rw [dpD, dpA, dpA]; have := h.dp; exact Nat.succ_le_succ (Nat.max_le.mpr ⟨this, Nat.zero_le _⟩), by rw [wtD, wtA, wtA]; have := h.wt; omega, .inl rfl⟩
theorem SmT.okD {s : Str} {n : Nat} (h : SmT s n) : okD (.str s) = true := by
  rw [Tr.okD]
  exact List.all_eq_true.mpr fun c hc => decide_eq_true (Nat.lt_trans (h.chr c hc) (by decide))
theorem OdT.str {s : Str} {n : Nat} (h : SmT s n) (hn : n ≤ 4900) : OdT (.str s) 0 :=
  ⟨h.okD, by simp only [dpD]; omega, by rw [wtD]; have := h.len; omega, .inr ⟨s, rfl, h.mono (by omega)⟩⟩
theorem od_wrap {t : Str} (h : SmT t 1000) : OdT (.tup [.str t]) 0 ∧ OdT (.lst [.str t]) 0 := by
  have := h.len
  constructor
  · exact ⟨by rw [okD, okA, okA, h.okD]; rfl, by simp only [dpD, dpA]; decide, by rw [wtD, wtA, wtA, wtD]; omega, .inl rfl⟩
  · exact ⟨by rw [okD, okA, okA, h.okD]; rfl, by simp only [dpD, dpA]; decide, by rw [wtD, wtA, wtA, wtD]; omega, .inl rfl⟩
abbrev oddL (t : D) : List D := [.non, .bl true, .bl false, .int 0, .int 1, .int (-1), .str "", .str "a", .tup [], .lst [], .dct [], .tup [t], .lst [t], .int 1000000000000000000000000000000, .str "pin", .str " ", .str rep9]
theorem rep9_sm : SmT rep9 4301 := by rw [← rep9_eq]; exact rep_sm (c := 57) rfl (by decide)
theorem oddL_ok {t : Str} (h : SmT t 1000) : ∀ d ∈ oddL (.str t), OdT d 0 := by
  intro d hd
  simp only [oddL, List.mem_cons, List.not_mem_nil, or_false] at hd
  rcases hd with rfl | rfl | rfl | rfl | rfl | rfl | rfl | rfl | rfl | rfl | rfl | rfl | rfl | rfl | rfl | rfl | rfl
  all_goals first
    | exact (od_wrap h).1
    | exact (od_wrap h).2
    | exact OdT.str rep9_sm (by decide)
    | exact OdT.str (n := 3) ⟨by decide, by decide⟩ (by decide)
    | exact ⟨by decide, by decide, by decide, .inl rfl⟩
noncomputable def law_odd_0 : M Fl :=
    (sAsg 2 (xLst (aCons (frz (xC .non)) (aCons (frz (xC (.bl true))) (aCons (frz (xC (.bl false))) (aCons (frz (xC (.int 0))) (aCons (frz (xC (.int 1))) (aCons (frz (xUn negD (xC (.int 1)))) (aCons (frz (xC (.str ""))) (aCons (frz (xC (.str "a"))) (aCons (frz (xTup aNil)) (aCons (frz (xLst aNil)) (aCons (frz (ret (.dct []))) (aCons (frz (xTup (aCons (frz (xVar 1)) aNil))) (aCons (frz (xLst (aCons (frz (xVar 1)) aNil))) (aCons (frz (xOp powD (xC (.int 10)) (xC (.int 30)))) (aCons (frz (xC (.str "pin"))) (aCons (frz (xC (.str " "))) (aCons (frz (xOp mulD (xC (.str "9")) (xC (.int 4301)))) aNil)))))))))))))))))))
noncomputable def law_odd_1 : M Fl :=
    (sAsg 3 (xOp ixD (xBor 2) (xCall m_law_draw (fun ds _ => ds) 2 (nK []) (aCons (frz (xVar 0)) (aCons (frz (xC (.int 17))) aNil)) aNil)))
noncomputable def law_odd_2I : M (List D) :=
    (mRng1 (aCons (frz (xOp ixD (xLst (aCons (frz (xC (.int 0))) (aCons (frz (xC (.int 0))) (aCons (frz (xC (.int 1))) (aCons (frz (xC (.int 26))) aNil))))) (xCall m_law_draw (fun ds _ => ds) 2 (nK []) (aCons (frz (xVar 0)) (aCons (frz (xC (.int 4))) aNil)) aNil))) aNil))
noncomputable def law_odd_2B0 : M Fl :=
    (sAsg 3 (xOp ixD (xLst (aCons (frz (xTup (aCons (frz (xVar 3)) aNil))) (aCons (frz (xLst (aCons (frz (xVar 3)) aNil))) aNil))) (xCall m_law_draw (fun ds _ => ds) 2 (nK []) (aCons (frz (xVar 0)) (aCons (frz (xC (.int 2))) aNil)) aNil)))
noncomputable def law_odd_2B : M Fl :=
    law_odd_2B0
noncomputable def law_odd_3 : M Fl :=
    (sRet (xMov 3))
theorem law_odd_eq : m_law_odd = fnM 5
    (sSeq law_odd_0 (sSeq law_odd_1 (sSeq (sFor law_odd_2I (gN 4) law_odd_2B) law_odd_3))) := rfl
set_option maxHeartbeats 1000000 in
theorem odd_w {t : Str} {mu : List O} {k n : Nat} {env : List (Option O)} {Q : O → S → Prop} {E : Exc → S → Prop} (ht : SmT t 1000) (h : PotAt mu k n) (hn : n ≤ 700000000) (hQ : ∀ d mu', OdT d 27 → PotAt mu' k (n + 30) → Q (.fz d) ⟨env, mu'⟩) : wv (runF m_law_odd [.cel k, .str t] ⟨env, mu⟩) Q E := by
  have ol := oddL_ok ht
  have mm : mulD (.str "9") (.int 4301) = some (.fz (.str rep9)) := by rw [← rep9_eq]; rfl
  have pw : powD (.int 10) (.int 30) = some (.fz (.int 1000000000000000000000000000000)) := by simp [powD, iiD]
  refine w_run ?_
  refine fn_wv law_odd_eq ?_
  unfold law_odd_0 law_odd_1 law_odd_2I law_odd_3
  ((walk_at "vc"); repeat ((refine w_rw (by first | (simp only [mm, pw]; done) | (simp only [mm, pw]; rfl)) ?_); (walk_at "vc")))
  (refine take_w (by assumption) (by first | decide | omega) (by first | decide | omega) (by omega) fun a mu_a a0 a1 p_a => ?_)
  refine ix_w (by omega) (by simp only [List.length_cons, List.length_nil]; omega) fun d hd => ?_
  have dP := ol d hd
  clear hd ol
  walk_at "vc"
  (refine take_w (by assumption) (by first | decide | omega) (by first | decide | omega) (by omega) fun b mu_b b0 b1 p_b => ?_)
  have cs : b = 0 ∨ b = 1 ∨ b = 2 ∨ b = 3 := by omega
  rcases cs with rfl | rfl | rfl | rfl
  all_goals
    walk_at "vc"
    refine w_rng (fun j st => ∃ (x1 x2 x4 : Option O) (d : D) (mu : List O), st = ⟨[some (.fz (.cel k)), x1, x2, some (.fz d), x4], mu⟩ ∧ OdT d j ∧ PotAt mu k (n + 2 + j)) ⟨_, _, _, _, _, rfl, dP, p_b.mono (by omega)⟩ (fun j st hj hh => ?_) (fun st hh => ?_)
    · obtain ⟨x1, x2, x4, d, mu, rfl, dP, p⟩ := hh
      have hj : j < 26 := by omega
      refine ⟨_, rfl, ?_⟩
      unfold law_odd_2B law_odd_2B0
      walk_at "vc"
      (refine take_w (by assumption) (by first | decide | omega) (by first | decide | omega) (by omega) fun c mu_c c0 c1 p_c => ?_)
      have cs : c = 0 ∨ c = 1 := by omega
      rcases cs with rfl | rfl
      all_goals
        walk_at "vc"
      · exact ⟨_, _, _, _, _, rfl, dP.tup, p_c.mono (by omega)⟩
      · exact ⟨_, _, _, _, _, rfl, dP.lst, p_c.mono (by omega)⟩
    · obtain ⟨x1, x2, x4, d, mu, rfl, dP, p⟩ := hh
      walk_at "vc"
      exact hQ d mu (dP.mono (by decide)) (p.mono (by omega))
def sgnS : Str := "0123456789.,x- abzAT\t\n"
theorem sgn_ok : ∀ c ∈ sgnS.cps.toList, c < 128 := by decide +kernel
theorem sgn_at {r : Int} (h0 : 0 ≤ r) (h1 : r < 22) : ∃ c : Nat, atI ("0123456789.,x- abzAT\t\n" : Str).cps.toList r = some c ∧ SmT ⟨#[c]⟩ 1 := by
  obtain ⟨j, rfl⟩ := Int.eq_ofNat_of_zero_le h0
  have hl : sgnS.cps.toList.length = 22 := by decide +kernel
  have hj : j < sgnS.cps.toList.length := by omega
  refine ⟨sgnS.cps.toList[j], ?_, Nat.le_refl _, fun x hx => ?_⟩
  · show atI sgnS.cps.toList _ = _
    rw [atN, List.getElem?_eq_getElem hj]
  · have hx : x ∈ [sgnS.cps.toList[j]] := hx
    rw [List.mem_singleton.mp hx]
    exact sgn_ok _ (List.getElem_mem hj)
def TxD (m : Nat) (d : D) : Prop := ∃ s, d = .str s ∧ SmT s m
theorem tx_lit {s : Str} (h : (decide (s.length ≤ 10) && s.cps.toList.all (fun c => decide (c < 128))) = true) : TxD 4304 (.str s) := by
  rw [Bool.and_eq_true, decide_eq_true_eq, List.all_eq_true] at h
  exact ⟨s, rfl, by omega, fun c hc => of_decide_eq_true (h.2 c hc)⟩
theorem up_lt {s : Str} (h : ∀ c ∈ s.cps.toList, c < 128) : (Txt.upper s).length = s.length ∧ ∀ c ∈ (Txt.upper s).cps.toList, c < 128 := by
  rw [PyProof.Rows.upper_ascii h]
  refine ⟨by show (s.cps.map PyProof.Rows.up1).size = s.cps.size; rw [Array.size_map], fun c hc => ?_⟩
  have hc : c ∈ (s.cps.map PyProof.Rows.up1).toList := hc
  rw [Array.toList_map] at hc
  obtain ⟨x, hx, rfl⟩ := List.mem_map.mp hc
  have := h x hx
  unfold PyProof.Rows.up1
  split <;> omega
theorem up_sm {s : Str} {n : Nat} (h : SmT s n) : SmT (Txt.upper s) n := by
  obtain ⟨h1, h2⟩ := up_lt h.chr
  exact ⟨by rw [h1]; exact h.len, h2⟩
noncomputable def law_bent_0 : M Fl :=
    (sAsg 2 (xM1 splitD (xBor 1) (frz (xC (.str " ")))))
noncomputable def law_bent_1 : M Fl :=
    (sPar3 6 7 8 (oCons (xCall m_law_draw (fun ds _ => ds) 2 (nK []) (aCons (frz (xVar 0)) (aCons (frz (xOp addD (xUn lenD (xRd 1)) (xC (.int 1)))) aNil)) aNil) (oCons (xCall m_law_draw (fun ds _ => ds) 2 (nK []) (aCons (frz (xVar 0)) (aCons (frz (xOp addD (xUn lenD (xRd 2)) (xC (.int 1)))) aNil)) aNil) (oCons (xCall m_law_draw (fun ds _ => ds) 2 (nK []) (aCons (frz (xVar 0)) (aCons (frz (xC (.int 10))) aNil)) aNil) oNil))))
noncomputable def law_bent_2 : M Fl :=
    (sAsg 3 (xOp ixD (xC (.str "0123456789.,x- abzAT\t\n")) (xCall m_law_draw (fun ds _ => ds) 2 (nK []) (aCons (frz (xVar 0)) (aCons (frz (xC (.int 22))) aNil)) aNil)))
noncomputable def law_bent_3 : M Fl :=
    (sAsg 4 (xLst (aCons (frz (xC (.str "until"))) (aCons (frz (xC (.str "strips"))) (aCons (frz (xC (.str "at"))) (aCons (frz (xC (.str "to"))) (aCons (frz (xC (.str "0"))) (aCons (frz (xC (.str "00"))) (aCons (frz (xC (.str "1"))) (aCons (frz (xC (.str "9"))) (aCons (frz (xC (.str "10"))) (aCons (frz (xC (.str "100"))) (aCons (frz (xC (.str "99"))) (aCons (frz (xC (.str "3.4"))) (aCons (frz (xC (.str "3.04"))) (aCons (frz (xC (.str "400.00"))) (aCons (frz (xC (.str "3.24"))) aNil)))))))))))))))))
noncomputable def law_bent_4 : M Fl :=
    (sAsg 4 (xOp addD (xBor 4) (xLst (aCons (frz (xC (.str "a"))) (aCons (frz (xC (.str "2x2"))) (aCons (frz (xC (.str "0x1"))) (aCons (frz (xC (.str "10x1"))) (aCons (frz (xC (.str "02x1"))) (aCons (frz (xC (.str "1x"))) (aCons (frz (xC (.str "1,1"))) (aCons (frz (xC (.str "9,0"))) (aCons (frz (xC (.str "0,9"))) (aCons (frz (xC (.str ""))) (aCons (frz (xC (.str "pin"))) (aCons (frz (xC (.str "tear"))) (aCons (frz (xC (.str "-1"))) (aCons (frz (xC (.str "abcdefghi"))) aNil)))))))))))))))))
noncomputable def law_bent_5 : M Fl :=
    (sApp 4 (frz (xC (.str "3x3x3"))))
noncomputable def law_bent_6 : M Fl :=
    (sAsg 5 (xOp ixD (xOp addD (xBor 4) (xLst (aCons (frz (xOp mulD (xC (.str "9")) (xC (.int 4301)))) (aCons (frz (xOp addD (xC (.str "1.")) (xOp mulD (xC (.str "0")) (xC (.int 4301))))) (aCons (frz (xOp addD (xOp mulD (xC (.str "9")) (xC (.int 4301))) (xC (.str ".05")))) (aCons (frz (xOp addD (xC (.str "1x")) (xOp mulD (xC (.str "1")) (xC (.int 4301))))) aNil)))))) (xCall m_law_draw (fun ds _ => ds) 2 (nK []) (aCons (frz (xVar 0)) (aCons (frz (xC (.int 34))) aNil)) aNil)))
noncomputable def law_bent_7T : M Bool :=
    (toB (xOp ltD (xBor 8) (xC (.int 2))))
noncomputable def law_bent_7B0 : M Fl :=
    (sRet (xOp addD (xOp addD (xSl (xBor 1) (ret none) (mPart (xVar 6))) (xRd 3)) (xSl (xBor 1) (mPart (xVar 6)) (ret none))))
noncomputable def law_bent_7B : M Fl :=
    law_bent_7B0
noncomputable def law_bent_8T : M Bool :=
    (toB (xOp eqD (xBor 8) (xC (.int 2))))
noncomputable def law_bent_8B0 : M Fl :=
    (sRet (xOp addD (xOp addD (xSl (xBor 1) (ret none) (mPart (xVar 6))) (xRd 3)) (xSl (xBor 1) (mPart (xOp addD (xBor 6) (xC (.int 1)))) (ret none))))
noncomputable def law_bent_8B : M Fl :=
    law_bent_8B0
noncomputable def law_bent_9T : M Bool :=
    (toB (xOp eqD (xBor 8) (xC (.int 3))))
noncomputable def law_bent_9B0 : M Fl :=
    (sRet (xOp addD (xSl (xBor 1) (ret none) (mPart (xVar 6))) (xSl (xBor 1) (mPart (xOp addD (xBor 6) (xC (.int 1)))) (ret none))))
noncomputable def law_bent_9B : M Fl :=
    law_bent_9B0
noncomputable def law_bent_10T : M Bool :=
    (toB (xOp eqD (xBor 8) (xC (.int 4))))
noncomputable def law_bent_10B0 : M Fl :=
    (sRet (xM1 joinD (xC (.str " ")) (frz (xOp addD (xOp addD (xSl (xBor 2) (ret none) (mPart (xVar 7))) (xLst (aCons (frz (xVar 5)) aNil))) (xSl (xBor 2) (mPart (xVar 7)) (ret none))))))
noncomputable def law_bent_10B : M Fl :=
    law_bent_10B0
noncomputable def law_bent_11T : M Bool :=
    (toB (xOp eqD (xBor 8) (xC (.int 5))))
noncomputable def law_bent_11B0 : M Fl :=
    (sRet (xM1 joinD (xC (.str " ")) (frz (xOp addD (xOp addD (xSl (xBor 2) (ret none) (mPart (xVar 7))) (xLst (aCons (frz (xVar 5)) aNil))) (xSl (xBor 2) (mPart (xOp addD (xBor 7) (xC (.int 1)))) (ret none))))))
noncomputable def law_bent_11B : M Fl :=
    law_bent_11B0
noncomputable def law_bent_12T : M Bool :=
    (toB (xOp eqD (xBor 8) (xC (.int 6))))
noncomputable def law_bent_12B0 : M Fl :=
    (sRet (xM1 joinD (xC (.str " ")) (frz (xOp addD (xSl (xBor 2) (ret none) (mPart (xVar 7))) (xSl (xBor 2) (mPart (xOp addD (xBor 7) (xC (.int 1)))) (ret none))))))
noncomputable def law_bent_12B : M Fl :=
    law_bent_12B0
noncomputable def law_bent_13T : M Bool :=
    (toB (xOp eqD (xBor 8) (xC (.int 7))))
noncomputable def law_bent_13B0 : M Fl :=
    (sRet (xM1 joinD (xC (.str " ")) (frz (xOp addD (xSl (xBor 2) (ret none) (mPart (xVar 7))) (xSl (xBor 2) (mPart (xOp subD (xBor 7) (xC (.int 1)))) (ret none))))))
noncomputable def law_bent_13B : M Fl :=
    law_bent_13B0
noncomputable def law_bent_14 : M Fl :=
    (sRet (xOp ixD (xLst (aCons (frz (xM1 joinD (xC (.str " ")) (frz (xUn rvD (xRd 2))))) (aCons (frz (xSl (xBor 1) (ret none) (mPart (xVar 6)))) (aCons (frz (xOp addD (xOp addD (xBor 1) (xC (.str " "))) (xRd 1))) (aCons (frz (xM0 upperD (xBor 1))) aNil))))) (xCall m_law_draw (fun ds _ => ds) 2 (nK []) (aCons (frz (xVar 0)) (aCons (frz (xC (.int 4))) aNil)) aNil)))
theorem law_bent_eq : m_law_bent = fnM 9
    (sSeq law_bent_0 (sSeq law_bent_1 (sSeq law_bent_2 (sSeq law_bent_3 (sSeq law_bent_4 (sSeq law_bent_5 (sSeq law_bent_6 (sSeq (sIf law_bent_7T law_bent_7B sNil) (sSeq (sIf law_bent_8T law_bent_8B sNil) (sSeq (sIf law_bent_9T law_bent_9B sNil) (sSeq (sIf law_bent_10T law_bent_10B sNil) (sSeq (sIf law_bent_11T law_bent_11B sNil) (sSeq (sIf law_bent_12T law_bent_12B sNil) (sSeq (sIf law_bent_13T law_bent_13B sNil) law_bent_14)))))))))))))) := rfl
set_option maxHeartbeats 4000000 in
theorem bent_w {t : Str} {n k c : Nat} {mu : List O} {env : List (Option O)} {Q : O → S → Prop} {E : Exc → S → Prop} (h : SmT t n) (hn : n ≤ 50000) (hw : PotAt mu k c) (hc : c ≤ 600000000)
    (hQ : ∀ (t' : Str) (mu' : List O), SmT t' (4 * n + 6000) → PotAt mu' k (c + 10) → Q (.fz (.str t')) ⟨env, mu'⟩) :
    wv (runF m_law_bent [.cel k, .str t] ⟨env, mu⟩) Q E := by
  have tl := h.len
  have lt : lenD (.str t) = some (.fz (.int (t.length : Int))) := by rw [st_lens, if_pos (by omega)]
  have s1 : splitD (.str t) [.str " "] = some (.lst ((wordsT t).map .str)) := sk_split (by decide) (by omega)
  have hL := h.words
  have hcn := hL.cnt
  have lsl : ((wordsT t).map D.str).length ≤ n + 2 := by rw [List.length_map]; exact hL.cnt
  have ll : ((wordsT t).map D.str).length ≤ 16777216 := by omega
  have sl := fun lo hi => slL hL lo hi
  have tc := fun lo hi => h.cut lo hi
  have tcl := fun lo hi => slS (s := t) (lo := lo) (hi := hi) (by omega)
  have jr : joinD (.str " ") [.lst ((wordsT t).reverse.map .str)] = some (.fz (.str (Txt.join " " (wordsT t).reverse))) := join_D hL.rev (by omega)
  have jrs := hL.rev.join
  rw [List.map_reverse] at jr
  have jnD := fun {ps : List Str} {n c : Nat} (h : SmL ps n c) (hn : n + c ≤ 16777216) => join_D h hn
  generalize wordsT t = ws at *
  have m9 : mulD (.str "9") (.int 4301) = some (.fz (.str rep9)) := by rw [← rep9_eq]; rfl
  have m0 : mulD (.str "0") (.int 4301) = some (.fz (.str (Txt.mul "0" 4301))) := rfl
  have m1 : mulD (.str "1") (.int 4301) = some (.fz (.str (Txt.mul "1" 4301))) := rfl
  have z0 := rep_sm (s := "0") (c := 48) rfl (by decide)
  have z1 := rep_sm (s := "1") (c := 49) rfl (by decide)
  have z9 := rep9_sm
  generalize Txt.mul "0" 4301 = Z0 at *
  generalize Txt.mul "1" 4301 = Z1 at *
  have a1 : ("1." : Str).length + Z0.length ≤ 16777216 := by have := z0.len; have : ("1." : Str).length = 2 := rfl; omega
  have a2 : rep9.length + (".05" : Str).length ≤ 16777216 := by have := z9.len; have : (".05" : Str).length = 3 := rfl; omega
  have a3 : ("1x" : Str).length + Z1.length ≤ 16777216 := by have := z1.len; have : ("1x" : Str).length = 2 := rfl; omega
  have y1 : TxD 4304 (.str (("1." : Str) ++ Z0)) := ⟨_, rfl, (SmT.app (n := 2) ⟨by decide, by decide⟩ z0).mono (by decide)⟩
  have y2 : TxD 4304 (.str (rep9 ++ (".05" : Str))) := ⟨_, rfl, (SmT.app (m := 3) z9 ⟨by decide, by decide⟩).mono (by decide)⟩
  have y3 : TxD 4304 (.str (("1x" : Str) ++ Z1)) := ⟨_, rfl, (SmT.app (n := 2) ⟨by decide, by decide⟩ z1).mono (by decide)⟩
  have y9 : TxD 4304 (.str rep9) := ⟨_, rfl, z9.mono (by decide)⟩
  refine w_run ?_
  refine fn_wv law_bent_eq ?_
  unfold law_bent_0 law_bent_1 law_bent_2 law_bent_3 law_bent_4 law_bent_5 law_bent_6
  ((walk_at "vc"); repeat ((refine w_rw (by first | (simp only [lt, s1]; done) | (simp only [lt, s1]; rfl)) ?_); (walk_at "vc")))
  (refine take_w (by assumption) (by first | decide | omega) (by first | decide | omega) (by omega) fun a mu_a a0 a1 p_a => ?_)
  ((walk_at "vc"); repeat ((refine w_rw (by first | (simp only [ll]; done) | (simp only [ll]; rfl)) ?_); (walk_at "vc")))
  (refine take_w (by assumption) (by first | decide | omega) (by first | decide | omega) (by omega) fun b mu_b b0 b1 p_b => ?_)
  walk_at "vc"
  (refine take_w (by assumption) (by first | decide | omega) (by first | decide | omega) (by omega) fun w mu_w w0 w1 p_w => ?_)
  walk_at "vc"
  (refine take_w (by assumption) (by first | decide | omega) (by first | decide | omega) (by omega) fun g mu_g g0 g1 p_g => ?_)
  obtain ⟨sg, hsg, tsg⟩ := sgn_at g0 g1
  ((walk_at "vc"); repeat ((refine w_rw (by first | (simp only [hsg, m9, m0, m1, a1, a2, a3]; done) | (simp only [hsg, m9, m0, m1, a1, a2, a3]; rfl)) ?_); (walk_at "vc")))
  (refine take_w (by assumption) (by first | decide | omega) (by first | decide | omega) (by omega) fun e mu_e e0 e1 p_e => ?_)
  refine ix_w (by omega) (by simp only [List.length_cons, List.length_nil]; omega) fun wd hwd => ?_
  have tW : TxD 4304 wd := by
    simp only [List.cons_append, List.nil_append, List.mem_cons, List.not_mem_nil, or_false] at hwd
    rcases hwd with rfl | rfl | rfl | rfl | rfl | rfl | rfl | rfl | rfl | rfl | rfl | rfl | rfl | rfl | rfl | rfl | rfl | rfl | rfl | rfl | rfl | rfl | rfl | rfl | rfl | rfl | rfl | rfl | rfl | rfl | rfl | rfl | rfl | rfl
    all_goals first
      | exact y1
      | exact y2
      | exact y3
      | exact y9
      | exact tx_lit (by decide +kernel)
  obtain ⟨W, rfl, tW⟩ := tW
  clear hwd y1 y2 y3 y9 a1 a2 a3 m0 m1 m9 hsg
  generalize (⟨#[sg]⟩ : Str) = SG at *
  have fin : ∀ (t' : Str) (e' : List (Option O)) (mu' : List O), SmT t' (4 * n + 6000) → PotAt mu' k (c + 10) → rtQ (fun o s => Q o ⟨env, s.mu⟩) (.rt (.fz (.str t'))) ⟨e', mu'⟩ := fun t' e' mu' h1 h2 => hQ t' mu' h1 h2
  have c1 := tcl none (some a)
  have c2 := tcl (some a) none
  have c3 := tcl (some (a + 1)) none
  have t1 := tc none (some a)
  have t2 := tc (some a) none
  have t3 := tc (some (a + 1)) none
  generalize cutS t none (some a) = C1 at *
  generalize cutS t (some a) none = C2 at *
  generalize cutS t (some (a + 1)) none = C3 at *
  have g1 := t1.len
  have g2 := t2.len
  have g3 := t3.len
  have gs := tsg.len
  have x1 := t1.app tsg
  have x1l := x1.len
  obtain ⟨q1, s1', h1⟩ := sl none (some b)
  obtain ⟨q2, s2', h2⟩ := sl (some b) none
  obtain ⟨q3, s3', h3⟩ := sl (some (b + 1)) none
  obtain ⟨q4, s4', h4⟩ := sl (some (b - 1)) none
  have hW := SmL.one tW
  have j2 := jnD ((h1.app hW).app h2) (by omega)
  have j3 := jnD ((h1.app hW).app h3) (by omega)
  have j4 := jnD (h1.app h3) (by omega)
  have j5 := jnD (h1.app h4) (by omega)
  have k2 := ((h1.app hW).app h2).join
  have k3 := ((h1.app hW).app h3).join
  have k4 := (h1.app h3).join
  have k5 := (h1.app h4).join
  simp only [List.map_append, List.map_cons, List.map_nil] at j2 j3 j4 j5
  have l1 : (q1.map D.str).length ≤ n + 2 := by rw [List.length_map]; exact h1.cnt
  have l2 : (q2.map D.str).length ≤ n + 2 := by rw [List.length_map]; exact h2.cnt
  have l3 : (q3.map D.str).length ≤ n + 2 := by rw [List.length_map]; exact h3.cnt
  have l4 : (q4.map D.str).length ≤ n + 2 := by rw [List.length_map]; exact h4.cnt
  have rv : (ws.map D.str).reverse.length ≤ n + 2 := by rw [List.length_reverse]; exact lsl
  generalize Txt.join " " (q1 ++ [W] ++ q2) = J2 at *
  generalize Txt.join " " (q1 ++ [W] ++ q3) = J3 at *
  generalize Txt.join " " (q1 ++ q3) = J4 at *
  generalize Txt.join " " (q1 ++ q4) = J5 at *
  generalize Txt.join " " ws.reverse = J6 at *
  generalize q1.map D.str = Q1 at *
  generalize q2.map D.str = Q2 at *
  generalize q3.map D.str = Q3 at *
  generalize q4.map D.str = Q4 at *
  generalize ws.map D.str = WD at *
  clear h1 h2 h3 h4 hL hW sl tcl tc jnD
  have d1 : C1.length + SG.length ≤ 16777216 := by omega
  have d2 : (C1 ++ SG).length + C2.length ≤ 16777216 := by omega
  have d3 : (C1 ++ SG).length + C3.length ≤ 16777216 := by omega
  have d4 : C1.length + C3.length ≤ 16777216 := by omega
  by_cases w2 : w < 2
  · unfold law_bent_7T law_bent_7B law_bent_7B0
    ((walk_at "vc"); repeat ((refine w_rw (by first | (simp only [w2, c1, c2, d1, d2]; done) | (simp only [w2, c1, c2, d1, d2]; rfl)) ?_); (walk_at "vc")))
    exact fin _ _ _ ((x1.app t2).mono (by omega)) (p_e.mono (by omega))
  have cs : w = 2 ∨ w = 3 ∨ w = 4 ∨ w = 5 ∨ w = 6 ∨ w = 7 ∨ w = 8 ∨ w = 9 := by omega
  unfold law_bent_7T law_bent_7B law_bent_7B0 law_bent_8T law_bent_8B law_bent_8B0 law_bent_9T law_bent_9B law_bent_9B0 law_bent_10T law_bent_10B law_bent_10B0 law_bent_11T law_bent_11B law_bent_11B0 law_bent_12T law_bent_12B law_bent_12B0 law_bent_13T law_bent_13B law_bent_13B0
  rcases cs with rfl | rfl | rfl | rfl | rfl | rfl | rfl | rfl
  · ((walk_at "vc"); repeat ((refine w_rw (by first | (simp only [c1, c3, d1, d3]; done) | (simp only [c1, c3, d1, d3]; rfl)) ?_); (walk_at "vc")))
    exact fin _ _ _ ((x1.app t3).mono (by omega)) (p_e.mono (by omega))
  · ((walk_at "vc"); repeat ((refine w_rw (by first | (simp only [c1, c3, d4]; done) | (simp only [c1, c3, d4]; rfl)) ?_); (walk_at "vc")))
    exact fin _ _ _ ((t1.app t3).mono (by omega)) (p_e.mono (by omega))
  · ((walk_at "vc"); repeat ((refine w_rw (by first | (simp only [s1', s2', j2]; done) | (simp only [s1', s2', j2]; rfl)) ?_); (walk_at "vc")))
    exact fin _ _ _ (k2.mono (by omega)) (p_e.mono (by omega))
  · ((walk_at "vc"); repeat ((refine w_rw (by first | (simp only [s1', s3', j3]; done) | (simp only [s1', s3', j3]; rfl)) ?_); (walk_at "vc")))
    exact fin _ _ _ (k3.mono (by omega)) (p_e.mono (by omega))
  · ((walk_at "vc"); repeat ((refine w_rw (by first | (simp only [s1', s3', j4]; done) | (simp only [s1', s3', j4]; rfl)) ?_); (walk_at "vc")))
    exact fin _ _ _ (k4.mono (by omega)) (p_e.mono (by omega))
  · ((walk_at "vc"); repeat ((refine w_rw (by first | (simp only [s1', s4', j5]; done) | (simp only [s1', s4', j5]; rfl)) ?_); (walk_at "vc")))
    exact fin _ _ _ (k5.mono (by omega)) (p_e.mono (by omega))
  all_goals
    unfold law_bent_14
    have up : upperD (.str t) [] = some (.fz (.str (Txt.upper t))) := if_pos (by omega)
    have us := up_sm h
    generalize Txt.upper t = U at *
    have d5 : t.length + (" " : Str).length ≤ 16777216 := by have : (" " : Str).length = 1 := rfl; omega
    have tt := h.app (m := 1) (t := " ") ⟨by decide, by decide⟩
    have ttl := tt.len
    have d6 : (t ++ " ").length + t.length ≤ 16777216 := by omega
    have tt := tt.app h
    ((walk_at "vc"); repeat ((refine w_rw (by first | (simp only [jr, c1, d5, d6, up, rv]; done) | (simp only [jr, c1, d5, d6, up, rv]; rfl)) ?_); (walk_at "vc")))
    (refine take_w (by assumption) (by first | decide | omega) (by first | decide | omega) (by omega) fun f mu_f f0 f1 p_f => ?_)
    refine ix_w (by omega) (by simp only [List.length_cons, List.length_nil]; omega) fun wd hwd => ?_
    walk_at "vc"
    simp only [List.mem_cons, List.not_mem_nil, or_false] at hwd
    rcases hwd with rfl | rfl | rfl | rfl
    · exact fin _ _ _ (jrs.mono (by omega)) (p_f.mono (by omega))
    · exact fin _ _ _ (t1.mono (by omega)) (p_f.mono (by omega))
    · exact fin _ _ _ (tt.mono (by omega)) (p_f.mono (by omega))
    · exact fin _ _ _ (us.mono (by omega)) (p_f.mono (by omega))
/-- reading and this law's own look tell the same -/
def ThOk (d : D) : Prop := ∃ R U T0 T1, (∀ mu, m_law_read [d] mu = .ok (.fz R) ⟨[], mu⟩) ∧ (∀ mu, m_law_due [d] mu = .ok (.fz U) ⟨[], mu⟩) ∧ reprD d = some (.fz (.str T0)) ∧ reprD R = some (.fz (.str T1)) ∧
  ((U = .non ∧ R = .tup [.str "none", .str T0]) ∨ ((∃ x, U = .tup x) ∧ R = U))
theorem five_repr {s : Str} {m n e : Int} {l : D} (k : CardOk s m n l e) : ∃ T, reprD (.tup [.str s, .int m, .int n, l, .int e]) = some (.fz (.str T)) := by
  have sa := name_asc k.n
  have hm := log_small (i := m) (by have := k.w0; omega) (by have := k.w1; omega)
  have hn := log_small (i := n) (by have := k.h0; omega) (by have := k.h1; omega)
  have he := log_small (i := e) (by have := k.t0; omega) (by have := k.t1; omega)
  have sl := k.n.2.1
  rcases k.l with rfl | ⟨x, rfl, x0, x1⟩
  · obtain ⟨p, _, h, _⟩ := repr_okD (d := .tup [.str s, .int m, .int n, .non, .int e]) (by
      simp only [okD, okA, Bool.and_true, Bool.and_eq_true, decide_eq_true_eq]
      exact ⟨sa, by omega, by omega, trivial, by omega⟩) (by simp only [dpD, dpA]; decide) (by simp only [wtD, wtA]; omega)
    exact ⟨_, h⟩
  · have hx := log_small (i := x) (by omega) (by omega)
    obtain ⟨p, _, h, _⟩ := repr_okD (d := .tup [.str s, .int m, .int n, .int x, .int e]) (by
      simp only [okD, okA, Bool.and_true, Bool.and_eq_true, decide_eq_true_eq]
      exact ⟨sa, by omega, by omega, by omega, by omega⟩) (by simp only [dpD, dpA]; decide) (by simp only [wtD, wtA]; omega)
    exact ⟨_, h⟩
theorem th_text {t : Str} {n : Nat} (h : SmT t n) (hn : n ≤ 90000) : ThOk (.str t) := by
  have hl := h.len
  obtain ⟨T0, T1, r0, r1⟩ := told_repr (d := .str t) h.okD (by simp only [dpD]; omega) (by simp only [wtD]; omega)
  cases hc : cardR (wordsT t) with
  | none =>
    refine ⟨.tup [.str "none", .str T0], .non, T0, T1, fun mu => read_no ((read_str (by omega)).1 hc) r0, fun mu => ?_, r0, r1, .inl ⟨rfl, rfl⟩⟩
    have := due_str (mu := mu) h (by omega)
    rw [hc] at this
    exact this
  | some v =>
    obtain ⟨s, m, n', l, e⟩ := v
    obtain ⟨k, hw⟩ := cardR_ok hc
    obtain ⟨T2, r2⟩ := five_repr k
    have ht : cardT s m n' l e = t := by
      unfold cardT
      rw [hw]
      exact words_join t
    refine ⟨.tup [.str s, .int m, .int n', l, .int e], .tup [.str s, .int m, .int n', l, .int e], T0, T2, fun mu => read_yes k ((read_str (by omega)).2 s m n' l e hc) ht, fun mu => ?_, r0, r2, .inr ⟨⟨_, rfl⟩, rfl⟩⟩
    have := due_str (mu := mu) h (by omega)
    rw [hc] at this
    exact this
theorem th_odd {d : D} {j : Nat} (h : OdT d j) (hj : j ≤ 40) : ThOk d := by
  rcases h.st with hs | ⟨s, rfl, hs⟩
  · obtain ⟨T0, T1, r0, r1⟩ := told_repr h.ok (by have := h.dp; omega) (by have := h.wt; omega)
    exact ⟨_, .non, T0, T1, fun mu => read_no (read_odd hs) r0, fun mu => due_odd hs, r0, r1, .inl ⟨rfl, rfl⟩⟩
  · exact th_text hs (by decide)
noncomputable def law_0I : M (List D) :=
    (mRng1 (aCons (frz (xOp addD (xC (.int 1)) (xUn lenD (xSl (xBor 0) (ret none) (mPart (xC (.int 6))))))) aNil))
noncomputable def law_0B0 : M Fl :=
    (sAsgC 2 (xCall m_law_begin (fun ds _ => ds) 2 (nK []) (aCons (frz (xVar 0)) (aCons (frz (xVar 1)) aNil)) aNil))
noncomputable def law_0B1 : M Fl :=
    (sAsg 3 (xCall m_law_card (fun ds _ => ds) 1 (nK []) (aCons (frz (xVar 2)) aNil) aNil))
noncomputable def law_0B2 : M Fl :=
    (sAsg 4 (xCall m_law_card_text (fun ds _ => ds) 1 (nK []) (aCons (frz (xVar 3)) aNil) aNil))
noncomputable def law_0B3T : M Bool :=
    (toB (xOp neD (xUn reprD (xCall m_law_read (fun ds _ => ds) 1 (nK []) (aCons (frz (xVar 4)) aNil) aNil)) (xUn reprD (xRd 3))))
noncomputable def law_0B3B0 : M Fl :=
    (sRet (xC (.bl false)))
noncomputable def law_0B3B : M Fl :=
    law_0B3B0
noncomputable def law_0B4I : M (List D) :=
    (mRng1 (aCons (frz (xC (.int 14))) aNil))
noncomputable def law_0B4B0 : M Fl :=
    (sAsg 6 (xCall m_law_bent (fun ds _ => ds) 2 (nK []) (aCons (frz (xVar 2)) (aCons (frz (xVar 4)) aNil)) aNil))
noncomputable def law_0B4B1T : M Bool :=
    (toB (xOp eqD (xCall m_law_draw (fun ds _ => ds) 2 (nK []) (aCons (frz (xVar 2)) (aCons (frz (xC (.int 3))) aNil)) aNil) (xC (.int 0))))
noncomputable def law_0B4B1B0 : M Fl :=
    (sAsg 6 (xCall m_law_bent (fun ds _ => ds) 2 (nK []) (aCons (frz (xVar 2)) (aCons (frz (xVar 6)) aNil)) aNil))
noncomputable def law_0B4B1B : M Fl :=
    law_0B4B1B0
noncomputable def law_0B4B2I : M (List D) :=
    (mSeq (frz (xTup (aCons (frz (xVar 6)) (aCons (frz (xCall m_law_odd (fun ds _ => ds) 2 (nK []) (aCons (frz (xVar 2)) (aCons (frz (xVar 4)) aNil)) aNil)) aNil)))))
noncomputable def law_0B4B2B0 : M Fl :=
    (sAsg 8 (xCall m_law_due (fun ds _ => ds) 1 (nK []) (aCons (frz (xVar 7)) aNil) aNil))
noncomputable def law_0B4B2B1T : M Bool :=
    (toB (xOp neD (xUn reprD (xCall m_law_read (fun ds _ => ds) 1 (nK []) (aCons (frz (xVar 7)) aNil) aNil)) (xUn reprD (xIf (toB (xOp isntD (xBor 8) (xC .non))) (xVar 8) (xTup (aCons (frz (xC (.str "none"))) (aCons (frz (xUn reprD (xRd 7))) aNil)))))))
noncomputable def law_0B4B2B1B0 : M Fl :=
    (sRet (xC (.bl false)))
noncomputable def law_0B4B2B1B : M Fl :=
    law_0B4B2B1B0
noncomputable def law_0B4B2B : M Fl :=
    (sSeq law_0B4B2B0 (sIf law_0B4B2B1T law_0B4B2B1B sNil))
noncomputable def law_0B4B : M Fl :=
    (sSeq law_0B4B0 (sSeq (sIf law_0B4B1T law_0B4B1B sNil) (sFor law_0B4B2I (gN 7) law_0B4B2B)))
noncomputable def law_0B : M Fl :=
    (sSeq law_0B0 (sSeq law_0B1 (sSeq law_0B2 (sSeq (sIf law_0B3T law_0B3B sNil) (sFor law_0B4I (gN 5) law_0B4B)))))
noncomputable def law_1 : M Fl :=
    (sRet (xC (.bl true)))
theorem law_eq : m_law = fnM 9
    (sSeq (sFor law_0I (gN 1) law_0B) law_1) := rfl
/-- a thing looked at -/
theorem look_ok {d : D} (h : ThOk d) {x0 x1 x2 x3 x4 x5 x6 x8 : Option O} {mu : List O} {Q : Fl → S → Prop} {E : Exc → S → Prop} (hQ : ∀ x8', Q .nx ⟨[x0, x1, x2, x3, x4, x5, x6, some (.fz d), x8'], mu⟩) :
    wv (law_0B4B2B ⟨[x0, x1, x2, x3, x4, x5, x6, some (.fz d), x8], mu⟩) Q E := by
  obtain ⟨R, U, T0, T1, hr, hd, r0, r1, h⟩ := h
  have hr := fun env => run_ok (env := env) (hr mu)
  have hd := fun env => run_ok (env := env) (hd mu)
  have te : neD (.str T1) (.str T1) = some (.fz (.bl false)) := by rw [st_nes]; simp
  have nn : isntD .non .non = some (.fz (.bl false)) := rfl
  have nt : ∀ x, isntD (.tup x) .non = some (.fz (.bl true)) := fun _ => rfl
  unfold law_0B4B2B law_0B4B2B0 law_0B4B2B1T law_0B4B2B1B law_0B4B2B1B0
  rcases h with ⟨rfl, rfl⟩ | ⟨⟨x, rfl⟩, rfl⟩
  · ((walk_at "vc"); repeat ((refine w_rw (by first | (simp only [hr, hd, r0, r1, nn, te]; done) | (simp only [hr, hd, r0, r1, nn, te]; rfl)) ?_); (walk_at "vc")))
    cases d <;> first | (exfalso; rw [reprD, D.py] at r0; cases r0; done) | (((walk_at "vc"); repeat ((refine w_rw (by first | (simp only [r0, r1, te]; done) | (simp only [r0, r1, te]; rfl)) ?_); (walk_at "vc"))); exact hQ _)
  · ((walk_at "vc"); repeat ((refine w_rw (by first | (simp only [hr, hd, r1, nt, te]; done) | (simp only [hr, hd, r1, nt, te]; rfl)) ?_); (walk_at "vc")))
    exact hQ _
theorem pot_new {mu : List O} {a b : Int} (a0 : 0 ≤ a) (b0 : 0 ≤ b) (b1 : b < 2305843009213693952) : PotAt (mu ++ [.lst [.int a, .int b, .int 0]]) mu.length 0 :=
  ⟨a, b, 0, getM_app mu _, a0, b0, b1, Int.le_refl _, Int.le_refl _⟩
theorem kard_sm {s : Str} {m n e : Int} {l : D} (k : CardOk s m n l e) : SmT (cardT s m n l e) 1000 := by
  refine ⟨card_len k, ?_⟩
  unfold cardT
  refine join_chr (by decide) fun p hp c hc => ?_
  have n1 : ∀ c ∈ lettersT.cps.toList, c < 128 := by decide +kernel
  have di : ∀ a ∈ List.range 400, ((toString ((a : Nat) : Int) : Str).cps.toList.all fun c => decide (c < 128)) = true := by decide +kernel
  have dh : ∀ a ∈ List.range 24, ((Txt.zfill (toString ((a : Nat) : Int) : Str) 2).cps.toList.all fun c => decide (c < 128)) = true := by decide +kernel
  have di' : ∀ {x : Int}, 0 ≤ x → x < 400 → ∀ c ∈ (toString x : Str).cps.toList, c < 128 := fun {x} h0 h1 c hc => by
    have := di x.toNat (List.mem_range.mpr (by omega))
    rw [Int.toNat_of_nonneg h0, List.all_eq_true] at this
    exact of_decide_eq_true (this c hc)
  have dh' : ∀ {x : Int}, 0 ≤ x → x < 24 → ∀ c ∈ (Txt.zfill (toString x : Str) 2).cps.toList, c < 128 := fun {x} h0 h1 c hc => by
    have := dh x.toNat (List.mem_range.mpr (by omega))
    rw [Int.toNat_of_nonneg h0, List.all_eq_true] at this
    exact of_decide_eq_true (this c hc)
  have ap : ∀ {a b : Str}, (∀ c ∈ a.cps.toList, c < 128) → (∀ c ∈ b.cps.toList, c < 128) → ∀ c ∈ (a ++ b).cps.toList, c < 128 := fun {a b} ha hb c hc => by
    rw [app_list] at hc
    exact (List.mem_append.mp hc).elim (ha c) (hb c)
  obtain ⟨hn, w0, w1, h0, h1, lo, t0, t1⟩ := k
  have f1 : ∀ c ∈ s.cps.toList, c < 128 := fun c hc => n1 c (hn.2.2.1 c hc)
  have f2 : ∀ c ∈ ((toString m : Str) ++ "x" ++ (toString n : Str)).cps.toList, c < 128 := ap (ap (di' (by omega) (by omega)) (by decide)) (di' (by omega) (by omega))
  have f3 : ∀ c ∈ ("until" : Str).cps.toList, c < 128 := by decide
  have f4 : ∀ c ∈ ("strips" : Str).cps.toList, c < 128 := by decide
  have f5 : ∀ c ∈ (toString e : Str).cps.toList, c < 128 := di' t0 (by omega)
  unfold wordsC at hp
  rcases lo with rfl | ⟨x, rfl, x0, x1⟩
  · by_cases ht : 0 < e
    · rw [if_pos ht] at hp
      simp only [List.append_nil, List.cons_append, List.nil_append, List.mem_cons, List.not_mem_nil, or_false] at hp
      rcases hp with rfl | rfl | rfl | rfl
      · exact f1 c hc
      · exact f2 c hc
      · exact f4 c hc
      · exact f5 c hc
    · rw [if_neg ht] at hp
      simp only [List.append_nil, List.cons_append, List.nil_append, List.mem_cons, List.not_mem_nil, or_false] at hp
      rcases hp with rfl | rfl
      · exact f1 c hc
      · exact f2 c hc
  · have f6 : ∀ c ∈ (whenT x).cps.toList, c < 128 := ap (ap (di' (by omega) (by omega)) (by decide)) (dh' (by omega) (by omega))
    by_cases ht : 0 < e
    · rw [if_pos ht] at hp
      simp only [List.append_nil, List.cons_append, List.nil_append, List.mem_cons, List.not_mem_nil, or_false] at hp
      rcases hp with rfl | rfl | rfl | rfl | rfl | rfl
      · exact f1 c hc
      · exact f2 c hc
      · exact f3 c hc
      · exact f6 c hc
      · exact f4 c hc
      · exact f5 c hc
    · rw [if_neg ht] at hp
      simp only [List.append_nil, List.cons_append, List.nil_append, List.mem_cons, List.not_mem_nil, or_false] at hp
      rcases hp with rfl | rfl | rfl | rfl
      · exact f1 c hc
      · exact f2 c hc
      · exact f3 c hc
      · exact f6 c hc
theorem read_told {s : Str} {m n e : Int} {l : D} {mu : List O} (k : CardOk s m n l e) : m_law_read [.str (cardT s m n l e)] mu = .ok (.fz (.tup [.str s, .int m, .int n, l, .int e])) ⟨[], mu⟩ := by
  have sm := kard_sm k
  have hc : cardR (wordsT (cardT s m n l e)) = some (s, m, n, l, e) := by rw [words_text k]; exact cardR_words k
  exact read_yes k ((read_str (by have := sm.len; omega)).2 s m n l e hc) rfl
/-- a turn of the law -/
theorem law_tour {t : Str} {k q : Nat} {x0 x1 x3 x5 x6 x7 x8 : Option O} {mu : List O} {Q : Fl → S → Prop} {E : Exc → S → Prop} (ht : SmT t 1000) (p : PotAt mu k q) (hq : q ≤ 100000)
    (hQ : ∀ x6 x7 x8 mu', PotAt mu' k (q + 60) → Q .nx ⟨[x0, x1, some (.fz (.cel k)), x3, some (.fz (.str t)), x5, x6, x7, x8], mu'⟩) :
    wv (law_0B4B ⟨[x0, x1, some (.fz (.cel k)), x3, some (.fz (.str t)), x5, x6, x7, x8], mu⟩) Q E := by
  unfold law_0B4B law_0B4B0 law_0B4B1T law_0B4B1B law_0B4B1B0 law_0B4B2I
  walk_at "vc"
  refine bent_w ht (by decide) p (by omega) fun b1 mu1 hb1 p1 => ?_
  walk_at "vc"
  (refine take_w (by assumption) (by first | decide | omega) (by first | decide | omega) (by omega) fun d mu_d d0 d1 p_d => ?_)
  by_cases c : d = 0
  · ((walk_at "vc"); repeat ((refine w_rw (by first | (simp only [c]; done) | (simp only [c]; rfl)) ?_); (walk_at "vc")))
    refine bent_w hb1 (by decide) p_d (by omega) fun b2 mu2 hb2 p2 => ?_
    walk_at "vc"
    refine odd_w ht p2 (by omega) fun od mu3 hod p3 => ?_
    ((walk_at "vc"); repeat ((refine w_rw (by first | (simp only [st_for1]; done) | (simp only [st_for1]; rfl)) ?_); (walk_at "vc")))
    refine look_ok (th_text hb2 (by decide)) fun x8' => ?_
    ((walk_at "vc"); repeat ((refine w_rw (by first | (simp only [st_for1]; done) | (simp only [st_for1]; rfl)) ?_); (walk_at "vc")))
    refine look_ok (th_odd hod (by decide)) fun x8' => ?_
    ((walk_at "vc"); repeat ((refine w_rw (by first | (simp only [st_for0]; done) | (simp only [st_for0]; rfl)) ?_); (walk_at "vc")))
    exact hQ _ _ _ _ (p3.mono (by omega))
  · ((walk_at "vc"); repeat ((refine w_rw (by first | (simp only [c]; done) | (simp only [c]; rfl)) ?_); (walk_at "vc")))
    refine odd_w ht p_d (by omega) fun od mu3 hod p3 => ?_
    ((walk_at "vc"); repeat ((refine w_rw (by first | (simp only [st_for1]; done) | (simp only [st_for1]; rfl)) ?_); (walk_at "vc")))
    refine look_ok (th_text hb1 (by decide)) fun x8' => ?_
    ((walk_at "vc"); repeat ((refine w_rw (by first | (simp only [st_for1]; done) | (simp only [st_for1]; rfl)) ?_); (walk_at "vc")))
    refine look_ok (th_odd hod (by decide)) fun x8' => ?_
    ((walk_at "vc"); repeat ((refine w_rw (by first | (simp only [st_for0]; done) | (simp only [st_for0]; rfl)) ?_); (walk_at "vc")))
    exact hQ _ _ _ _ (p3.mono (by omega))
theorem law_true' : ∀ ns : List Int, ns.length ≤ 63 → ∃ mu, m_law [.lsk (ns.map .int)] [] = .ok (.fz (.bl true)) ⟨[], mu⟩ := by
  intro ns hn
  have hcl := cutD_len (ds := ns.map D.int) (lo := none) (hi := some 6)
  rw [List.length_map] at hcl
  have sl : slD (.lsk (ns.map D.int)) none (some 6) = some (.lst (cutD (ns.map D.int) none (some 6))) := rfl
  have key : wv (m_law [.lsk (ns.map .int)] []) (fun o s => o = .fz (.bl true) ∧ s = ⟨[], s.mu⟩) noQ := by
    have beg := fun (mu : List O) (j : Nat) (hj : j < 1000) => begin_ok (ns := ns) (mu := mu) (j := j) hn hj
    generalize ns.map D.int = L at *
    generalize hC : cutD L none (some 6) = C at *
    have cl : (C.length : Int) ≤ 63 := by omega
    have cl2 : C.length ≤ 16777216 := by omega
    refine fn_wv law_eq ?_
    unfold law_0I law_1
    ((walk_at "vc"); repeat ((refine w_rw (by first | (simp only [sl]; done) | (simp only [sl]; rfl)) ?_); (walk_at "vc")))
    refine w_rng (fun t st => ∃ (x1 x2 x3 x4 x5 x6 x7 x8 : Option O) (mu : List O), st = ⟨[some (.fz (.lsk L)), x1, x2, x3, x4, x5, x6, x7, x8], mu⟩) ⟨_, _, _, _, _, _, _, _, _, rfl⟩ (fun j st hj h => ?_) (fun st h => ?_)
    · obtain ⟨x1, x2, x3, x4, x5, x6, x7, x8, mu, rfl⟩ := h
      refine ⟨_, rfl, ?_⟩
      have hj : j < 1000 := by omega
      obtain ⟨a, b, eb, a0, b0, b1⟩ := beg mu j hj
      have eb := fun env => run_ok (env := env) eb
      have p := pot_new (mu := mu) a0 b0 b1
      unfold law_0B law_0B0 law_0B1 law_0B2 law_0B3T law_0B3B law_0B3B0 law_0B4I
      ((walk_at "vc"); repeat ((refine w_rw (by first | (simp only [Int.zero_add, eb]; done) | (simp only [Int.zero_add, eb]; rfl)) ?_); (walk_at "vc")))
      obtain ⟨s, w, h, l, t0, mu1, ec, ck, p1⟩ := card_ok p (by omega)
      have ec := fun env => run_ok (env := env) ec
      have et := fun env => run_ok (env := env) (card_text_ok (mu := mu1) ck)
      have er := fun env => run_ok (env := env) (read_told (mu := mu1) ck)
      have sm := kard_sm ck
      obtain ⟨T, hT⟩ := five_repr ck
      have te : neD (.str T) (.str T) = some (.fz (.bl false)) := by rw [st_nes]; simp
      generalize cardT s w h l t0 = CT at *
      ((walk_at "vc"); repeat ((refine w_rw (by first | (simp only [ec, et, er, hT, te]; done) | (simp only [ec, et, er, hT, te]; rfl)) ?_); (walk_at "vc")))
      refine w_rng (fun t st => ∃ (x5 x6 x7 x8 : Option O) (mu' : List O), st = ⟨[some (.fz (.lsk L)), some (.fz (.int (j : Int))), some (.fz (.cel mu.length)), some (.fz (.tup [.str s, .int w, .int h, l, .int t0])), some (.fz (.str CT)), x5, x6, x7, x8], mu'⟩ ∧ PotAt mu' mu.length (100 + 60 * t)) ⟨_, _, _, _, _, rfl, p1.mono (by omega)⟩ (fun t st ht h => ?_) (fun st h => ?_)
      · obtain ⟨x5, x6, x7, x8, mu2, rfl, p⟩ := h
        have ht : t < 14 := by omega
        refine ⟨_, rfl, ?_⟩
        refine law_tour sm p (by omega) fun x6 x7 x8 mu' p' => ?_
        walk_at "vc"
        exact ⟨_, _, _, _, _, rfl, p'.mono (by omega)⟩
      · obtain ⟨x5, x6, x7, x8, mu2, rfl, p⟩ := h
        walk_at "vc"
        exact ⟨_, _, _, _, _, _, _, _, _, rfl⟩
    · obtain ⟨x1, x2, x3, x4, x5, x6, x7, x8, mu, rfl⟩ := h
      walk_at "vc"
      exact ⟨rfl, rfl⟩
  obtain ⟨o, s, e, rfl, hs⟩ := w_ex key
  refine ⟨s.mu, ?_⟩
  rw [e, hs]
end F05
namespace F05
open PySem PyProof.Rows L2 L2.Pc L2.Tr
section
theorem law_true : ∀ ns : List Int, ns.length ≤ 63 → ∃ mu, m_law [.lsk (ns.map .int)] [] = .ok (.fz (.bl true)) ⟨[], mu⟩ := law_true'
end
theorem all_mk {l : PySem.W.OpenLaw} {w : World} {K : PySem.W.Frag} {h : Heap} {mg : Str → Option Value} {fa : Addr} (X : K.In h) (G0 : h.Ns mainGlobals mg) (hfa : mg "law" = some (.ref fa))
    {f_is_whole : Addr}
    {f_is_moment : Addr}
    {f_number_of : Addr}
    {f_show_moment : Addr}
    {f_moment_of : Addr}
    {f_is_name : Addr}
    {f_Card_init : Addr}
    {f_Card_str : Addr}
    {f_sizes_of : Addr}
    {f_behind_word : Addr}
    {f_card_of : Addr}
    {f_read_card : Addr}
    {f_law_begin : Addr}
    {f_law_draw : Addr}
    {f_law_moment : Addr}
    {f_law_when : Addr}
    {f_law_name : Addr}
    {f_law_card : Addr}
    {f_law_card_text : Addr}
    {f_law_odd : Addr}
    {f_law_bent : Addr}
    {f_law_number : Addr}
    {f_law_moment_of : Addr}
    {f_law_is_name : Addr}
    {f_law_due : Addr}
    {f_law_read : Addr}
    {f_law : Addr}
    {c_Card : Addr}
    {c_CardError : Addr}
    {c_NoText : Addr}
    {i_NoText : Addr} {xN_NoText : Addr} {xn_NoText xq_NoText : Str} {xb_NoText xm_NoText : List Value} {xs_NoText : List Str} {xu_NoText : List Value} {xa_NoText : Bool} {xc_NoText : Option Bool} {xd_NoText : Option Addr} {x0_NoText x1_NoText x2_NoText x3_NoText x5_NoText : Option Value}
    {od_NoText_init an_NoText_init : Option Addr} {sl_NoText_init : Array (Option Value)} {oc_NoText_init kV_NoText_init dc_NoText_init pm_NoText_init cd_NoText_init ct_NoText_init : Value}
    {od_is_whole an_is_whole : Option Addr} {sl_is_whole : Array (Option Value)} {oc_is_whole kV_is_whole dc_is_whole pm_is_whole cd_is_whole ct_is_whole : Value}
    {od_is_moment an_is_moment : Option Addr} {sl_is_moment : Array (Option Value)} {oc_is_moment kV_is_moment dc_is_moment pm_is_moment cd_is_moment ct_is_moment : Value}
    {od_number_of an_number_of : Option Addr} {sl_number_of : Array (Option Value)} {oc_number_of kV_number_of dc_number_of pm_number_of cd_number_of ct_number_of : Value}
    {od_show_moment an_show_moment : Option Addr} {sl_show_moment : Array (Option Value)} {oc_show_moment kV_show_moment dc_show_moment pm_show_moment cd_show_moment ct_show_moment : Value}
    {od_moment_of an_moment_of : Option Addr} {sl_moment_of : Array (Option Value)} {oc_moment_of kV_moment_of dc_moment_of pm_moment_of cd_moment_of ct_moment_of : Value}
    {od_is_name an_is_name : Option Addr} {sl_is_name : Array (Option Value)} {oc_is_name kV_is_name dc_is_name pm_is_name cd_is_name ct_is_name : Value}
    {Td_Card_init : Addr} {do_Card_init : Option Addr} {di_Card_init : Array Value} {dn_Card_init : Nat} {ds_Card_init : Array (Option Value)}
    {od_Card_init an_Card_init : Option Addr} {sl_Card_init : Array (Option Value)} {oc_Card_init kV_Card_init dc_Card_init pm_Card_init cd_Card_init ct_Card_init : Value}
    {od_Card_str an_Card_str : Option Addr} {sl_Card_str : Array (Option Value)} {oc_Card_str kV_Card_str dc_Card_str pm_Card_str cd_Card_str ct_Card_str : Value}
    {od_sizes_of an_sizes_of : Option Addr} {sl_sizes_of : Array (Option Value)} {oc_sizes_of kV_sizes_of dc_sizes_of pm_sizes_of cd_sizes_of ct_sizes_of : Value}
    {od_behind_word an_behind_word : Option Addr} {sl_behind_word : Array (Option Value)} {oc_behind_word kV_behind_word dc_behind_word pm_behind_word cd_behind_word ct_behind_word : Value}
    {od_card_of an_card_of : Option Addr} {sl_card_of : Array (Option Value)} {oc_card_of kV_card_of dc_card_of pm_card_of cd_card_of ct_card_of : Value}
    {od_read_card an_read_card : Option Addr} {sl_read_card : Array (Option Value)} {oc_read_card kV_read_card dc_read_card pm_read_card cd_read_card ct_read_card : Value}
    {od_law_begin an_law_begin : Option Addr} {sl_law_begin : Array (Option Value)} {oc_law_begin kV_law_begin dc_law_begin pm_law_begin cd_law_begin ct_law_begin : Value}
    {od_law_draw an_law_draw : Option Addr} {sl_law_draw : Array (Option Value)} {oc_law_draw kV_law_draw dc_law_draw pm_law_draw cd_law_draw ct_law_draw : Value}
    {od_law_moment an_law_moment : Option Addr} {sl_law_moment : Array (Option Value)} {oc_law_moment kV_law_moment dc_law_moment pm_law_moment cd_law_moment ct_law_moment : Value}
    {od_law_when an_law_when : Option Addr} {sl_law_when : Array (Option Value)} {oc_law_when kV_law_when dc_law_when pm_law_when cd_law_when ct_law_when : Value}
    {od_law_name an_law_name : Option Addr} {sl_law_name : Array (Option Value)} {oc_law_name kV_law_name dc_law_name pm_law_name cd_law_name ct_law_name : Value}
    {od_law_card an_law_card : Option Addr} {sl_law_card : Array (Option Value)} {oc_law_card kV_law_card dc_law_card pm_law_card cd_law_card ct_law_card : Value}
    {od_law_card_text an_law_card_text : Option Addr} {sl_law_card_text : Array (Option Value)} {oc_law_card_text kV_law_card_text dc_law_card_text pm_law_card_text cd_law_card_text ct_law_card_text : Value}
    {od_law_odd an_law_odd : Option Addr} {sl_law_odd : Array (Option Value)} {oc_law_odd kV_law_odd dc_law_odd pm_law_odd cd_law_odd ct_law_odd : Value}
    {od_law_bent an_law_bent : Option Addr} {sl_law_bent : Array (Option Value)} {oc_law_bent kV_law_bent dc_law_bent pm_law_bent cd_law_bent ct_law_bent : Value}
    {od_law_number an_law_number : Option Addr} {sl_law_number : Array (Option Value)} {oc_law_number kV_law_number dc_law_number pm_law_number cd_law_number ct_law_number : Value}
    {od_law_moment_of an_law_moment_of : Option Addr} {sl_law_moment_of : Array (Option Value)} {oc_law_moment_of kV_law_moment_of dc_law_moment_of pm_law_moment_of cd_law_moment_of ct_law_moment_of : Value}
    {od_law_is_name an_law_is_name : Option Addr} {sl_law_is_name : Array (Option Value)} {oc_law_is_name kV_law_is_name dc_law_is_name pm_law_is_name cd_law_is_name ct_law_is_name : Value}
    {od_law_due an_law_due : Option Addr} {sl_law_due : Array (Option Value)} {oc_law_due kV_law_due dc_law_due pm_law_due cd_law_due ct_law_due : Value}
    {od_law_read an_law_read : Option Addr} {sl_law_read : Array (Option Value)} {oc_law_read kV_law_read dc_law_read pm_law_read cd_law_read ct_law_read : Value}
    {od_law an_law : Option Addr} {sl_law : Array (Option Value)} {oc_law kV_law dc_law pm_law cd_law ct_law : Value}
    {t_q_MOMENTS : Tok}
    {t_q_HOURS : Tok}
    {t_q_FIGURES : Tok}
    {t_q_LETTERS : Tok}
    {t_q_LONGEST : Tok}
    {A_q_WORDS : Addr} {o_q_WORDS : Option Addr} {its_q_WORDS : Array Value} {n_q_WORDS : Nat} {s_q_WORDS : Array (Option Value)}
    {t_q_MOST_SIDE : Tok}
    {t_q_MOST_STRIPS : Tok}
    (xg : PySem.W.specialIn K (.builtin "object.__class__") "__get__" = some (some (.builtin "getset_descriptor.__get__")))
    (xt : PySem.W.takesIn K (.builtin "object.__class__") = some true)
    (a_Card : PySem.W.nsIn K mainGlobals "Card" = some (some (.ref c_Card)))
    (pg_Card : PySem.W.plainGet K c_Card Str.empty = true)
    (hd_Card : PySem.W.hasDictIn K c_Card = true)
    (po_Card : PySem.W.plainOver K c_Card = true)
    (sa_Card : PySem.W.findIn K (.ref c_Card) "__setattr__" = some (some (.builtin "object.__setattr__")))
    (mk_Card : PySem.W.makesIn K c_Card = true)
    (kp_Card : PySem.W.keepIn K (.ref c_Card) = true)
    (cl_Card : PySem.W.findIn K (.ref c_Card) "__class__" = some (some (.builtin "object.__class__")))
    (ob_Card : PySem.W.mroIn K c_Card (.type "object") = some true)
    (ne_Card : PySem.W.findIn K (.ref c_Card) "__ne__" = some (some (.builtin "object.__ne__")))
    (no_Card_name : PySem.W.findIn K (.ref c_Card) "name" = some none)
    (no_Card_wide : PySem.W.findIn K (.ref c_Card) "wide" = some none)
    (no_Card_high : PySem.W.findIn K (.ref c_Card) "high" = some none)
    (no_Card_until : PySem.W.findIn K (.ref c_Card) "until" = some none)
    (no_Card_strips : PySem.W.findIn K (.ref c_Card) "strips" = some none)
    (ty_Card : PySem.W.typeIn K (.ref c_Card) = some (.type "type"))
    (ss_Card : PySem.W.subIn K (.ref c_Card) (.ref c_Card) = some true)
    (up_Card_NoneType : PySem.W.subIn K (.type "NoneType") (.ref c_Card) = some false)
    (dn_Card_NoneType : PySem.W.subIn K (.ref c_Card) (.type "NoneType") = some false)
    (up_Card_bool : PySem.W.subIn K (.type "bool") (.ref c_Card) = some false)
    (dn_Card_bool : PySem.W.subIn K (.ref c_Card) (.type "bool") = some false)
    (up_Card_int : PySem.W.subIn K (.type "int") (.ref c_Card) = some false)
    (dn_Card_int : PySem.W.subIn K (.ref c_Card) (.type "int") = some false)
    (up_Card_str : PySem.W.subIn K (.type "str") (.ref c_Card) = some false)
    (dn_Card_str : PySem.W.subIn K (.ref c_Card) (.type "str") = some false)
    (up_Card_tuple : PySem.W.subIn K (.type "tuple") (.ref c_Card) = some false)
    (dn_Card_tuple : PySem.W.subIn K (.ref c_Card) (.type "tuple") = some false)
    (up_Card_list : PySem.W.subIn K (.type "list") (.ref c_Card) = some false)
    (dn_Card_list : PySem.W.subIn K (.ref c_Card) (.type "list") = some false)
    (up_Card_dict : PySem.W.subIn K (.type "dict") (.ref c_Card) = some false)
    (dn_Card_dict : PySem.W.subIn K (.ref c_Card) (.type "dict") = some false)
    (fi_Card_init : PySem.W.findIn K (.ref c_Card) "__init__" = some (some (.ref f_Card_init)))
    (isf_Card_init : PySem.W.isFn K (.ref f_Card_init) = true)
    (fi_Card_str : PySem.W.findIn K (.ref c_Card) "__str__" = some (some (.ref f_Card_str)))
    (isf_Card_str : PySem.W.isFn K (.ref f_Card_str) = true)
    (kf_Card_str : PySem.W.keepIn K (.ref f_Card_str) = true)
    (a_CardError : PySem.W.nsIn K mainGlobals "CardError" = some (some (.ref c_CardError)))
    (ty_CardError : PySem.W.typeIn K (.ref c_CardError) = some (.type "type"))
    (ex_CardError : PySem.W.subIn K (.ref c_CardError) (.type "BaseException") = some true)
    (is_CardError : PySem.W.isClsIn K c_CardError = true)
    (sp_CardError : PySem.W.specialIn K (.ref c_CardError) "__getattribute__" = some (some (.builtin "type.__getattribute__")))
    (rd_CardError : PySem.W.readsIn K c_CardError (.type "type") = true)
    (fi_CardError : PySem.W.findCls K (.ref c_CardError) (.type "type") "__init__" = some (.val (.builtin "ValueError.__init__")))
    (a_NoText : PySem.W.nsIn K mainGlobals "NoText" = some (some (.ref c_NoText)))
    (ty_NoText : PySem.W.typeIn K (.ref c_NoText) = some (.type "type"))
    (ex_NoText : PySem.W.subIn K (.ref c_NoText) (.type "BaseException") = some true)
    (is_NoText : PySem.W.isClsIn K c_NoText = true)
    (xl_NoText : K.lookup c_NoText = some (excClassObj xn_NoText xq_NoText c_NoText xN_NoText xb_NoText xm_NoText true xs_NoText xu_NoText xa_NoText xc_NoText xd_NoText x0_NoText x1_NoText x2_NoText x3_NoText x5_NoText "ValueError.__new__"))
    (xr_NoText : PySem.HandSPX.refsVE xm_NoText = true)
    (sa_NoText : PySem.W.findIn K (.ref c_NoText) "__setattr__" = some (some (.builtin "object.__setattr__")))
    (kp_NoText : PySem.W.keepIn K (.ref c_NoText) = true)
    (ga_NoText : PySem.W.findIn K (.ref c_NoText) "__getattribute__" = some (some (.builtin "BaseException.__getattribute__")))
    (gg_NoText : PySem.W.findIn K (.ref c_NoText) "__getattr__" = some none)
    (hd_NoText : PySem.W.hasDictIn K c_NoText = true)
    (ii_NoText : PySem.W.findIn K (.ref c_NoText) "__init__" = some (some (.ref i_NoText)))
    (it_NoText : PySem.W.typeIn K (.ref i_NoText) = some (.type "function"))
    (ss_NoText : PySem.W.subIn K (.ref c_NoText) (.ref c_NoText) = some true)
    (no_text_NoText : PySem.W.findIn K (.ref c_NoText) "text" = some none)
    (l_NoText_init : K.lookup i_NoText = some ⟨oc_NoText_init, od_NoText_init, .func (PySem.W.fnOf "__init__" "NoText.__init__" (defArgs s_NoText_init) (defBody s_NoText_init) (defScope s_NoText_init) .none kV_NoText_init dc_NoText_init pm_NoText_init an_NoText_init cd_NoText_init ct_NoText_init), sl_NoText_init⟩)
    (c_NoText_init : PySem.W.codeIn K cd_NoText_init "NoText.__init__" = true)
    (a_is_whole : PySem.W.nsIn K mainGlobals "is_whole" = some (some (.ref f_is_whole)))
    (l_is_whole : K.lookup f_is_whole = some ⟨oc_is_whole, od_is_whole, .func (PySem.W.fnOf "is_whole" "is_whole" (defArgs s_is_whole) (defBody s_is_whole) (defScope s_is_whole) .none kV_is_whole dc_is_whole pm_is_whole an_is_whole cd_is_whole ct_is_whole), sl_is_whole⟩)
    (c_is_whole : PySem.W.codeIn K cd_is_whole "is_whole" = true)
    (k_is_whole : PySem.W.keepIn K (.ref f_is_whole) = true)
    (a_is_moment : PySem.W.nsIn K mainGlobals "is_moment" = some (some (.ref f_is_moment)))
    (l_is_moment : K.lookup f_is_moment = some ⟨oc_is_moment, od_is_moment, .func (PySem.W.fnOf "is_moment" "is_moment" (defArgs s_is_moment) (defBody s_is_moment) (defScope s_is_moment) .none kV_is_moment dc_is_moment pm_is_moment an_is_moment cd_is_moment ct_is_moment), sl_is_moment⟩)
    (c_is_moment : PySem.W.codeIn K cd_is_moment "is_moment" = true)
    (k_is_moment : PySem.W.keepIn K (.ref f_is_moment) = true)
    (a_number_of : PySem.W.nsIn K mainGlobals "number_of" = some (some (.ref f_number_of)))
    (l_number_of : K.lookup f_number_of = some ⟨oc_number_of, od_number_of, .func (PySem.W.fnOf "number_of" "number_of" (defArgs s_number_of) (defBody s_number_of) (defScope s_number_of) .none kV_number_of dc_number_of pm_number_of an_number_of cd_number_of ct_number_of), sl_number_of⟩)
    (c_number_of : PySem.W.codeIn K cd_number_of "number_of" = true)
    (k_number_of : PySem.W.keepIn K (.ref f_number_of) = true)
    (a_show_moment : PySem.W.nsIn K mainGlobals "show_moment" = some (some (.ref f_show_moment)))
    (l_show_moment : K.lookup f_show_moment = some ⟨oc_show_moment, od_show_moment, .func (PySem.W.fnOf "show_moment" "show_moment" (defArgs s_show_moment) (defBody s_show_moment) (defScope s_show_moment) .none kV_show_moment dc_show_moment pm_show_moment an_show_moment cd_show_moment ct_show_moment), sl_show_moment⟩)
    (c_show_moment : PySem.W.codeIn K cd_show_moment "show_moment" = true)
    (k_show_moment : PySem.W.keepIn K (.ref f_show_moment) = true)
    (a_moment_of : PySem.W.nsIn K mainGlobals "moment_of" = some (some (.ref f_moment_of)))
    (l_moment_of : K.lookup f_moment_of = some ⟨oc_moment_of, od_moment_of, .func (PySem.W.fnOf "moment_of" "moment_of" (defArgs s_moment_of) (defBody s_moment_of) (defScope s_moment_of) .none kV_moment_of dc_moment_of pm_moment_of an_moment_of cd_moment_of ct_moment_of), sl_moment_of⟩)
    (c_moment_of : PySem.W.codeIn K cd_moment_of "moment_of" = true)
    (k_moment_of : PySem.W.keepIn K (.ref f_moment_of) = true)
    (a_is_name : PySem.W.nsIn K mainGlobals "is_name" = some (some (.ref f_is_name)))
    (l_is_name : K.lookup f_is_name = some ⟨oc_is_name, od_is_name, .func (PySem.W.fnOf "is_name" "is_name" (defArgs s_is_name) (defBody s_is_name) (defScope s_is_name) .none kV_is_name dc_is_name pm_is_name an_is_name cd_is_name ct_is_name), sl_is_name⟩)
    (c_is_name : PySem.W.codeIn K cd_is_name "is_name" = true)
    (k_is_name : PySem.W.keepIn K (.ref f_is_name) = true)
    (l_Card_init : K.lookup f_Card_init = some ⟨oc_Card_init, od_Card_init, .func (PySem.W.fnOf "__init__" "Card.__init__" (defArgs s_Card_init) (defBody s_Card_init) (defScope s_Card_init) (.ref Td_Card_init) kV_Card_init dc_Card_init pm_Card_init an_Card_init cd_Card_init ct_Card_init), sl_Card_init⟩)
    (c_Card_init : PySem.W.codeIn K cd_Card_init "Card.__init__" = true)
    (ld_Card_init : K.lookup Td_Card_init = some ⟨.type "tuple", do_Card_init, .seq di_Card_init dn_Card_init, ds_Card_init⟩)
    (vd_Card_init : Vals [.non, (.int 0)] di_Card_init.toList)
    (k_Card_init : PySem.W.keepIn K (.ref f_Card_init) = true)
    (l_Card_str : K.lookup f_Card_str = some ⟨oc_Card_str, od_Card_str, .func (PySem.W.fnOf "__str__" "Card.__str__" (defArgs s_Card_str) (defBody s_Card_str) (defScope s_Card_str) .none kV_Card_str dc_Card_str pm_Card_str an_Card_str cd_Card_str ct_Card_str), sl_Card_str⟩)
    (c_Card_str : PySem.W.codeIn K cd_Card_str "Card.__str__" = true)
    (a_sizes_of : PySem.W.nsIn K mainGlobals "sizes_of" = some (some (.ref f_sizes_of)))
    (l_sizes_of : K.lookup f_sizes_of = some ⟨oc_sizes_of, od_sizes_of, .func (PySem.W.fnOf "sizes_of" "sizes_of" (defArgs s_sizes_of) (defBody s_sizes_of) (defScope s_sizes_of) .none kV_sizes_of dc_sizes_of pm_sizes_of an_sizes_of cd_sizes_of ct_sizes_of), sl_sizes_of⟩)
    (c_sizes_of : PySem.W.codeIn K cd_sizes_of "sizes_of" = true)
    (k_sizes_of : PySem.W.keepIn K (.ref f_sizes_of) = true)
    (a_behind_word : PySem.W.nsIn K mainGlobals "behind_word" = some (some (.ref f_behind_word)))
    (l_behind_word : K.lookup f_behind_word = some ⟨oc_behind_word, od_behind_word, .func (PySem.W.fnOf "behind_word" "behind_word" (defArgs s_behind_word) (defBody s_behind_word) (defScope s_behind_word) .none kV_behind_word dc_behind_word pm_behind_word an_behind_word cd_behind_word ct_behind_word), sl_behind_word⟩)
    (c_behind_word : PySem.W.codeIn K cd_behind_word "behind_word" = true)
    (k_behind_word : PySem.W.keepIn K (.ref f_behind_word) = true)
    (a_card_of : PySem.W.nsIn K mainGlobals "card_of" = some (some (.ref f_card_of)))
    (l_card_of : K.lookup f_card_of = some ⟨oc_card_of, od_card_of, .func (PySem.W.fnOf "card_of" "card_of" (defArgs s_card_of) (defBody s_card_of) (defScope s_card_of) .none kV_card_of dc_card_of pm_card_of an_card_of cd_card_of ct_card_of), sl_card_of⟩)
    (c_card_of : PySem.W.codeIn K cd_card_of "card_of" = true)
    (k_card_of : PySem.W.keepIn K (.ref f_card_of) = true)
    (a_read_card : PySem.W.nsIn K mainGlobals "read_card" = some (some (.ref f_read_card)))
    (l_read_card : K.lookup f_read_card = some ⟨oc_read_card, od_read_card, .func (PySem.W.fnOf "read_card" "read_card" (defArgs s_read_card) (defBody s_read_card) (defScope s_read_card) .none kV_read_card dc_read_card pm_read_card an_read_card cd_read_card ct_read_card), sl_read_card⟩)
    (c_read_card : PySem.W.codeIn K cd_read_card "read_card" = true)
    (k_read_card : PySem.W.keepIn K (.ref f_read_card) = true)
    (a_law_begin : PySem.W.nsIn K mainGlobals "_law_begin" = some (some (.ref f_law_begin)))
    (l_law_begin : K.lookup f_law_begin = some ⟨oc_law_begin, od_law_begin, .func (PySem.W.fnOf "_law_begin" "_law_begin" (defArgs s_law_begin) (defBody s_law_begin) (defScope s_law_begin) .none kV_law_begin dc_law_begin pm_law_begin an_law_begin cd_law_begin ct_law_begin), sl_law_begin⟩)
    (c_law_begin : PySem.W.codeIn K cd_law_begin "_law_begin" = true)
    (k_law_begin : PySem.W.keepIn K (.ref f_law_begin) = true)
    (a_law_draw : PySem.W.nsIn K mainGlobals "_law_draw" = some (some (.ref f_law_draw)))
    (l_law_draw : K.lookup f_law_draw = some ⟨oc_law_draw, od_law_draw, .func (PySem.W.fnOf "_law_draw" "_law_draw" (defArgs s_law_draw) (defBody s_law_draw) (defScope s_law_draw) .none kV_law_draw dc_law_draw pm_law_draw an_law_draw cd_law_draw ct_law_draw), sl_law_draw⟩)
    (c_law_draw : PySem.W.codeIn K cd_law_draw "_law_draw" = true)
    (k_law_draw : PySem.W.keepIn K (.ref f_law_draw) = true)
    (a_law_moment : PySem.W.nsIn K mainGlobals "_law_moment" = some (some (.ref f_law_moment)))
    (l_law_moment : K.lookup f_law_moment = some ⟨oc_law_moment, od_law_moment, .func (PySem.W.fnOf "_law_moment" "_law_moment" (defArgs s_law_moment) (defBody s_law_moment) (defScope s_law_moment) .none kV_law_moment dc_law_moment pm_law_moment an_law_moment cd_law_moment ct_law_moment), sl_law_moment⟩)
    (c_law_moment : PySem.W.codeIn K cd_law_moment "_law_moment" = true)
    (k_law_moment : PySem.W.keepIn K (.ref f_law_moment) = true)
    (a_law_when : PySem.W.nsIn K mainGlobals "_law_when" = some (some (.ref f_law_when)))
    (l_law_when : K.lookup f_law_when = some ⟨oc_law_when, od_law_when, .func (PySem.W.fnOf "_law_when" "_law_when" (defArgs s_law_when) (defBody s_law_when) (defScope s_law_when) .none kV_law_when dc_law_when pm_law_when an_law_when cd_law_when ct_law_when), sl_law_when⟩)
    (c_law_when : PySem.W.codeIn K cd_law_when "_law_when" = true)
    (k_law_when : PySem.W.keepIn K (.ref f_law_when) = true)
    (a_law_name : PySem.W.nsIn K mainGlobals "_law_name" = some (some (.ref f_law_name)))
    (l_law_name : K.lookup f_law_name = some ⟨oc_law_name, od_law_name, .func (PySem.W.fnOf "_law_name" "_law_name" (defArgs s_law_name) (defBody s_law_name) (defScope s_law_name) .none kV_law_name dc_law_name pm_law_name an_law_name cd_law_name ct_law_name), sl_law_name⟩)
    (c_law_name : PySem.W.codeIn K cd_law_name "_law_name" = true)
    (k_law_name : PySem.W.keepIn K (.ref f_law_name) = true)
    (a_law_card : PySem.W.nsIn K mainGlobals "_law_card" = some (some (.ref f_law_card)))
    (l_law_card : K.lookup f_law_card = some ⟨oc_law_card, od_law_card, .func (PySem.W.fnOf "_law_card" "_law_card" (defArgs s_law_card) (defBody s_law_card) (defScope s_law_card) .none kV_law_card dc_law_card pm_law_card an_law_card cd_law_card ct_law_card), sl_law_card⟩)
    (c_law_card : PySem.W.codeIn K cd_law_card "_law_card" = true)
    (k_law_card : PySem.W.keepIn K (.ref f_law_card) = true)
    (a_law_card_text : PySem.W.nsIn K mainGlobals "_law_card_text" = some (some (.ref f_law_card_text)))
    (l_law_card_text : K.lookup f_law_card_text = some ⟨oc_law_card_text, od_law_card_text, .func (PySem.W.fnOf "_law_card_text" "_law_card_text" (defArgs s_law_card_text) (defBody s_law_card_text) (defScope s_law_card_text) .none kV_law_card_text dc_law_card_text pm_law_card_text an_law_card_text cd_law_card_text ct_law_card_text), sl_law_card_text⟩)
    (c_law_card_text : PySem.W.codeIn K cd_law_card_text "_law_card_text" = true)
    (k_law_card_text : PySem.W.keepIn K (.ref f_law_card_text) = true)
    (a_law_odd : PySem.W.nsIn K mainGlobals "_law_odd" = some (some (.ref f_law_odd)))
    (l_law_odd : K.lookup f_law_odd = some ⟨oc_law_odd, od_law_odd, .func (PySem.W.fnOf "_law_odd" "_law_odd" (defArgs s_law_odd) (defBody s_law_odd) (defScope s_law_odd) .none kV_law_odd dc_law_odd pm_law_odd an_law_odd cd_law_odd ct_law_odd), sl_law_odd⟩)
    (c_law_odd : PySem.W.codeIn K cd_law_odd "_law_odd" = true)
    (k_law_odd : PySem.W.keepIn K (.ref f_law_odd) = true)
    (a_law_bent : PySem.W.nsIn K mainGlobals "_law_bent" = some (some (.ref f_law_bent)))
    (l_law_bent : K.lookup f_law_bent = some ⟨oc_law_bent, od_law_bent, .func (PySem.W.fnOf "_law_bent" "_law_bent" (defArgs s_law_bent) (defBody s_law_bent) (defScope s_law_bent) .none kV_law_bent dc_law_bent pm_law_bent an_law_bent cd_law_bent ct_law_bent), sl_law_bent⟩)
    (c_law_bent : PySem.W.codeIn K cd_law_bent "_law_bent" = true)
    (k_law_bent : PySem.W.keepIn K (.ref f_law_bent) = true)
    (a_law_number : PySem.W.nsIn K mainGlobals "_law_number" = some (some (.ref f_law_number)))
    (l_law_number : K.lookup f_law_number = some ⟨oc_law_number, od_law_number, .func (PySem.W.fnOf "_law_number" "_law_number" (defArgs s_law_number) (defBody s_law_number) (defScope s_law_number) .none kV_law_number dc_law_number pm_law_number an_law_number cd_law_number ct_law_number), sl_law_number⟩)
    (c_law_number : PySem.W.codeIn K cd_law_number "_law_number" = true)
    (k_law_number : PySem.W.keepIn K (.ref f_law_number) = true)
    (a_law_moment_of : PySem.W.nsIn K mainGlobals "_law_moment_of" = some (some (.ref f_law_moment_of)))
    (l_law_moment_of : K.lookup f_law_moment_of = some ⟨oc_law_moment_of, od_law_moment_of, .func (PySem.W.fnOf "_law_moment_of" "_law_moment_of" (defArgs s_law_moment_of) (defBody s_law_moment_of) (defScope s_law_moment_of) .none kV_law_moment_of dc_law_moment_of pm_law_moment_of an_law_moment_of cd_law_moment_of ct_law_moment_of), sl_law_moment_of⟩)
    (c_law_moment_of : PySem.W.codeIn K cd_law_moment_of "_law_moment_of" = true)
    (k_law_moment_of : PySem.W.keepIn K (.ref f_law_moment_of) = true)
    (a_law_is_name : PySem.W.nsIn K mainGlobals "_law_is_name" = some (some (.ref f_law_is_name)))
    (l_law_is_name : K.lookup f_law_is_name = some ⟨oc_law_is_name, od_law_is_name, .func (PySem.W.fnOf "_law_is_name" "_law_is_name" (defArgs s_law_is_name) (defBody s_law_is_name) (defScope s_law_is_name) .none kV_law_is_name dc_law_is_name pm_law_is_name an_law_is_name cd_law_is_name ct_law_is_name), sl_law_is_name⟩)
    (c_law_is_name : PySem.W.codeIn K cd_law_is_name "_law_is_name" = true)
    (k_law_is_name : PySem.W.keepIn K (.ref f_law_is_name) = true)
    (a_law_due : PySem.W.nsIn K mainGlobals "_law_due" = some (some (.ref f_law_due)))
    (l_law_due : K.lookup f_law_due = some ⟨oc_law_due, od_law_due, .func (PySem.W.fnOf "_law_due" "_law_due" (defArgs s_law_due) (defBody s_law_due) (defScope s_law_due) .none kV_law_due dc_law_due pm_law_due an_law_due cd_law_due ct_law_due), sl_law_due⟩)
    (c_law_due : PySem.W.codeIn K cd_law_due "_law_due" = true)
    (k_law_due : PySem.W.keepIn K (.ref f_law_due) = true)
    (a_law_read : PySem.W.nsIn K mainGlobals "_law_read" = some (some (.ref f_law_read)))
    (l_law_read : K.lookup f_law_read = some ⟨oc_law_read, od_law_read, .func (PySem.W.fnOf "_law_read" "_law_read" (defArgs s_law_read) (defBody s_law_read) (defScope s_law_read) .none kV_law_read dc_law_read pm_law_read an_law_read cd_law_read ct_law_read), sl_law_read⟩)
    (c_law_read : PySem.W.codeIn K cd_law_read "_law_read" = true)
    (k_law_read : PySem.W.keepIn K (.ref f_law_read) = true)
    (a_law : PySem.W.nsIn K mainGlobals "law" = some (some (.ref f_law)))
    (l_law : K.lookup f_law = some ⟨oc_law, od_law, .func (PySem.W.fnOf "law" "law" (defArgs s_law) (defBody s_law) (defScope s_law) .none kV_law dc_law pm_law an_law cd_law ct_law), sl_law⟩)
    (c_law : PySem.W.codeIn K cd_law "law" = true)
    (k_law : PySem.W.keepIn K (.ref f_law) = true)
    (v_q_MOMENTS : PySem.W.nsIn K mainGlobals "MOMENTS" = some (some (.int (9600) t_q_MOMENTS)))
    (v_q_HOURS : PySem.W.nsIn K mainGlobals "HOURS" = some (some (.int (24) t_q_HOURS)))
    (v_q_FIGURES : PySem.W.nsIn K mainGlobals "FIGURES" = some (some (.str "0123456789" t_q_FIGURES)))
    (v_q_LETTERS : PySem.W.nsIn K mainGlobals "LETTERS" = some (some (.str "abcdefghijklmnopqrstuvwxyz" t_q_LETTERS)))
    (v_q_LONGEST : PySem.W.nsIn K mainGlobals "LONGEST" = some (some (.int (8) t_q_LONGEST)))
    (v_q_WORDS : PySem.W.nsIn K mainGlobals "WORDS" = some (some (.ref A_q_WORDS)))
    (w_q_WORDS : K.lookup A_q_WORDS = some ⟨.type "tuple", o_q_WORDS, .seq its_q_WORDS n_q_WORDS, s_q_WORDS⟩)
    (z_q_WORDS : its_q_WORDS.size ≤ sizeLine)
    (y_q_WORDS : Vals [(.str "pin"), (.str "again"), (.str "move"), (.str "take"), (.str "tear"), (.str "at"), (.str "to"), (.str "until"), (.str "strips"), (.str "known")] its_q_WORDS.toList)
    (v_q_MOST_SIDE : PySem.W.nsIn K mainGlobals "MOST_SIDE" = some (some (.int (9) t_q_MOST_SIDE)))
    (v_q_MOST_STRIPS : PySem.W.nsIn K mainGlobals "MOST_STRIPS" = some (some (.int (99) t_q_MOST_STRIPS)))
    (b_ValueError : PySem.W.nsIn K mainGlobals "ValueError" = some none)
    (b_abs : PySem.W.nsIn K mainGlobals "abs" = some none)
    (b_all : PySem.W.nsIn K mainGlobals "all" = some none)
    (b_bool : PySem.W.nsIn K mainGlobals "bool" = some none)
    (b_int : PySem.W.nsIn K mainGlobals "int" = some none)
    (b_isinstance : PySem.W.nsIn K mainGlobals "isinstance" = some none)
    (b_len : PySem.W.nsIn K mainGlobals "len" = some none)
    (b_range : PySem.W.nsIn K mainGlobals "range" = some none)
    (b_repr : PySem.W.nsIn K mainGlobals "repr" = some none)
    (b_str : PySem.W.nsIn K mainGlobals "str" = some none)
    (b_zip : PySem.W.nsIn K mainGlobals "zip" = some none) :
    ∃ fd : FuncData, (∀ (s : Shared) (u : Value), BindsTo s fd ⟨[u], []⟩ [("_law_script", u)]) ∧ ∀ base : Heap, K.In base → base.Ns mainGlobals mg → Sm base → FnT l.prog w ⟨K, mg, none⟩ base true 8 fa fd ["_law_script"] m_law := by
  have e := hfa.symm.trans (PySem.W.mg_of X G0 a_law)
  cases e
  have Cl_Card : Cls K c_Card := ⟨pg_Card, hd_Card, po_Card, sa_Card⟩
  have Mk_Card : Mk K c_Card f_Card_init := ⟨mk_Card, fi_Card_init, isf_Card_init, kp_Card⟩
  have BB_CardError : XbK K mg "CardError" c_CardError := ⟨PySem.W.mg_of X G0 a_CardError, sp_CardError, ty_CardError, rd_CardError, fi_CardError⟩
  have XX_NoText : XcK K mg "NoText" c_NoText i_NoText ["text"] := ⟨PySem.W.mg_of X G0 a_NoText, oexC_mk xl_NoText xr_NoText sa_NoText ex_NoText ty_NoText kp_NoText, ⟨ga_NoText, gg_NoText, ex_NoText, hd_NoText⟩, ii_NoText, it_NoText, (List.forall_mem_cons.mpr ⟨no_text_NoText, nofun⟩), exm_of ex_NoText is_NoText ty_NoText ss_NoText⟩
  have FX_NoText := df_mk (st := s_NoText_init) l_NoText_init c_NoText_init
  have T : Tx ⟨K, mg, none⟩ w := ⟨rfl, kx_of (List.forall_mem_cons.mpr ⟨⟨c_NoText, PySem.W.mg_of X G0 a_NoText, ⟨ga_NoText, gg_NoText, ex_NoText, hd_NoText⟩, List.forall_mem_cons.mpr ⟨no_text_NoText, nofun⟩⟩, nofun⟩), hd_of (PySem.W.mg_of X G0 a_NoText) (List.forall_mem_cons.mpr ⟨⟨c_NoText, PySem.W.mg_of X G0 a_NoText, exm_of ex_NoText is_NoText ty_NoText ss_NoText⟩, nofun⟩), gc_int (PySem.W.mg_of X G0 v_q_MOMENTS), gc_int (PySem.W.mg_of X G0 v_q_HOURS), gc_str (PySem.W.mg_of X G0 v_q_FIGURES), gc_str (PySem.W.mg_of X G0 v_q_LETTERS), gc_int (PySem.W.mg_of X G0 v_q_LONGEST), gc_tup (PySem.W.mg_of X G0 v_q_WORDS) (kt_mk w_q_WORDS z_q_WORDS y_q_WORDS) fun _ _ => (.cons (.str _) (.cons (.str _) (.cons (.str _) (.cons (.str _) (.cons (.str _) (.cons (.str _) (.cons (.str _) (.cons (.str _) (.cons (.str _) (.cons (.str _) .nil)))))))))), gc_int (PySem.W.mg_of X G0 v_q_MOST_SIDE), gc_int (PySem.W.mg_of X G0 v_q_MOST_STRIPS), PySem.W.mg_none_of X G0 b_ValueError, PySem.W.mg_none_of X G0 b_abs, PySem.W.mg_none_of X G0 b_all, PySem.W.mg_none_of X G0 b_bool, PySem.W.mg_none_of X G0 b_int, PySem.W.mg_none_of X G0 b_isinstance, PySem.W.mg_none_of X G0 b_len, PySem.W.mg_none_of X G0 b_range, PySem.W.mg_none_of X G0 b_repr, PySem.W.mg_none_of X G0 b_str, PySem.W.mg_none_of X G0 b_zip, kc_of (List.forall_mem_cons.mpr ⟨⟨c_Card, PySem.W.mg_of X G0 a_Card, Cl_Card, List.forall_mem_cons.mpr ⟨no_Card_name, List.forall_mem_cons.mpr ⟨no_Card_wide, List.forall_mem_cons.mpr ⟨no_Card_high, List.forall_mem_cons.mpr ⟨no_Card_until, List.forall_mem_cons.mpr ⟨no_Card_strips, nofun⟩⟩⟩⟩⟩⟩, nofun⟩), is_of (List.forall_mem_cons.mpr ⟨⟨c_Card, PySem.W.mg_of X G0 a_Card, Cl_Card, cl_Card, xg, xt, ob_Card, List.forall_mem_cons.mpr ⟨kit_up ob_Card ty_Card up_Card_NoneType (by simp), List.forall_mem_cons.mpr ⟨kit_up ob_Card ty_Card up_Card_bool (by simp), List.forall_mem_cons.mpr ⟨kit_up ob_Card ty_Card up_Card_int (by simp), List.forall_mem_cons.mpr ⟨kit_up ob_Card ty_Card up_Card_str (by simp), List.forall_mem_cons.mpr ⟨kit_up ob_Card ty_Card up_Card_tuple (by simp), List.forall_mem_cons.mpr ⟨kit_up ob_Card ty_Card up_Card_list (by simp), List.forall_mem_cons.mpr ⟨kit_up ob_Card ty_Card up_Card_dict (by simp), nofun⟩⟩⟩⟩⟩⟩⟩, List.forall_mem_cons.mpr ⟨kit_dn (by decide +kernel) dn_Card_str, List.forall_mem_cons.mpr ⟨kit_dn (by decide +kernel) dn_Card_int, List.forall_mem_cons.mpr ⟨kit_dn (by decide +kernel) dn_Card_bool, List.forall_mem_cons.mpr ⟨kit_dn (by decide +kernel) dn_Card_tuple, List.forall_mem_cons.mpr ⟨kit_dn (by decide +kernel) dn_Card_list, List.forall_mem_cons.mpr ⟨kit_dn (by decide +kernel) dn_Card_dict, nofun⟩⟩⟩⟩⟩⟩⟩, nofun⟩) (List.forall_mem_cons.mpr ⟨List.forall_mem_cons.mpr ⟨(fun C C' e1 e2 => by have z1 := e1.symm.trans (PySem.W.mg_of X G0 a_Card); have z2 := e2.symm.trans (PySem.W.mg_of X G0 a_Card); cases z1; cases z2; exact kit_same), nofun⟩, nofun⟩), gc_cls (PySem.W.mg_of X G0 a_Card)⟩
  have F_is_whole := df_mk (st := s_is_whole) l_is_whole c_is_whole
  have F_is_moment := df_mk (st := s_is_moment) l_is_moment c_is_moment
  have F_number_of := df_mk (st := s_number_of) l_number_of c_number_of
  have F_show_moment := df_mk (st := s_show_moment) l_show_moment c_show_moment
  have F_moment_of := df_mk (st := s_moment_of) l_moment_of c_moment_of
  have F_is_name := df_mk (st := s_is_name) l_is_name c_is_name
  have F_Card_init := df_mk (st := s_Card_init) l_Card_init c_Card_init
  have F_Card_str := df_mk (st := s_Card_str) l_Card_str c_Card_str
  have F_sizes_of := df_mk (st := s_sizes_of) l_sizes_of c_sizes_of
  have F_behind_word := df_mk (st := s_behind_word) l_behind_word c_behind_word
  have F_card_of := df_mk (st := s_card_of) l_card_of c_card_of
  have F_read_card := df_mk (st := s_read_card) l_read_card c_read_card
  have F_law_begin := df_mk (st := s_law_begin) l_law_begin c_law_begin
  have F_law_draw := df_mk (st := s_law_draw) l_law_draw c_law_draw
  have F_law_moment := df_mk (st := s_law_moment) l_law_moment c_law_moment
  have F_law_when := df_mk (st := s_law_when) l_law_when c_law_when
  have F_law_name := df_mk (st := s_law_name) l_law_name c_law_name
  have F_law_card := df_mk (st := s_law_card) l_law_card c_law_card
  have F_law_card_text := df_mk (st := s_law_card_text) l_law_card_text c_law_card_text
  have F_law_odd := df_mk (st := s_law_odd) l_law_odd c_law_odd
  have F_law_bent := df_mk (st := s_law_bent) l_law_bent c_law_bent
  have F_law_number := df_mk (st := s_law_number) l_law_number c_law_number
  have F_law_moment_of := df_mk (st := s_law_moment_of) l_law_moment_of c_law_moment_of
  have F_law_is_name := df_mk (st := s_law_is_name) l_law_is_name c_law_is_name
  have F_law_due := df_mk (st := s_law_due) l_law_due c_law_due
  have F_law_read := df_mk (st := s_law_read) l_law_read c_law_read
  have F_law := df_mk (st := s_law) l_law c_law
  refine ⟨PySem.W.fnOf "law" "law" (defArgs s_law) (defBody s_law) (defScope s_law) .none kV_law dc_law pm_law an_law cd_law ct_law, fun s u => .of_eq rfl, fun base kin hns M => ?_⟩
  have P_is_whole := fn_is_whole (P := l.prog) (w := w) (base := base) T F_is_whole
  have K_is_whole : KnT l.prog w ⟨K, mg, none⟩ base false "is_whole" 1 3 [] (fun ds _ => ds) m_is_whole := kn_pos P_is_whole (PySem.W.mg_of X G0 a_is_whole) k_is_whole (fun us hl => match us, hl with | [_, _, _], _ => rfl)
  have P_is_moment := fn_is_moment (P := l.prog) (w := w) (base := base) T F_is_moment K_is_whole
  have P_number_of := fn_number_of (P := l.prog) (w := w) (base := base) T F_number_of
  have P_show_moment := fn_show_moment (P := l.prog) (w := w) (base := base) T F_show_moment
  have K_number_of : KnT l.prog w ⟨K, mg, none⟩ base false "number_of" 1 3 [] (fun ds _ => ds) m_number_of := kn_pos P_number_of (PySem.W.mg_of X G0 a_number_of) k_number_of (fun us hl => match us, hl with | [_, _, _], _ => rfl)
  have P_moment_of := fn_moment_of (P := l.prog) (w := w) (base := base) T F_moment_of K_number_of
  have P_is_name := fn_is_name (P := l.prog) (w := w) (base := base) T F_is_name
  have K_is_name : KnT l.prog w ⟨K, mg, none⟩ base false "is_name" 1 1 [] (fun ds _ => ds) m_is_name := kn_pos P_is_name (PySem.W.mg_of X G0 a_is_name) k_is_name (fun us hl => match us, hl with | [_], _ => rfl)
  have K_is_moment : KnT l.prog w ⟨K, mg, none⟩ base false "is_moment" 2 1 [] (fun ds _ => ds) m_is_moment := kn_pos P_is_moment (PySem.W.mg_of X G0 a_is_moment) k_is_moment (fun us hl => match us, hl with | [_], _ => rfl)
  have P_Card_init := fn_Card_init (P := l.prog) (w := w) (base := base) T F_Card_init K_is_name K_is_whole K_is_moment
  have K_show_moment : KnT l.prog w ⟨K, mg, none⟩ base false "show_moment" 1 1 [] (fun ds _ => ds) m_show_moment := kn_pos P_show_moment (PySem.W.mg_of X G0 a_show_moment) k_show_moment (fun us hl => match us, hl with | [_], _ => rfl)
  have P_Card_str := fn_Card_str (P := l.prog) (w := w) (base := base) T F_Card_str K_show_moment
  have P_sizes_of := fn_sizes_of (P := l.prog) (w := w) (base := base) T F_sizes_of K_number_of
  have P_behind_word := fn_behind_word (P := l.prog) (w := w) (base := base) T F_behind_word
  have K_sizes_of : KnT l.prog w ⟨K, mg, none⟩ base false "sizes_of" 2 4 [] (fun ds _ => ds) m_sizes_of := kn_pos P_sizes_of (PySem.W.mg_of X G0 a_sizes_of) k_sizes_of (fun us hl => match us, hl with | [_, _, _, _], _ => rfl)
  have K_behind_word : KnT l.prog w ⟨K, mg, none⟩ base false "behind_word" 1 2 [] (fun ds _ => ds) m_behind_word := kn_pos P_behind_word (PySem.W.mg_of X G0 a_behind_word) k_behind_word (fun us hl => match us, hl with | [_, _], _ => rfl)
  have K_moment_of : KnT l.prog w ⟨K, mg, none⟩ base false "moment_of" 2 1 [] (fun ds _ => ds) m_moment_of := kn_pos P_moment_of (PySem.W.mg_of X G0 a_moment_of) k_moment_of (fun us hl => match us, hl with | [_], _ => rfl)
  have K_Card_init : MkT l.prog w ⟨K, mg, none⟩ base "Card" 3 5 [] g_Card_init_all m_Card_init := mk_dfl (dds := [.non, (.int 0)]) [(0, 0), (0, 1), (0, 2), (0, 3), (0, 4)] Mk_Card (PySem.W.mg_of X G0 a_Card) P_Card_init ⟨⟨_, _, _, _, _, _, _, _, _, _, rfl, l_Card_init, c_Card_init, .inr ⟨by decide, Td_Card_init, _, _, _, rfl, ld_Card_init, rfl, vd_Card_init⟩, .inl rfl⟩, k_Card_init⟩ (by decide) (fun _ _ _ => (.cons .non (.cons (.int _) .nil))) (fun vs zs h1 h2 => match vs, zs, h1, h2 with | [_, _, _, _, _], [], _, _ => rfl) (fun T kV doc pm an cdv ct us its ws h1 h2 h3 => match us, its, ws, h1, h2, h3 with | [_, _, _, _, _, _], [_, _], [], _, _, _ => ⟨_, rfl, rfl⟩)
  have P_card_of := fn_card_of (P := l.prog) (w := w) (base := base) T F_card_of K_is_name K_sizes_of K_behind_word K_moment_of K_number_of K_Card_init
  have K_card_of : KnT l.prog w ⟨K, mg, none⟩ base false "card_of" 5 1 [] (fun ds _ => ds) m_card_of := kn_pos P_card_of (PySem.W.mg_of X G0 a_card_of) k_card_of (fun us hl => match us, hl with | [_], _ => rfl)
  have K_exc_NoText : XnT l.prog w ⟨K, mg, none⟩ base "NoText" 1 ["text"] := ⟨⟨c_NoText, i_NoText, _, _, XX_NoText, xi_NoText BB_CardError XX_NoText FX_NoText, Binds.all (fun us hl => match us, hl with | [_, _], _ => rfl)⟩⟩
  have P_read_card := fn_read_card (P := l.prog) (w := w) (base := base) T F_read_card K_card_of K_exc_NoText
  have P_law_begin := fn_law_begin (P := l.prog) (w := w) (base := base) T F_law_begin
  have P_law_draw := fn_law_draw (P := l.prog) (w := w) (base := base) T F_law_draw
  have K_law_draw : KnT l.prog w ⟨K, mg, none⟩ base false "_law_draw" 1 2 [] (fun ds _ => ds) m_law_draw := kn_pos P_law_draw (PySem.W.mg_of X G0 a_law_draw) k_law_draw (fun us hl => match us, hl with | [_, _], _ => rfl)
  have P_law_moment := fn_law_moment (P := l.prog) (w := w) (base := base) T F_law_moment K_law_draw
  have P_law_when := fn_law_when (P := l.prog) (w := w) (base := base) T F_law_when
  have P_law_name := fn_law_name (P := l.prog) (w := w) (base := base) T F_law_name K_law_draw
  have K_law_moment : KnT l.prog w ⟨K, mg, none⟩ base false "_law_moment" 2 1 [] (fun ds _ => ds) m_law_moment := kn_pos P_law_moment (PySem.W.mg_of X G0 a_law_moment) k_law_moment (fun us hl => match us, hl with | [_], _ => rfl)
  have K_law_name : KnT l.prog w ⟨K, mg, none⟩ base false "_law_name" 2 1 [] (fun ds _ => ds) m_law_name := kn_pos P_law_name (PySem.W.mg_of X G0 a_law_name) k_law_name (fun us hl => match us, hl with | [_], _ => rfl)
  have P_law_card := fn_law_card (P := l.prog) (w := w) (base := base) T F_law_card K_law_moment K_law_draw K_law_name
  have K_law_when : KnT l.prog w ⟨K, mg, none⟩ base false "_law_when" 1 1 [] (fun ds _ => ds) m_law_when := kn_pos P_law_when (PySem.W.mg_of X G0 a_law_when) k_law_when (fun us hl => match us, hl with | [_], _ => rfl)
  have P_law_card_text := fn_law_card_text (P := l.prog) (w := w) (base := base) T F_law_card_text K_law_when
  have P_law_odd := fn_law_odd (P := l.prog) (w := w) (base := base) T F_law_odd K_law_draw
  have P_law_bent := fn_law_bent (P := l.prog) (w := w) (base := base) T F_law_bent K_law_draw
  have P_law_number := fn_law_number (P := l.prog) (w := w) (base := base) T F_law_number
  have K_law_number : KnT l.prog w ⟨K, mg, none⟩ base false "_law_number" 1 3 [] (fun ds _ => ds) m_law_number := kn_pos P_law_number (PySem.W.mg_of X G0 a_law_number) k_law_number (fun us hl => match us, hl with | [_, _, _], _ => rfl)
  have P_law_moment_of := fn_law_moment_of (P := l.prog) (w := w) (base := base) T F_law_moment_of K_law_number
  have P_law_is_name := fn_law_is_name (P := l.prog) (w := w) (base := base) T F_law_is_name
  have K_law_is_name : KnT l.prog w ⟨K, mg, none⟩ base false "_law_is_name" 1 1 [] (fun ds _ => ds) m_law_is_name := kn_pos P_law_is_name (PySem.W.mg_of X G0 a_law_is_name) k_law_is_name (fun us hl => match us, hl with | [_], _ => rfl)
  have K_law_moment_of : KnT l.prog w ⟨K, mg, none⟩ base false "_law_moment_of" 2 1 [] (fun ds _ => ds) m_law_moment_of := kn_pos P_law_moment_of (PySem.W.mg_of X G0 a_law_moment_of) k_law_moment_of (fun us hl => match us, hl with | [_], _ => rfl)
  have P_law_due := fn_law_due (P := l.prog) (w := w) (base := base) T F_law_due K_law_is_name K_law_number K_law_moment_of
  have K_read_card : KnT l.prog w ⟨K, mg, none⟩ base false "read_card" 6 1 [] (fun ds _ => ds) m_read_card := kn_pos P_read_card (PySem.W.mg_of X G0 a_read_card) k_read_card (fun us hl => match us, hl with | [_], _ => rfl)
  have K_str_Card : SpF l.prog w ⟨K, mg, none⟩ base false 2 "__str__" [("Card", m_Card_str)] := sp_of (List.forall_mem_cons.mpr ⟨⟨c_Card, f_Card_str, _, ["self"], PySem.W.mg_of X G0 a_Card, fi_Card_str, isf_Card_str, (P_Card_str.mono (by decide)), rfl, binds_pos (fun us hl => match us, hl with | [_], _ => rfl)⟩, nofun⟩)
  have P_law_read := fn_law_read (P := l.prog) (w := w) (base := base) T F_law_read M K_read_card K_str_Card
  have K_law_begin : KnT l.prog w ⟨K, mg, none⟩ base false "_law_begin" 1 2 [] (fun ds _ => ds) m_law_begin := kn_pos P_law_begin (PySem.W.mg_of X G0 a_law_begin) k_law_begin (fun us hl => match us, hl with | [_, _], _ => rfl)
  have K_law_card : KnT l.prog w ⟨K, mg, none⟩ base false "_law_card" 3 1 [] (fun ds _ => ds) m_law_card := kn_pos P_law_card (PySem.W.mg_of X G0 a_law_card) k_law_card (fun us hl => match us, hl with | [_], _ => rfl)
  have K_law_card_text : KnT l.prog w ⟨K, mg, none⟩ base false "_law_card_text" 2 1 [] (fun ds _ => ds) m_law_card_text := kn_pos P_law_card_text (PySem.W.mg_of X G0 a_law_card_text) k_law_card_text (fun us hl => match us, hl with | [_], _ => rfl)
  have K_law_read : KnT l.prog w ⟨K, mg, none⟩ base true "_law_read" 7 1 [] (fun ds _ => ds) m_law_read := kn_pos P_law_read (PySem.W.mg_of X G0 a_law_read) k_law_read (fun us hl => match us, hl with | [_], _ => rfl)
  have K_law_bent : KnT l.prog w ⟨K, mg, none⟩ base false "_law_bent" 2 2 [] (fun ds _ => ds) m_law_bent := kn_pos P_law_bent (PySem.W.mg_of X G0 a_law_bent) k_law_bent (fun us hl => match us, hl with | [_, _], _ => rfl)
  have K_law_odd : KnT l.prog w ⟨K, mg, none⟩ base false "_law_odd" 2 2 [] (fun ds _ => ds) m_law_odd := kn_pos P_law_odd (PySem.W.mg_of X G0 a_law_odd) k_law_odd (fun us hl => match us, hl with | [_, _], _ => rfl)
  have K_law_due : KnT l.prog w ⟨K, mg, none⟩ base false "_law_due" 3 1 [] (fun ds _ => ds) m_law_due := kn_pos P_law_due (PySem.W.mg_of X G0 a_law_due) k_law_due (fun us hl => match us, hl with | [_], _ => rfl)
  have P_law := fn_law (P := l.prog) (w := w) (base := base) T F_law M K_law_begin K_law_card K_law_card_text K_law_read K_law_bent K_law_draw K_law_odd K_law_due
  exact P_law
end F05
open PySem PySem.W PyProof.Rows L2 L2.Pc L2.Tr in
set_option maxRecDepth 100000 in
set_option maxHeartbeats 0 in
set_option pp.maxSteps 60 in
theorem PySem.Challenge.cw_pinnedcards_k05_cards_read_holds : PySem.Challenge.rw_pinnedcards_k05_cards_read.Holds := by
  w_on; o_law; k_head; (case hw => w_witness2)
  k_fill
  refine walkT (n := 63) (k := 8) (gb := true) (x := "_law_script") (m := F05.m_law) rfl (by decide) (by decide +kernel) rfl ⟨rfl, by decide, by decide⟩ (fun w h Y => PySem.W.kIn_of Y) ?F F05.law_true
  case F =>
    intro w mg fa h KX G hmg
    refine' F05.all_mk KX G hmg ?xg ?xt ?a_Card ?pg_Card ?hd_Card ?po_Card ?sa_Card ?mk_Card ?kp_Card ?cl_Card ?ob_Card ?ne_Card ?no_Card_name ?no_Card_wide ?no_Card_high ?no_Card_until ?no_Card_strips ?ty_Card ?ss_Card ?up_Card_NoneType ?dn_Card_NoneType ?up_Card_bool ?dn_Card_bool ?up_Card_int ?dn_Card_int ?up_Card_str ?dn_Card_str ?up_Card_tuple ?dn_Card_tuple ?up_Card_list ?dn_Card_list ?up_Card_dict ?dn_Card_dict ?fi_Card_init ?isf_Card_init ?fi_Card_str ?isf_Card_str ?kf_Card_str ?a_CardError ?ty_CardError ?ex_CardError ?is_CardError ?sp_CardError ?rd_CardError ?fi_CardError ?a_NoText ?ty_NoText ?ex_NoText ?is_NoText ?xl_NoText ?xr_NoText ?sa_NoText ?kp_NoText ?ga_NoText ?gg_NoText ?hd_NoText ?ii_NoText ?it_NoText ?ss_NoText ?no_text_NoText ?l_NoText_init ?c_NoText_init ?a_is_whole ?l_is_whole ?c_is_whole ?k_is_whole ?a_is_moment ?l_is_moment ?c_is_moment ?k_is_moment ?a_number_of ?l_number_of ?c_number_of ?k_number_of ?a_show_moment ?l_show_moment ?c_show_moment ?k_show_moment ?a_moment_of ?l_moment_of ?c_moment_of ?k_moment_of ?a_is_name ?l_is_name ?c_is_name ?k_is_name ?l_Card_init ?c_Card_init ?ld_Card_init ?vd_Card_init ?k_Card_init ?l_Card_str ?c_Card_str ?a_sizes_of ?l_sizes_of ?c_sizes_of ?k_sizes_of ?a_behind_word ?l_behind_word ?c_behind_word ?k_behind_word ?a_card_of ?l_card_of ?c_card_of ?k_card_of ?a_read_card ?l_read_card ?c_read_card ?k_read_card ?a_law_begin ?l_law_begin ?c_law_begin ?k_law_begin ?a_law_draw ?l_law_draw ?c_law_draw ?k_law_draw ?a_law_moment ?l_law_moment ?c_law_moment ?k_law_moment ?a_law_when ?l_law_when ?c_law_when ?k_law_when ?a_law_name ?l_law_name ?c_law_name ?k_law_name ?a_law_card ?l_law_card ?c_law_card ?k_law_card ?a_law_card_text ?l_law_card_text ?c_law_card_text ?k_law_card_text ?a_law_odd ?l_law_odd ?c_law_odd ?k_law_odd ?a_law_bent ?l_law_bent ?c_law_bent ?k_law_bent ?a_law_number ?l_law_number ?c_law_number ?k_law_number ?a_law_moment_of ?l_law_moment_of ?c_law_moment_of ?k_law_moment_of ?a_law_is_name ?l_law_is_name ?c_law_is_name ?k_law_is_name ?a_law_due ?l_law_due ?c_law_due ?k_law_due ?a_law_read ?l_law_read ?c_law_read ?k_law_read ?a_law ?l_law ?c_law ?k_law ?v_q_MOMENTS ?v_q_HOURS ?v_q_FIGURES ?v_q_LETTERS ?v_q_LONGEST ?v_q_WORDS ?w_q_WORDS ?z_q_WORDS ?y_q_WORDS ?v_q_MOST_SIDE ?v_q_MOST_STRIPS ?b_ValueError ?b_abs ?b_all ?b_bool ?b_int ?b_isinstance ?b_len ?b_range ?b_repr ?b_str ?b_zip
    (case a_Card => k_is)
    (case a_CardError => k_is)
    (case a_NoText => k_is)
    (case a_is_whole => k_is)
    (case a_is_moment => k_is)
    (case a_number_of => k_is)
    (case a_show_moment => k_is)
    (case a_moment_of => k_is)
    (case a_is_name => k_is)
    (case a_sizes_of => k_is)
    (case a_behind_word => k_is)
    (case a_card_of => k_is)
    (case a_read_card => k_is)
    (case a_law_begin => k_is)
    (case a_law_draw => k_is)
    (case a_law_moment => k_is)
    (case a_law_when => k_is)
    (case a_law_name => k_is)
    (case a_law_card => k_is)
    (case a_law_card_text => k_is)
    (case a_law_odd => k_is)
    (case a_law_bent => k_is)
    (case a_law_number => k_is)
    (case a_law_moment_of => k_is)
    (case a_law_is_name => k_is)
    (case a_law_due => k_is)
    (case a_law_read => k_is)
    (case a_law => k_is)
    (case xg => k_is)
    (case xt => k_is)
    (case pg_Card => k_is)
    (case hd_Card => k_is)
    (case po_Card => k_is)
    (case sa_Card => k_is)
    (case mk_Card => k_is)
    (case kp_Card => k_is)
    (case cl_Card => k_is)
    (case ob_Card => k_is)
    (case ne_Card => k_is)
    (case no_Card_name => k_is)
    (case no_Card_wide => k_is)
    (case no_Card_high => k_is)
    (case no_Card_until => k_is)
    (case no_Card_strips => k_is)
    (case ty_Card => k_is)
    (case ss_Card => first | rfl | k_is)
    (case up_Card_NoneType => k_is)
    (case dn_Card_NoneType => k_is)
    (case up_Card_bool => k_is)
    (case dn_Card_bool => k_is)
    (case up_Card_int => k_is)
    (case dn_Card_int => k_is)
    (case up_Card_str => k_is)
    (case dn_Card_str => k_is)
    (case up_Card_tuple => k_is)
    (case dn_Card_tuple => k_is)
    (case up_Card_list => k_is)
    (case dn_Card_list => k_is)
    (case up_Card_dict => k_is)
    (case dn_Card_dict => k_is)
    (case fi_Card_init => k_is)
    (case isf_Card_init => k_is)
    (case fi_Card_str => k_is)
    (case isf_Card_str => k_is)
    (case kf_Card_str => k_is)
    (case ty_CardError => k_is)
    (case ex_CardError => k_is)
    (case is_CardError => k_is)
    (case sp_CardError => k_is)
    (case rd_CardError => k_is)
    (case fi_CardError => k_is)
    (case ty_NoText => k_is)
    (case ex_NoText => k_is)
    (case is_NoText => k_is)
    (case xl_NoText => k_is)
    (case xr_NoText => decide +kernel)
    (case sa_NoText => k_is)
    (case kp_NoText => k_is)
    (case ga_NoText => k_is)
    (case gg_NoText => k_is)
    (case hd_NoText => k_is)
    (case ii_NoText => k_is)
    (case it_NoText => k_is)
    (case ss_NoText => first | rfl | k_is)
    (case no_text_NoText => k_is)
    (case l_NoText_init => k_is)
    (case c_NoText_init => k_is)
    (case l_is_whole => k_is)
    (case c_is_whole => k_is)
    (case k_is_whole => k_is)
    (case l_is_moment => k_is)
    (case c_is_moment => k_is)
    (case k_is_moment => k_is)
    (case l_number_of => k_is)
    (case c_number_of => k_is)
    (case k_number_of => k_is)
    (case l_show_moment => k_is)
    (case c_show_moment => k_is)
    (case k_show_moment => k_is)
    (case l_moment_of => k_is)
    (case c_moment_of => k_is)
    (case k_moment_of => k_is)
    (case l_is_name => k_is)
    (case c_is_name => k_is)
    (case k_is_name => k_is)
    (case l_Card_init => k_is)
    (case c_Card_init => k_is)
    (case ld_Card_init => k_is)
    (case vd_Card_init => repeat (first | exact .nil | (refine .cons ⟨_, rfl⟩ ?_) | (refine .cons rfl ?_)))
    (case k_Card_init => k_is)
    (case l_Card_str => k_is)
    (case c_Card_str => k_is)
    (case l_sizes_of => k_is)
    (case c_sizes_of => k_is)
    (case k_sizes_of => k_is)
    (case l_behind_word => k_is)
    (case c_behind_word => k_is)
    (case k_behind_word => k_is)
    (case l_card_of => k_is)
    (case c_card_of => k_is)
    (case k_card_of => k_is)
    (case l_read_card => k_is)
    (case c_read_card => k_is)
    (case k_read_card => k_is)
    (case l_law_begin => k_is)
    (case c_law_begin => k_is)
    (case k_law_begin => k_is)
    (case l_law_draw => k_is)
    (case c_law_draw => k_is)
    (case k_law_draw => k_is)
    (case l_law_moment => k_is)
    (case c_law_moment => k_is)
    (case k_law_moment => k_is)
    (case l_law_when => k_is)
    (case c_law_when => k_is)
    (case k_law_when => k_is)
    (case l_law_name => k_is)
    (case c_law_name => k_is)
    (case k_law_name => k_is)
    (case l_law_card => k_is)
    (case c_law_card => k_is)
    (case k_law_card => k_is)
    (case l_law_card_text => k_is)
    (case c_law_card_text => k_is)
    (case k_law_card_text => k_is)
    (case l_law_odd => k_is)
    (case c_law_odd => k_is)
    (case k_law_odd => k_is)
    (case l_law_bent => k_is)
    (case c_law_bent => k_is)
    (case k_law_bent => k_is)
    (case l_law_number => k_is)
    (case c_law_number => k_is)
    (case k_law_number => k_is)
    (case l_law_moment_of => k_is)
    (case c_law_moment_of => k_is)
    (case k_law_moment_of => k_is)
    (case l_law_is_name => k_is)
    (case c_law_is_name => k_is)
    (case k_law_is_name => k_is)
    (case l_law_due => k_is)
    (case c_law_due => k_is)
    (case k_law_due => k_is)
    (case l_law_read => k_is)
    (case c_law_read => k_is)
    (case k_law_read => k_is)
    (case l_law => k_is)
    (case c_law => k_is)
    (case k_law => k_is)
    (case v_q_MOMENTS => k_is)
    (case v_q_HOURS => k_is)
    (case v_q_FIGURES => k_is)
    (case v_q_LETTERS => k_is)
    (case v_q_LONGEST => k_is)
    (case v_q_WORDS => k_is)
    (case w_q_WORDS => k_is)
    (case z_q_WORDS => decide)
    (case y_q_WORDS => repeat (first | exact .nil | (refine .cons ⟨_, rfl⟩ ?_) | (refine .cons rfl ?_)))
    (case v_q_MOST_SIDE => k_is)
    (case v_q_MOST_STRIPS => k_is)
    (case b_ValueError => k_is)
    (case b_abs => k_is)
    (case b_all => k_is)
    (case b_bool => k_is)
    (case b_int => k_is)
    (case b_isinstance => k_is)
    (case b_len => k_is)
    (case b_range => k_is)
    (case b_repr => k_is)
    (case b_str => k_is)
    (case b_zip => k_is)
