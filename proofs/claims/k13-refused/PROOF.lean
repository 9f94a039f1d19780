import PyProof.Rows.All
import Wide.All
import OpenK.AllK
import Wide.FinOn
import HandS.ForMost
import HandS.Wide
import HandS.IsInst
import HandS.Flow
import HandS.TupMul
import HandS.TupAny
import HandS.Zip
import PyProof.ReprRoads
import PyProof.ReprLen
import HandS.Codes
import HandS.Walk
import KE.KeyNested
import PyProof.NeKinds
import HandS.DictComp
import HandS.DictEq
import HandS.Deep
import HandS.Small
import HandS.More
import HandS.Style
import HandS.Set
import HandS.SetFor
import PyProof.Rows.SortShellAny
import PyProof.EnumMake
import PyProof.Draws
import HandS.ListItems
import HandS.SetBool
import PyProof.SumAny
import PyProof.Rows.SeqMore
import KE.SortKeyed
import KE.KDictZip
import HandS.ListEq
import HandS.Defaults
import KE.KItemsList
import HandS.TupLe
import HandS.TupSets
import KE.KDictKeyed
import HandS.Exc
import HandS.ExcInit
import HandS.Nested
import KE.KExcSuper
import HandS.ExcValue
import HandS.ExcField
import HandS.ExcIs
import HandS.ExcCtx
import HandS.ExcInitHot
import HandS.HotCalls
import KE.KExcIs
import HandS.ExcOwn
import KE.KDictPairs
import HandS.FStr
import PyProof.InstNe
import PyProof.SeqIndex
import KE.KEqDict
import HandS.Conv
import HandS.Zip0
import HandS.Rev
import KE.KDictDisplayH
import KE.KIntText
import HandS.SetKeys
import HandS.List
import PyProof.DictRoadsH
import PyProof.EqKinds
import PyProof.P3In
import PySem.Challenge.RW_deadrows_k13_questions_refused
set_option Elab.async false
set_option linter.all false
set_option maxRecDepth 100000
set_option maxHeartbeats 4000000
namespace My
open PySem PySem.Spec PyProof.Rows L2
/-- a def's promise where no repr is under way -/
structure FnG (P : Program) (w : World) (K : PySem.W.Frag) (mg : Str → Option Value) (base : Heap)
    (CX : CXT) (k : Nat) (f : Addr) (fd : FuncData) (ps : List Str) (sp : Sp) : Prop where
  len : ∀ vs H Q E, sp vs H Q E → vs.length = ps.length
  run : ∀ (A : Around) (outer : List Env) (s : Shared) (H : Hp) (args : Args)
    (us : List Value) (vs : List V) (Q : VK) (E : XK), Room k A → A.guards = some [] →
    Env0 P w K mg base A outer s H → BindsTo s fd args (ps.zip us) → Vals vs us →
    sp vs H Q E → codeAny (model P w) A (.call (.ref f) args) (CR CX outer P w H s Q E) s
section
variable {P : Program} {w : World} {K : PySem.W.Frag} {mg : Str → Option Value} {base : Heap}
  {CX : CXT} {k j : Nat} {f : Addr} {fd : FuncData} {ps : List Str} {sp : Sp}
theorem FnG.of (F : FnOk P w K mg base CX k f fd ps sp) : FnG P w K mg base CX k f fd ps sp :=
  ⟨F.len, fun A outer s H args us vs Q E hr _ => F.run A outer s H args us vs Q E hr⟩
theorem FnG.mono (F : FnG P w K mg base CX j f fd ps sp) (h : j ≤ k) :
    FnG P w K mg base CX k f fd ps sp :=
  ⟨F.len, fun A outer s H args us vs Q E hr => F.run A outer s H args us vs Q E (hr.mono h)⟩
theorem fnG_of {name qual : Str} {params : Arguments} {body : List Stmt} {scope : Scope}
    {dV kV doc pm cdv ct oc : Value} {an od : Option Addr} {osl : Array (Option Value)} {N : List Str}
    (lk : K.lookup f = some ⟨oc, od, .func (PySem.W.fnOf name qual params body scope dV kV doc pm an cdv ct), osl⟩)
    (hcd : PySem.W.codeIn K cdv qual = true) (S : FnScope N ps scope)
    (len : ∀ vs H Q E, sp vs H Q E → vs.length = ps.length)
    (hbody : ∀ (A : Around) (outer : List Env) (s : Shared) (H : Hp) (vs : List V) (Q : VK) (E : XK),
      Room k (A.deeper (envOfC qual scope s.heap.objs.size f cdv)) → A.guards = some [] → sp vs H Q E →
      ∃ t, PSs (cxOf CX P w K mg base N qual scope f cdv A outer s H E) body t ∧
        t { nx := fun _ H' => Q .non H', rt := Q } (start N vs) H) :
    FnG P w K mg base CX (k + 1) f (PySem.W.fnOf name qual params body scope dV kV doc pm an cdv ct) ps sp := by
  refine ⟨len, fun A outer s H args us vs Q E hr hg e0 hb r hsp => ?_⟩
  have hl := len _ _ _ _ hsp
  have old : ∀ b o, base.get? b = some o → s.heap.get? b = some o := fun b o e => (e0.bs b o e).1
  have KX : K.In s.heap := e0.mod.kin.keeps old
  have lim : s.heap.NoLimit := e0.mod.nolimit.keeps old
  have hkind : ∀ y ∈ ps.zip us, scope.names.lookup y.1 = some .local ∨ (scope.names.lookup y.1 = some .cell ∧
      ((cellsFrom (s.heap.objs.size + 1) scope.names []).lookup y.1).isSome = true) := by
    rintro ⟨n, v⟩ hy
    rcases S.par n (List.of_mem_zip hy).1 with q | q
    · exact .inl q
    · exact .inr ⟨q, PySem.W.cellsFrom_some _ _ _ (.inl q)⟩
  refine codeAny_call_function hr.depth (KX _ _ lk) rfl S.co S.gen rfl
    (PySem.W.codeRec_of KX hcd) (hb _ _ _ _ ?_)
  refine wpAny_newFunctionEnv_cells S.kind hkind fun env he s1 x => ?_
  subst he
  refine ⟨lim.keeps x.toInCall.keep, codeAny_func ?_⟩
  obtain ⟨t, ht, hq⟩ := hbody A outer s H vs Q E (hr.deeper _) hg hsp
  have I := inv_start (CX := CX) (E := E) (N := N) S hr.hd e0 hl r x
  refine wpAny_mono (ht.run [] s1 (start N vs) H _ I hq) ?_ (fun e s' hs => hs)
  intro fl s' hs
  cases fl with
  | ret u =>
    obtain ⟨v, σ', H', J, rv, q⟩ := hs
    exact ⟨v, H', J.os, J.bare, J.base, J.hok, rv, q⟩
  | next =>
    obtain ⟨σ', H', J, q⟩ := hs
    exact ⟨V.non, H', J.os, J.bare, J.base, J.hok, rfl, q⟩
  | brk => exact hs.elim fun _ h => h.elim fun _ h => False.elim h.2
  | cont => exact hs.elim fun _ h => h.elim fun _ h => False.elim h.2
/-- a def by its body, no repr under way, nothing raised -/
theorem okG {x qual : Str} {st : Stmt} {N : List Str} (F : Fun K x qual st f fd)
    (S : FnScope N ps (defScope st)) (len : ∀ vs H Q E, sp vs H Q E → vs.length = ps.length)
    (hbody : ∀ (cdv : Value) (A : Around) (outer : List Env) (s : Shared) (H : Hp) (vs : List V) (Q : VK) (E : XK),
      Room k (A.deeper (envOfC qual (defScope st) s.heap.objs.size f cdv)) → A.guards = some [] → sp vs H Q E →
      ∃ t, PSs (cxOf CX0 P w K mg base N qual (defScope st) f cdv A outer s H E).nox (defBody st) t ∧
        t { nx := fun _ H' => Q .non H', rt := Q } (start N vs) H) :
    FnG P w K mg base CX0 (k + 1) f fd ps sp := by
  obtain ⟨oc, od, kV, doc, pm, an, cdv, ct, osl, rfl, lk, hcd⟩ := F.ex
  refine fnG_of lk hcd S len fun A outer s H vs Q E hr hg hsp => ?_
  obtain ⟨t, h, q⟩ := hbody cdv A outer s H vs Q E hr hg hsp
  exact ⟨t, h.nox, q⟩
end
section
variable {X : Cx} {CX : CXT} {k : Nat} {f C : Addr} {fd : FuncData} {ps : List Str} {sp : Sp} {dvs : List V}
  {ds : List Value} {E : XK} {x m : Str} {p pos apos : Pos} {e o : Expr} {es : List Expr} {ta : TE} {t : TA}
theorem run_fnG {pins : List (Addr × Obj)} {σ : L2.St} {H : Hp} {s : Shared} {Q : VK} {us : List Value} {vs : List V}
    (F : FnG X.prog X.w X.K X.mg X.base CX k f fd ps sp) (hr : Room k X.A) (hgd : X.A.guards = some [])
    (hb : Binds X.K fd ps ds) (hd : Vals dvs ds) (hx : Passes CX X E) (I : Inv X pins σ H s) (r : Vals vs us)
    (h : sp (vs ++ dvs) H Q E) : wpAny (model X.prog X.w) X.A (call (.ref f) us) (EP X pins σ Q) X.xe s := by
  have r2 := r.append hd
  have hl : (us ++ ds).length = ps.length := r2.length.symm.trans (F.len _ _ _ _ h)
  refine wpAny_call (codeAny_mono (F.run X.A X.stack s H ⟨us, []⟩ _ _ Q E hr hgd I.env0
    (hb s us I.kIn hl) r2 h) ?_)
  intro r s' hq
  match r, hq with
  | .error e, hq => exact hx pins σ H s e s' I hq
  | .ok (.ret u), hq => exact I.after hq
theorem pe_callG (F : FnG X.prog X.w X.K X.mg X.base CX k f fd ps sp) (hr : Room k X.A) (hgd : X.A.guards = some [])
    (hg : Gl X x) (hm : X.mg x = some (.ref f)) (hk : PySem.W.keepIn X.K (.ref f) = true) (hb : Binds X.K fd ps ds)
    (hd : Vals dvs ds) (hx : Passes CX X E) (ha : PA X (e :: es) t) (hdb : (x == ("__debug__" : Str)) = false := by decide)
    (he : starEach (e :: es) X.env = (false, eval e X.env) :: starEach es X.env := by rfl)
    (hpl : (backTo pos (starEach es X.env)).any (·.1) = false := by rfl) :
    PE X (.Call (.Name x p) (e :: es) [] pos) (tCall sp dvs E t) := by
  refine ⟨fun pins s σ H Q I h => wpAny_Call_Name_kw (ld_glob I hg hm ?_ hdb)⟩
  refine PySem.W.callWith_K (h₀ := X.base) I.ok.mod.kin hk (thn (ha.run pos pins s σ H _ I h) ?_) he hpl
  exact fun us s1 ⟨vs, H1, I1, r, q⟩ => ⟨I1.kIn, run_fnG F hr hgd hb hd hx I1 r q⟩
end
/-- the law's call, its promise kept where no repr is under way -/
theorem law_callG {P : Program} {w : World} {K : PySem.W.Frag} {mg mb : Str → Option Value} {CX : CXT} {k : Nat}
    {fa a : Addr} {fd : FuncData} {x : Str} {sp : Sp} {s₁ : Shared} {vs : List Value} {ns : List Int}
    (KX : K.In s₁.heap) (hns : s₁.heap.Ns mainGlobals mg) (hb : s₁.heap.Ns builtinsNs mb)
    (hbb : ∀ x : Str, x ≠ "__name__" → mb x = bootBuiltins x) (hlim : s₁.heap.NoLimit) (hg : s₁.gens = #[])
    (ha : s₁.heap.get? a = some { cls := .type "list", data := .seq vs.toArray }) (hi : IntsAre vs ns)
    (hl : ns.length ≤ sizeLine) (hr : Room k callerA)
    (hsy : ∃ mm, s₁.heap.Ns sysModules mm)
    (F : ∀ base : Heap, K.In base → base.Ns mainGlobals mg → (∃ mm, base.Ns sysModules mm) → FnG P w K mg base CX k fa fd [x] sp)
    (hbind : ∀ (s : Shared) (u : Value), BindsTo s fd ⟨[u], []⟩ [(x, u)])
    (hsp : ∀ H : Hp, Only H → SqL K H a (ns.map V.int) → sp [.ref a] H (fun v _ => v = .bl true) fun _ _ _ => False)
    (hCX : ∀ H e s', CX [] H s₁ (fun _ _ _ => False) e s' → False) :
    codeAny (model P w) callerA (.call (.ref fa) ⟨[.ref a], []⟩)
      (fun r s' => r = .ok (.ret (.bool true)) ∧ OldK s₁.heap s'.heap ∧ s'.os = s₁.os ∧ AllBare s'.gens) s₁ := by
  have core : ∀ H : Hp, Only H → SqL K H a (ns.map V.int) → HOk P w H s₁.heap → (∀ b, H b ≠ none → b = a) →
      (H a ≠ none → K.lookup a = none) → codeAny (model P w) callerA (.call (.ref fa) ⟨[.ref a], []⟩)
      (fun r s' => r = .ok (.ret (.bool true)) ∧ OldK s₁.heap s'.heap ∧ s'.os = s₁.os ∧ AllBare s'.gens) s₁ := by
    intro H hO hS hok hA hK
    have atA : ∀ {b : Addr} {u : HO}, H b = some u → b = a := fun q => hA _ (by rw [q]; simp)
    have noA : ∀ {b : Addr} {o : Obj} {es : Array DictEntry} {ep : Nat},
        s₁.heap.get? b = some o → o.data = .dict es ep → H b = none := by
      intro b o es ep e d
      cases q : H b with
      | none => rfl
      | some u =>
        obtain rfl := atA q
        rw [ha] at e
        cases e
        exact nomatch (show Data.seq vs.toArray _ = Data.dict es ep from d)
    have nsK : ∀ {b : Addr} {m : Str → Option Value}, s₁.heap.Ns b m → (hidT s₁.heap H).Ns b m :=
      fun ⟨o, es, ep, e, d, r⟩ => ⟨o, es, ep, hidT_get e (noA e d), d, r⟩
    have hKb : K.In (hidT s₁.heap H) := by
      intro b o e
      refine hidT_get (KX b o e) ?_
      cases q : H b with
      | none => rfl
      | some u =>
        obtain rfl := atA q
        rw [hK (by rw [q]; simp)] at e
        cases e
    obtain ⟨mc, hc1, hc2⟩ := hlim
    have hM : Mod K mg (hidT s₁.heap H) := ⟨hKb, nsK hns, ⟨mb, nsK hb, hbb⟩, ⟨mc, nsK hc1, hc2⟩⟩
    have no0 : ∀ b : Addr, b ∉ frs [] := fun b z => absurd (show b ∈ ([] : List Addr) from z) (by simp)
    have e0 : Env0 P w K mg (hidT s₁.heap H) callerA [] s₁ H :=
      ⟨rfl, hM, fun b o e => of_hidT e, Nat.le_of_eq (hidT_size _ _), trivial, fun b z => absurd z (no0 b), hok, .of_eq hg⟩
    obtain ⟨mm, hmm⟩ := hsy
    refine codeAny_mono ((F _ hKb (nsK hns) ⟨mm, nsK hmm⟩).run callerA [] s₁ H ⟨[.ref a], []⟩ [.ref a] [.ref a] _ _ hr rfl e0
      (hbind s₁ (.ref a)) (.cons rfl .nil) (hsp H hO hS)) ?_
    intro r s' h
    match r, h with
    | .error e, h => exact (hCX H e s' h).elim
    | .ok (.ret u), h =>
      obtain ⟨v, H', os, bare, un, hok', r', q⟩ := h
      obtain rfl : v = .bl true := q
      obtain rfl : u = Value.bool true := r'
      refine ⟨rfl, OldK.of_keep fun b o e => ?_, os, bare⟩
      rcases hO b with z | ⟨ob, xs, z⟩
      · exact un.keep b o e z (no0 b) (by simp)
      · have e1 := (hok b _ z).1
        rw [e] at e1
        cases e1
        exact (hok' b _ (un.frzs b _ _ z)).1
  have rv := vals_ints hi
  cases hk : K.lookup a with
  | some o =>
    have e := KX a o hk
    rw [ha] at e
    cases e
    refine core (fun _ => none) (fun _ => .inl rfl) (.inr ⟨_, vs.toArray, _, hk, rfl, rfl, rfl, ?_, by simpa using rv⟩)
      (fun b u z => nomatch (show (none : Option HO) = some u from z)) (fun b z => absurd rfl z) (fun z => absurd rfl z)
    rw [List.size_toArray, hi.length]
    exact hl
  | none =>
    refine core (fun b => if b = a then some (.frz { cls := .type "list", data := .seq vs.toArray } (.lst (ns.map V.int))) else none)
      (fun b => ?_) (.inl (.inr ⟨_, if_pos rfl⟩)) (fun b u z => ?_) (fun b z => ?_) (fun _ => hk)
    · by_cases hb : b = a
      · exact .inr ⟨_, _, if_pos hb⟩
      · exact .inl (if_neg hb)
    · by_cases hb : b = a
      · subst hb
        cases (if_pos rfl).symm.trans z
        exact ⟨ha, by rw [List.length_map]; exact hl, vs, _, rv, ha⟩
      · exact nomatch (if_neg hb).symm.trans z
    · by_cases hb : b = a
      · exact hb
      · exact absurd (if_neg hb) z
/-- the goal that the head leaves, from the law's promise -/
theorem walk_ofG {l : PySem.W.OpenLaw} {n k : Nat} {q : Program} {loose : List Str}
    {XP : (Str → Option Value) → Heap → Prop} {YP : World → Heap → Prop} {d : DefRec} {K : Params → PySem.W.Frag}
    {CX : CXT} {sp : PySem.W.Frag → Sp} {x : Str}
    (hn : l.most = some n) (hn2 : n ≤ sizeLine) (hdf : d.params.defaults = []) (hr : Room k callerA)
    (hi : importsNone q = true) (hY : ∀ (w : World) (h : Heap), YP w h → (K w.params).In h)
    (F : ∀ (w : World) (mg : Str → Option Value) (fa : Addr) (h : Heap), (K w.params).In h → h.Ns mainGlobals mg →
      mg d.name = some (.ref fa) → ∃ fd : FuncData, (∀ (s : Shared) (u : Value), BindsTo s fd ⟨[u], []⟩ [(x, u)]) ∧
        ∀ base : Heap, (K w.params).In base → base.Ns mainGlobals mg → (∃ mm, base.Ns sysModules mm) →
          FnG l.prog w (K w.params) mg base CX k fa fd [x] (sp (K w.params)))
    (hsp : ∀ (K : PySem.W.Frag) (H : Hp) (a : Addr) (ns : List Int), ns.length ≤ n → Only H → SqL K H a (ns.map V.int) →
      sp K [.ref a] H (fun v _ => v = .bl true) fun _ _ _ => False)
    (hCX : ∀ (H : Hp) (s : Shared) (e : Value) (s' : Shared), CX [] H s (fun _ _ _ => False) e s' → False) :
    PySem.W.WalkO q loose XP YP l.row.toRowW d [] (fun f vs => PySem.call f vs) := by
  refine Att.attach_call hn hdf fun w s₀ s₁ mg mb fa o pm cd doc a vs ns G Y ho hd hcd hmg hobj hints hlen hg => ?_
  have KX := hY w _ Y
  obtain ⟨fd, hb, hF⟩ := F w mg fa _ KX G.T.g hmg
  exact law_callG KX G.T.g G.T.b G.T.builtins G.T.nolimit hg hobj hints (Nat.le_trans hlen hn2) hr
    (G.T.seer hi |>.mods.elim fun mm h => ⟨mm, h.1⟩) hF hb (fun H hO hS => hsp _ H a ns hlen hO hS) (fun H e s' => hCX H s₁ e s')
section
variable {X : Cx}
theorem get_list : PGet X (rIxL X.K) := by
  intro pins s σ H o i ov iv Q I ro ri h
  obtain ⟨p, xs, k, z, rfl, rfl, hq, he, q⟩ := h
  cases ro
  obtain ⟨t, rfl⟩ := ri
  obtain ⟨its, r, pl, hz⟩ := I.list hq
  obtain ⟨j, h1, h2, h3, h4, h5⟩ := atI_get he
  obtain ⟨w, ew, rw'⟩ := r.get h2
  have hl := r.length
  have hn := line63
  have fin : EP X pins σ Q w s := ⟨z, H, I, rw', q⟩
  by_cases h0 : 0 ≤ k
  · have hj : k.toNat = j := by
      rw [seqIndex_of h0 h5] at h1
      exact Option.some.inj h1
    exact wpAny_getItem_list pl.isList h0 (by omega) (by rw [hj]; simpa using ew) fin
  · have hj : (k + (its.toArray.size : Int)).toNat = j := by
      rw [seqIndex_neg (by omega) h4] at h1
      rw [List.size_toArray, ← hl]
      exact Option.some.inj h1
    exact wpAny_getItem_list_neg pl.isList (by omega) (by rw [List.size_toArray] <;> omega) (by omega)
      (by rw [hj]; simpa using ew) fin
end
end My
set_option Elab.async false
set_option linter.all false
set_option maxRecDepth 100000
set_option maxHeartbeats 4000000
namespace My
open PySem PySem.Spec PyProof.Rows L2
/-- a key as data -/
def kD : Key → PyData
  | .inl i => .int i
  | .inr x => .str x
mutual
/-- data, dicts too -/
inductive Dx (K : PySem.W.Frag) (H : Hp) : V → PyData → Prop
  | non : Dx K H .non .none
  | bl (b : Bool) : Dx K H (.bl b) (.bool b)
  | int (i : Int) : Dx K H (.int i) (.int i)
  | str (x : Str) : Dx K H (.str x) (.str x)
  | lst {a : Addr} {xs : List V} {ds : List PyData} : SqL K H a xs → Dxs K H xs ds → Dx K H (.ref a) (.list ds)
  | tup {a : Addr} {xs : List V} {ds : List PyData} : SqT K H a xs → Dxs K H xs ds → Dx K H (.ref a) (.tuple ds)
  | dic {a : Addr} {kvs : List (Key × V)} {ds : List (PyData × PyData)} : Rd H a (.dK kvs) →
      ds.map (·.1) = kvs.map (fun p => kD p.1) → Dxs K H (kvs.map (·.2)) (ds.map (·.2)) → Dx K H (.ref a) (.dict ds)
inductive Dxs (K : PySem.W.Frag) (H : Hp) : List V → List PyData → Prop
  | nil : Dxs K H [] []
  | cons {v : V} {vs : List V} {d : PyData} {ds : List PyData} : Dx K H v d → Dxs K H vs ds → Dxs K H (v :: vs) (d :: ds)
end
theorem Rd.same {H H' : Hp} {a : Addr} {u : HO} (e : Same H H') (h : Rd H a u) : Rd H' a u :=
  h.elim (fun h => .inl (e _ _ h)) (fun ⟨o, h⟩ => .inr ⟨o, e _ _ h⟩)
theorem sqT_same {K : PySem.W.Frag} {H H' : Hp} {a : Addr} {xs : List V} (e : Same H H') (h : SqT K H a xs) : SqT K H' a xs :=
  h.elim (fun h => .inl (Rd.same e h)) .inr
mutual
theorem Dx.same {K : PySem.W.Frag} {H H' : Hp} (e : Same H H') : ∀ {v : V} {d : PyData}, Dx K H v d → Dx K H' v d
  | _, _, .non => .non
  | _, _, .bl b => .bl b
  | _, _, .int i => .int i
  | _, _, .str x => .str x
  | _, _, .lst h t => .lst (e.seq h) (Dxs.same e t)
  | _, _, .tup h t => .tup (sqT_same e h) (Dxs.same e t)
  | _, _, .dic h k t => .dic (Rd.same e h) k (Dxs.same e t)
theorem Dxs.same {K : PySem.W.Frag} {H H' : Hp} (e : Same H H') : ∀ {vs : List V} {ds : List PyData}, Dxs K H vs ds → Dxs K H' vs ds
  | _, _, .nil => .nil
  | _, _, .cons a b => .cons (Dx.same e a) (Dxs.same e b)
end
section
variable {X : Cx} {pins : List (Addr × Obj)} {σ : L2.St} {H : Hp} {s : Shared}
/-- no list stands at sys.modules -/
theorem no_sys (I : Inv X pins σ H s) (hs : ∃ mm, X.base.Ns sysModules mm) {a : Addr} {xs : List V} (h : SqL X.K H a xs) : a ≠ sysModules := by
  rintro rfl
  obtain ⟨its, r, ⟨o, n, e, hc, _, hd⟩, _⟩ := I.list h
  obtain ⟨mm, o', es, ep, e', hd', _⟩ := hs
  have q := (I.bs _ _ e').1
  rw [e] at q
  cases q
  rw [hd] at hd'
  cases hd'
theorem pairs_read {P : Program} {w : World} {h : Heap} : ∀ {es : List DictEntry} {vs : List (Key × Value)} {kvs : List (Key × V)},
    Pairs (mixKind P w) es vs → KV kvs vs → ReadsAll h (es.map (·.key)) (kvs.map fun p => kD p.1) [] ∧ Vals (kvs.map (·.2)) (es.map (·.val))
  | _, _, _, .nil, kv => by
    cases kv
    exact ⟨.nil, .nil⟩
  | _, _, _, .cons (e := e) hk hv t, kv => by
    cases kv with
    | cons hq tq =>
      rename_i p pr
      obtain ⟨i1, i2⟩ := pairs_read (h := h) t tq
      obtain ⟨e1, r⟩ := hq
      refine ⟨?_, .cons (by show L2.RelV p.2 e.val; rw [hv]; exact r) i2⟩
      have hk' : keyIs p.1 e.key = true := by rw [e1]; exact hk
      rcases keyIs_shape hk' with ⟨i, t', e2, e3⟩ | ⟨x, t', e2, e3⟩
      · show ReadsAll h (e.key :: _) (kD p.1 :: _) ([] ++ [])
        rw [e2, e3]
        exact .cons (.int i t') i1
      · show ReadsAll h (e.key :: _) (kD p.1 :: _) ([] ++ [])
        rw [e2, e3]
        exact .cons (.str x t') i1
mutual
theorem Dx.reads (I : Inv X pins σ H s) (hs : ∃ mm, X.base.Ns sysModules mm) :
    ∀ {v : V} {d : PyData} {u : Value}, Dx X.K H v d → RelV v u → ∃ as, Reads s.heap u d as ∧ sysModules ∉ as
  | _, _, _, .non, r => by cases r; exact ⟨_, Reads.none, by simp⟩
  | _, _, _, .bl b, r => by cases r; exact ⟨_, Reads.bool b, by simp⟩
  | _, _, _, .int i, r => by obtain ⟨t, rfl⟩ := r; exact ⟨_, Reads.int i t, by simp⟩
  | _, _, _, .str x, r => by obtain ⟨t, rfl⟩ := r; exact ⟨_, Reads.str x t, by simp⟩
  | _, _, _, .lst h t, r => by
    cases r
    have na := no_sys I hs h
    obtain ⟨its, rv, ⟨o, n, ho, hc, _, hd⟩, _⟩ := I.list h
    obtain ⟨as, hr, ns⟩ := Dxs.reads I hs t rv
    refine ⟨_, Reads.list ho hc hd hr, fun z => ?_⟩
    rcases List.mem_cons.mp z with z | z
    · exact na z.symm
    · exact ns z
  | _, _, _, .tup h t, r => by
    cases r
    obtain ⟨its, rv, ⟨o, ho, hc, n, hd⟩, _⟩ := I.tuple h
    obtain ⟨as, hr, ns⟩ := Dxs.reads I hs t rv
    exact ⟨_, Reads.tuple ho hc hd hr, ns⟩
  | _, _, _, .dic (a := a) h k t, r => by
    cases r
    obtain ⟨_, na, vs, kv, o, es, ep, ho, hx, hd, _, hp, _⟩ := h.ok I.hok
    obtain ⟨q1, q2⟩ := pairs_read (h := s.heap) hp kv
    obtain ⟨as, hr, ns⟩ := Dxs.reads I hs t q2
    refine ⟨_, Reads.dict ho hx.1 hd (by rw [k]; exact q1) hr, fun z => ?_⟩
    rcases List.mem_cons.mp (show sysModules ∈ a :: as from z) with z | z
    · rw [← z] at na
      exact absurd na (by decide)
    · exact ns z
theorem Dxs.reads (I : Inv X pins σ H s) (hs : ∃ mm, X.base.Ns sysModules mm) :
    ∀ {vs : List V} {ds : List PyData} {us : List Value}, Dxs X.K H vs ds → Vals vs us → ∃ as, ReadsAll s.heap us ds as ∧ sysModules ∉ as
  | _, _, _, .nil, r => by cases r; exact ⟨_, ReadsAll.nil, by simp⟩
  | _, _, _, .cons h1 h2, r => by
    cases r with
    | cons r1 r2 =>
      obtain ⟨as, q1, n1⟩ := Dx.reads I hs h1 r1
      obtain ⟨bs, q2, n2⟩ := Dxs.reads I hs h2 r2
      exact ⟨_, ReadsAll.cons q1 q2, fun z => (List.mem_append.mp z).elim n1 n2⟩
end
end
/-- what repr asks of data -/
structure Shows (d : PyData) : Prop where
  able : d.showable = true
  size : d.shown.length ≤ sizeLine
  deep : d.depth ≤ 100
section
variable {X : Cx}
def rRepr (K : PySem.W.Frag) : List V → Hp → VK → Prop := fun xs H Q => ∃ v d, xs = [v] ∧ Dx K H v d ∧ Shows d ∧ Q (.str d.shown) H
theorem call_reprX (hg : X.A.guards = some []) (hu : X.A.units + 200 < cLine) (hs : ∃ mm, X.base.Ns sysModules mm) : CallR X (.builtin "repr") (rRepr X.K) := by
  intro pins s σ H xs us Q I r h
  obtain ⟨v, d, rfl, hd, hz, q⟩ := h
  obtain ⟨u, rfl, ru⟩ := vals1 r
  obtain ⟨as, hr, ns⟩ := Dx.reads I hs hd ru
  have fin : ∀ t : Nat, Inv X pins σ H { s with toks := t } := fun t => I.tok t
  cases hr with
  | none => exact PySem.P.repr_of_none ⟨.str _, H, fin _, ⟨_, rfl⟩, q⟩
  | bool b => exact PySem.P.repr_of_bool ⟨.str _, H, fin _, ⟨_, rfl⟩, q⟩
  | int i t => exact PySem.P.repr_of_int (by simpa [PyData.showable] using hz.able) ⟨.str _, H, fin _, ⟨_, rfl⟩, q⟩
  | str x t => exact PySem.P.repr_of_str ⟨.str _, H, fin _, ⟨_, rfl⟩, q⟩ hz.size
  | list h1 h2 h3 h4 =>
    exact repr_of_reads' (.list h1 h2 h3 h4) hz.able (fun _ => ns) hg (by have := hz.deep; omega) (fun _ _ e => e)
      (fun h' u' tk hk => ⟨.str _, H, I.kept hk, ⟨_, rfl⟩, q⟩) hz.size
  | tuple h1 h2 h3 h4 =>
    exact repr_of_reads' (.tuple h1 h2 h3 h4) hz.able (fun _ => ns) hg (by have := hz.deep; omega) (fun _ _ e => e)
      (fun h' u' tk hk => ⟨.str _, H, I.kept hk, ⟨_, rfl⟩, q⟩) hz.size
  | dict h1 h2 h3 h4 h5 =>
    exact repr_of_reads' (.dict h1 h2 h3 h4 h5) hz.able (fun _ => ns) hg (by have := hz.deep; omega) (fun _ _ e => e)
      (fun h' u' tk hk => ⟨.str _, H, I.kept hk, ⟨_, rfl⟩, q⟩) hz.size
end
end My
set_option Elab.async false
set_option linter.all false
set_option maxRecDepth 100000
set_option maxHeartbeats 4000000
namespace My
open PySem PySem.Spec PyProof.Rows L2
/-- a bag stands at b -/
structure Bag (H : Hp) (b : Addr) (x y z : Int) (L : Addr) (cs : List Int) : Prop where
  at_ : H b = some (.lst [.int x, .int y, .int z, .ref L])
  cells : H L = some (.lst (cs.map V.int))
  x0 : 0 ≤ x
  z0 : 0 ≤ z
  c0 : ∀ c ∈ cs, 0 ≤ c
theorem Bag.ne {H : Hp} {b : Addr} {x y z : Int} {L : Addr} {cs : List Int} (B : Bag H b x y z L cs) : L ≠ b := by
  rintro rfl
  have h := B.at_.symm.trans B.cells
  have e : ([.int x, .int y, .int z, .ref L] : List V) = cs.map V.int := by injection Option.some.inj h
  have e3 := congrArg (fun l => l[3]?) e
  rw [List.getElem?_map] at e3
  cases q : cs[3]? with
  | none => rw [q] at e3; cases e3
  | some c => rw [q] at e3; cases e3
/-- which bag: its list, the list of its cells, these -/
structure BI where
  b : Addr
  L : Addr
  cs : List Int
def BagOk (H : Hp) (B : BI) : Prop := ∃ x y z, Bag H B.b x y z B.L B.cs
theorem Bag.put {H : Hp} {b : Addr} {x y z : Int} {L : Addr} {cs : List Int} (B : Bag H b x y z L cs) {x' y' z' : Int} (h1 : 0 ≤ x') (h3 : 0 ≤ z') :
    Bag (upd H b (.lst [.int x', .int y', .int z', .ref L])) b x' y' z' L cs :=
  ⟨upd_same, by rw [upd_ne B.ne]; exact B.cells, h1, h3, B.c0⟩
/-- a heap without one address -/
def hid (b : Addr) (H : Hp) : Hp := fun a => if a = b then none else H a
theorem hid_ne {b a : Addr} {H : Hp} (h : a ≠ b) : hid b H a = H a := if_neg h
theorem hid_at {b : Addr} {H : Hp} : hid b H b = none := if_pos rfl
theorem hid_upd {b : Addr} {H : Hp} {o : HO} : hid b (upd H b o) = hid b H := by
  funext a
  unfold hid upd
  split <;> rfl
/-- all but the bag at b is as it was -/
def Keep (b : Addr) (H H' : Hp) : Prop := Same (hid b H) (hid b H')
theorem Keep.refl {b : Addr} {H : Hp} : Keep b H H := Same.refl _
theorem Keep.trans {b : Addr} {H H1 H2 : Hp} (h : Keep b H H1) (k : Keep b H1 H2) : Keep b H H2 := Same.trans h k
theorem Keep.bag {b : Addr} {H : Hp} {o : HO} : Keep b H (upd H b o) := by
  unfold Keep
  rw [hid_upd]
  exact Same.refl _
theorem Keep.of {b : Addr} {H H' : Hp} (h : Same H H') : Keep b H H' := fun a o e => by
  by_cases q : a = b
  · subst q
    rw [hid_at] at e
    cases e
  · rw [hid_ne q] at e ⊢
    exact h a o e
theorem Keep.get {b a : Addr} {H H' : Hp} {o : HO} (k : Keep b H H') (h : H a = some o) (n : a ≠ b) : H' a = some o := by
  have := k a o (by rw [hid_ne n]; exact h)
  rw [hid_ne n] at this
  exact this
theorem same_new {H : Hp} {p : Addr} {o : HO} (h : H p = none) : Same H (upd H p o) := fun a u e => by
  rw [upd_ne (ne_of_none e h)]
  exact e
theorem Keep.new {b p : Addr} {H H' : Hp} {o : HO} (k : Keep b H H') (h : H' p = none) : Keep b H (upd H' p o) := k.trans (Keep.of (same_new h))
theorem Bag.same {H H' : Hp} {b : Addr} {x y z : Int} {L : Addr} {cs : List Int} (e : Same H H') (B : Bag H b x y z L cs) : Bag H' b x y z L cs :=
  ⟨e _ _ B.at_, e _ _ B.cells, B.x0, B.z0, B.c0⟩
theorem BagOk.same {H H' : Hp} {B : BI} (e : Same H H') (h : BagOk H B) : BagOk H' B :=
  let ⟨x, y, z, h⟩ := h
  ⟨x, y, z, h.same e⟩
theorem BagOk.new {H : Hp} {B : BI} {p : Addr} {o : HO} (h : BagOk H B) (hp : H p = none) : BagOk (upd H p o) B := h.same (same_new hp)
theorem BagOk.some {H : Hp} {B : BI} (h : BagOk H B) : H B.b ≠ none := by
  obtain ⟨x, y, z, h⟩ := h
  rw [h.at_]
  exact fun h => nomatch h
theorem BagOk.ne {H : Hp} {B : BI} {p : Addr} (h : BagOk H B) (hp : H p = none) : p ≠ B.b := fun e => h.some (e ▸ hp)
/-- _law_take's promise: any number below many -/
def spTake : Sp := fun vs H Q _ => ∃ (B : BI) (many : Int), vs = [.ref B.b, .int many] ∧ BagOk H B ∧ 0 < many ∧ many < 2 ^ 60 ∧
  ∀ (v : Int) (o : HO), 0 ≤ v → v < many → BagOk (upd H B.b o) B → Q (.int v) (upd H B.b o)
end My
set_option Elab.async false
set_option linter.all false
set_option maxRecDepth 100000
set_option maxHeartbeats 4000000
namespace Q
open PySem PySem.Spec PyProof.Rows L2 My
abbrev NX := List (NestedKey × Addr × Value)
def dnP (P : Program) (w : World) (a : Addr) (xs : NX) (h : Heap) : Prop := xs.length ≤ sizeLine ∧ (a == sysModules) = false ∧ ∃ o es ep, h.get? a = some o ∧ o.ExactDict ∧ o.data = .dict es ep ∧ es.toList = xs.map (entryOfKey (nestedKind P w)) ∧ (xs.map (·.1)).Nodup
abbrev dnO (P : Program) (w : World) (a : Addr) (xs : NX) : HO := .ext (dnP P w a xs)
end Q
set_option Elab.async false
set_option linter.all false
set_option maxRecDepth 100000
set_option maxHeartbeats 4000000
namespace Q
open PySem PySem.Spec PyProof.Rows L2 My
inductive D where
  | non | bl (b : Bool) | int (i : Int) | str (x : Str) | ty (n : String)
  | tup (xs : List D) | lst (xs : List D) | dct (kvs : List (Key × D))
  | obj (C : Addr) (fs : List (Str × D)) | ref (a : Addr) | bag | scr (ns : List Int)
  | dcT (kvs : List (List Key × D)) | tux (ss : List Str)
instance : Inhabited D := ⟨.non⟩
mutual
def ofN : NestedKey → D
  | .none => .non
  | .num i => .int i
  | .text x => .str x
  | .tup ks => .tup (ofNs ks)
def ofNs : List NestedKey → List D
  | [] => []
  | k :: ks => ofN k :: ofNs ks
end
/-- what stands still: the shared part, the frame, the bag -/
structure Gh where
  Hs : Hp
  F : Hp
  bg : Option BI
structure Gh.le (g g' : Gh) : Prop where
  hs : Same g.Hs g'.Hs
  fr : g'.F = g.F
  bg : ∀ B, g.bg = some B → g'.bg = some B
theorem Gh.le.refl (g : Gh) : g.le g := ⟨Same.refl _, rfl, fun _ e => e⟩
theorem Gh.le.trans {a b c : Gh} (h : a.le b) (k : b.le c) : a.le c := ⟨Same.trans h.hs k.hs, k.fr.trans h.fr, fun B e => k.bg B (h.bg B e)⟩
/-- what Has leans on -/
structure Gh.sub (g g' : Gh) : Prop where
  hs : Same g.Hs g'.Hs
  bg : ∀ B, g.bg = some B → g'.bg = some B
theorem Gh.le.sub {g g' : Gh} (h : g.le g') : g.sub g' := ⟨h.hs, h.bg⟩
mutual
inductive Has (K : PySem.W.Frag) (g : Gh) : V → D → Prop
  | non : Has K g .non .non
  | bl (b : Bool) : Has K g (.bl b) (.bl b)
  | int (i : Int) : Has K g (.int i) (.int i)
  | str (x : Str) : Has K g (.str x) (.str x)
  | ty (n : String) : Has K g (.ty n) (.ty n)
  | ref (a : Addr) : Has K g (.ref a) (.ref a)
  | bag {B : BI} : g.bg = some B → Has K g (.ref B.b) .bag
  | scr {a : Addr} {ns : List Int} : SqL K g.Hs a (ns.map V.int) → Has K g (.ref a) (.scr ns)
  | lst {a : Addr} {xs : List V} {ds : List D} : g.Hs a = some (.lst xs) → HasL K g xs ds → Has K g (.ref a) (.lst ds)
  | tup {a : Addr} {xs : List V} {ds : List D} : g.Hs a = some (.tup xs) → HasL K g xs ds → Has K g (.ref a) (.tup ds)
  | dct {a : Addr} {o : Obj} {kvs : List (Key × V)} {ds : List (Key × D)} : g.Hs a = some (.frz o (.dK kvs)) →
      ds.map (·.1) = kvs.map (·.1) → HasL K g (kvs.map (·.2)) (ds.map (·.2)) → Has K g (.ref a) (.dct ds)
  | obj {a C dx : Addr} {fvs : List (Str × V)} {fs : List (Str × D)} : g.Hs a = some (.ins C dx fvs) → g.Hs dx = some (.own a) →
      fs.map (·.1) = fvs.map (·.1) → HasL K g (fvs.map (·.2)) (fs.map (·.2)) → Has K g (.ref a) (.obj C fs)
  | dcT {a : Addr} {o : Obj} {kvs : List (List Key × V)} {ds : List (List Key × D)} : g.Hs a = some (.frz o (.dT kvs)) →
      ds.map (·.1) = kvs.map (·.1) → HasL K g (kvs.map (·.2)) (ds.map (·.2)) → Has K g (.ref a) (.dcT ds)
  | tux {a : Addr} {o : Obj} {ss : List Str} : g.Hs a = some (.frz o (.tup (ss.map V.str))) → o.dict = none → Has K g (.ref a) (.tux ss)
inductive HasL (K : PySem.W.Frag) (g : Gh) : List V → List D → Prop
  | nil : HasL K g [] []
  | cons {v : V} {vs : List V} {d : D} {ds : List D} : Has K g v d → HasL K g vs ds → HasL K g (v :: vs) (d :: ds)
end
section
variable {K : PySem.W.Frag} {g g' : Gh}
mutual
theorem Has.sub (e : g.sub g') : ∀ {v : V} {d : D}, Has K g v d → Has K g' v d
  | _, _, .non => .non
  | _, _, .bl b => .bl b
  | _, _, .int i => .int i
  | _, _, .str x => .str x
  | _, _, .ty n => .ty n
  | _, _, .ref a => .ref a
  | _, _, .bag h => .bag (e.bg _ h)
  | _, _, .scr h => .scr (e.hs.seq h)
  | _, _, .lst h t => .lst (e.hs _ _ h) (HasL.sub e t)
  | _, _, .tup h t => .tup (e.hs _ _ h) (HasL.sub e t)
  | _, _, .dct h k t => .dct (e.hs _ _ h) k (HasL.sub e t)
  | _, _, .obj h h2 k t => .obj (e.hs _ _ h) (e.hs _ _ h2) k (HasL.sub e t)
  | _, _, .dcT h k t => .dcT (e.hs _ _ h) k (HasL.sub e t)
  | _, _, .tux h k => .tux (e.hs _ _ h) k
theorem HasL.sub (e : g.sub g') : ∀ {vs : List V} {ds : List D}, HasL K g vs ds → HasL K g' vs ds
  | _, _, .nil => .nil
  | _, _, .cons a b => .cons (Has.sub e a) (HasL.sub e b)
end
theorem Has.le {v : V} {d : D} (h : Has K g v d) (e : g.le g') : Has K g' v d := h.sub e.sub
theorem HasL.le {v : List V} {d : List D} (h : HasL K g v d) (e : g.le g') : HasL K g' v d := h.sub e.sub
theorem HasL.length : ∀ {vs : List V} {ds : List D}, HasL K g vs ds → vs.length = ds.length
  | _, _, .nil => rfl
  | _, _, .cons _ b => congrArg (· + 1) (HasL.length b)
theorem HasL.get : ∀ {vs : List V} {ds : List D} {i : Nat} {v : V}, HasL K g vs ds → vs[i]? = some v → ∃ d, ds[i]? = some d ∧ Has K g v d
  | _, _, _, _, .nil, e => by simp at e
  | _, _, 0, _, .cons r _, e => by simp at e; subst e; exact ⟨_, rfl, r⟩
  | _, _, i + 1, v, .cons _ t, e => by
    obtain ⟨d, h1, h2⟩ := HasL.get (i := i) (v := v) t (by simpa using e)
    exact ⟨d, by simpa using h1, h2⟩
theorem HasL.get' : ∀ {vs : List V} {ds : List D} {i : Nat} {d : D}, HasL K g vs ds → ds[i]? = some d → ∃ v, vs[i]? = some v ∧ Has K g v d
  | _, _, _, _, .nil, e => by simp at e
  | _, _, 0, _, .cons r _, e => by simp at e; subst e; exact ⟨_, rfl, r⟩
  | _, _, i + 1, d, .cons _ t, e => by
    obtain ⟨v, h1, h2⟩ := HasL.get' (i := i) (d := d) t (by simpa using e)
    exact ⟨v, by simpa using h1, h2⟩
theorem HasL.append : ∀ {xs ys : List V} {ds es : List D}, HasL K g xs ds → HasL K g ys es → HasL K g (xs ++ ys) (ds ++ es)
  | _, _, _, _, .nil, s => s
  | _, _, _, _, .cons r t, s => .cons r (HasL.append t s)
theorem HasL.take : ∀ {xs : List V} {ds : List D} (n : Nat), HasL K g xs ds → HasL K g (xs.take n) (ds.take n)
  | _, _, 0, _ => .nil
  | _, _, _ + 1, .nil => .nil
  | _, _, n + 1, .cons r t => .cons r (HasL.take n t)
theorem HasL.drop : ∀ {xs : List V} {ds : List D} (n : Nat), HasL K g xs ds → HasL K g (xs.drop n) (ds.drop n)
  | _, _, 0, r => r
  | _, _, _ + 1, .nil => .nil
  | _, _, n + 1, .cons _ t => HasL.drop n t
theorem HasL.set {v : V} {d : D} (r : Has K g v d) : ∀ {xs : List V} {ds : List D} (i : Nat), HasL K g xs ds → HasL K g (xs.set i v) (ds.set i d)
  | _, _, _, .nil => .nil
  | _, _, 0, .cons _ t => .cons r t
  | _, _, i + 1, .cons q t => .cons q (HasL.set r i t)
theorem HasL.one {v : V} {d : D} (h : Has K g v d) : HasL K g [v] [d] := .cons h .nil
theorem HasL.reverse : ∀ {xs : List V} {ds : List D}, HasL K g xs ds → HasL K g xs.reverse ds.reverse
  | _, _, .nil => .nil
  | _, _, .cons r t => by rw [List.reverse_cons, List.reverse_cons]; exact (HasL.reverse t).append (.one r)
end
/-- a dict keyed by nested tuples: its keys and values -/
def NT (K : PySem.W.Frag) (g : Gh) (ds : List (NestedKey × D)) (xs : NX) : Prop := Paired (fun (p : NestedKey × D) (q : NestedKey × Addr × Value) => p.1 = q.1 ∧ p.1.depth ≤ 8 ∧ Has K g (.ref q.2.1) (ofN p.1) ∧ ∃ v, RelV v q.2.2 ∧ Has K g v p.2) ds xs
theorem NT.sub {K : PySem.W.Frag} {g g' : Gh} {ds : List (NestedKey × D)} {xs : NX} (e : g.sub g') (h : NT K g ds xs) : NT K g' ds xs := Paired.mapP h fun _ _ ⟨h1, h2, h3, v, h4, h5⟩ => ⟨h1, h2, h3.sub e, v, h4, h5.sub e⟩
/-- what may change -/
inductive MO where
  | lst (xs : List D) | dct (kvs : List (Key × D)) | ins (C : Addr) (fs : List (Str × D)) | dcT (kvs : List (List Key × D)) | dcN (P : Program) (w : World) (kvs : List (NestedKey × D))
abbrev Mp := Addr → Option MO
def MOk (K : PySem.W.Frag) (g : Gh) (H : Hp) (a : Addr) : MO → Prop
  | .lst ds => ∃ vs, H a = some (.lst vs) ∧ HasL K g vs ds
  | .dct ds => ∃ kvs, H a = some (.dK kvs) ∧ ds.map (·.1) = kvs.map (·.1) ∧ HasL K g (kvs.map (·.2)) (ds.map (·.2))
  | .dcT ds => ∃ kvs, H a = some (.dT kvs) ∧ ds.map (·.1) = kvs.map (·.1) ∧ HasL K g (kvs.map (·.2)) (ds.map (·.2))
  | .dcN P w ds => ∃ xs, H a = some (dnO P w a xs) ∧ NT K g ds xs
  | .ins C fs => ∃ dx fvs, H a = some (.ins C dx fvs) ∧ g.Hs dx = some (.own a) ∧ fs.map (·.1) = fvs.map (·.1) ∧ HasL K g (fvs.map (·.2)) (fs.map (·.2))
def mupd (M : Mp) (a : Addr) (o : Option MO) : Mp := fun b => if b = a then o else M b
theorem mupd_same {M : Mp} {a : Addr} {o : Option MO} : mupd M a o a = o := if_pos rfl
theorem mupd_ne {M : Mp} {a b : Addr} {o : Option MO} (h : b ≠ a) : mupd M a o b = M b := if_neg h
theorem mupd_mupd {M : Mp} {a : Addr} {o u : Option MO} : mupd (mupd M a o) a u = mupd M a u := by
  funext b; unfold mupd; split <;> rfl
theorem mupd_self {M : Mp} {a : Addr} {o : Option MO} (h : M a = o) : mupd M a o = M := by
  funext b; unfold mupd; split
  · rename_i e; rw [e]; exact h.symm
  · rfl
theorem mupd_back {M : Mp} {a : Addr} {o : Option MO} (h : M a = none) : mupd (mupd M a o) a none = M := by rw [mupd_mupd, mupd_self h]
/-- no tuple -/
def Nt : HO → Prop
  | .tup _ => False
  | _ => True
theorem Nt.of {o : HO} (h : Mut (some o)) : Nt o := by cases o <;> first | trivial | exact h
/-- the heap is what is told of it -/
structure WR (K : PySem.W.Frag) (g : Gh) (M : Mp) (H : Hp) : Prop where
  sub : Same g.Hs H
  frm : ∀ a o, g.F a = some o → H a = some o ∧ g.Hs a = none ∧ Nt o
  muts : ∀ a mo, M a = some mo → g.Hs a = none ∧ g.F a = none ∧ MOk K g H a mo
  bag : ∀ B, g.bg = some B → BagOk H B ∧ g.Hs B.b = none ∧ g.F B.b = none ∧ M B.b = none ∧ g.Hs B.L = some (.lst (B.cs.map V.int))
section
variable {K : PySem.W.Frag} {g g' : Gh} {M : Mp} {H : Hp} {a p : Addr} {o : HO} {mo : MO}
theorem MOk.same {H' : Hp} (e : ∀ u, H a = some u → H' a = some u) (h : MOk K g H a mo) : MOk K g H' a mo := by
  cases mo with
  | lst ds => obtain ⟨vs, h1, h2⟩ := h; exact ⟨vs, e _ h1, h2⟩
  | dct ds => obtain ⟨vs, h1, h2⟩ := h; exact ⟨vs, e _ h1, h2⟩
  | dcT ds => obtain ⟨vs, h1, h2⟩ := h; exact ⟨vs, e _ h1, h2⟩
  | ins C fs => obtain ⟨dx, fv, h1, h2⟩ := h; exact ⟨dx, fv, e _ h1, h2⟩
  | dcN P w ds => obtain ⟨xs, h1, h2⟩ := h; exact ⟨xs, e _ h1, h2⟩
theorem MOk.some (h : MOk K g H a mo) : H a ≠ none := by
  cases mo with
  | lst ds => obtain ⟨vs, h1, h2⟩ := h; rw [h1]; exact fun z => nomatch z
  | dct ds => obtain ⟨vs, h1, h2⟩ := h; rw [h1]; exact fun z => nomatch z
  | dcT ds => obtain ⟨vs, h1, h2⟩ := h; rw [h1]; exact fun z => nomatch z
  | ins C fs => obtain ⟨dx, fv, h1, h2⟩ := h; rw [h1]; exact fun z => nomatch z
  | dcN P w ds => obtain ⟨xs, h1, h2⟩ := h; rw [h1]; exact fun z => nomatch z
theorem MOk.muts (h : MOk K g H a mo) : Mut (H a) := by
  cases mo with
  | lst ds => obtain ⟨vs, h1, h2⟩ := h; rw [h1]; trivial
  | dct ds => obtain ⟨vs, h1, h2⟩ := h; rw [h1]; trivial
  | dcT ds => obtain ⟨vs, h1, h2⟩ := h; rw [h1]; trivial
  | ins C fs => obtain ⟨dx, fv, h1, h2⟩ := h; rw [h1]; trivial
  | dcN P w ds => obtain ⟨xs, h1, h2⟩ := h; rw [h1]; trivial
theorem MOk.sub (e : g.sub g') (h : MOk K g H a mo) : MOk K g' H a mo := by
  cases mo with
  | lst ds => obtain ⟨vs, h1, h2⟩ := h; exact ⟨vs, h1, h2.sub e⟩
  | dct ds => obtain ⟨vs, h1, h3, h2⟩ := h; exact ⟨vs, h1, h3, h2.sub e⟩
  | dcT ds => obtain ⟨vs, h1, h3, h2⟩ := h; exact ⟨vs, h1, h3, h2.sub e⟩
  | ins C fs => obtain ⟨dx, fv, h1, h3, h5, h2⟩ := h; exact ⟨dx, fv, h1, e.hs _ _ h3, h5, h2.sub e⟩
  | dcN P w ds => obtain ⟨xs, h1, h2⟩ := h; exact ⟨xs, h1, h2.sub e⟩
theorem MOk.le (e : g.le g') (h : MOk K g H a mo) : MOk K g' H a mo := h.sub e.sub
theorem WR.mt (w : WR K g M H) (h : M a = some mo) : MOk K g H a mo := (w.muts a mo h).2.2
theorem WR.mtn (w : WR K g M H) (hp : H p = none) : M p = none := by
  cases q : M p with
  | none => rfl
  | some mo => exact absurd hp (w.mt q).some
theorem WR.hsn (w : WR K g M H) (hp : H p = none) : g.Hs p = none := by
  cases q : g.Hs p with
  | none => rfl
  | some o => rw [w.sub _ _ q] at hp; cases hp
theorem WR.frn (w : WR K g M H) (hp : H p = none) : g.F p = none := by
  cases q : g.F p with
  | none => rfl
  | some o => rw [(w.frm _ _ q).1] at hp; cases hp
theorem WR.nbag (w : WR K g M H) (hp : H p = none) {B : BI} (h : g.bg = some B) : p ≠ B.b := fun e => (w.bag B h).1.some (e ▸ hp)
/-- with one more shared object -/
def Gh.add (g : Gh) (p : Addr) (o : HO) : Gh := ⟨upd g.Hs p o, g.F, g.bg⟩
theorem Gh.le_add (h : g.Hs p = none) : g.le (g.add p o) := ⟨same_new h, rfl, fun _ e => e⟩
theorem Gh.add_same : (g.add p o).Hs p = some o := upd_same
theorem Gh.add_ne (h : a ≠ p) : (g.add p o).Hs a = g.Hs a := upd_ne h
/-- with one more object in the frame -/
def Gh.fr (g : Gh) (p : Addr) (o : HO) : Gh := ⟨g.Hs, upd g.F p o, g.bg⟩
theorem Gh.sub_fr : g.sub (g.fr p o) := ⟨Same.refl _, fun _ e => e⟩
theorem BagOk.at {B : BI} {H' : Hp} (e : ∀ u, H B.b = some u → H' B.b = some u) (e2 : ∀ u, H B.L = some u → H' B.L = some u) (h : BagOk H B) : BagOk H' B := by
  obtain ⟨x, y, z, h⟩ := h
  exact ⟨x, y, z, e _ h.at_, e2 _ h.cells, h.x0, h.z0, h.c0⟩
/-- what is known grows by an object p that is none of the told ones (new, or let go), shared -/
theorem WR.share {H' : Hp} (w : WR K g M H) (hs : g.Hs p = none) (hf : g.F p = none) (hm : M p = none) (hb : ∀ B, g.bg = some B → p ≠ B.b) (h' : H' p = some o)
    (hk : ∀ a u, a ≠ p → H a = some u → H' a = some u) : WR K (g.add p o) M H' := by
  have e := Gh.le_add (o := o) hs
  refine ⟨fun a u h => ?_, fun a u h => ?_, fun a mo h => ?_, fun B h => ?_⟩
  · by_cases q : a = p
    · subst q
      rw [Gh.add_same] at h
      rw [h', h]
    · rw [Gh.add_ne q] at h
      exact hk _ _ q (w.sub _ _ h)
  · obtain ⟨h1, h2⟩ := w.frm a u h
    have q : a ≠ p := fun q => by subst q; rw [show g.F a = some u from h] at hf; cases hf
    exact ⟨hk _ _ q h1, by rw [Gh.add_ne q]; exact h2⟩
  · obtain ⟨h1, h2, h3⟩ := w.muts a mo h
    have q : a ≠ p := fun q => by subst q; rw [h] at hm; cases hm
    exact ⟨by rw [Gh.add_ne q]; exact h1, h2, (h3.same fun u hu => hk _ _ q hu).le e⟩
  · obtain ⟨h1, h2, h3, h4, h5⟩ := w.bag B h
    have q : B.b ≠ p := Ne.symm (hb B h)
    have q2 : B.L ≠ p := fun q => by rw [← q, h5] at hs; cases hs
    exact ⟨BagOk.at (fun u => hk _ _ q) (fun u => hk _ _ q2) h1, by rw [Gh.add_ne q]; exact h2, h3, h4, by rw [Gh.add_ne q2]; exact h5⟩
/-- a new object, shared -/
theorem WR.new (w : WR K g M H) (hp : H p = none) : WR K (g.add p o) M (upd H p o) :=
  w.share (w.hsn hp) (w.frn hp) (w.mtn hp) (fun B h => w.nbag hp h) upd_same fun a u _ h => by rw [upd_ne (ne_of_none h hp)]; exact h
/-- .. in the frame -/
theorem WR.frame {H' : Hp} (w : WR K g M H) (hs : g.Hs p = none) (hf : g.F p = none) (hm : M p = none) (hb : ∀ B, g.bg = some B → p ≠ B.b) (h' : H' p = some o)
    (hk : ∀ a u, a ≠ p → H a = some u → H' a = some u) (ht : Nt o := by trivial) : WR K (g.fr p o) M H' := by
  have e : g.sub (g.fr p o) := Gh.sub_fr
  have sq : ∀ a u, g.Hs a = some u → a ≠ p := fun a u h q => by subst q; rw [h] at hs; cases hs
  refine ⟨fun a u h => hk _ _ (sq a u h) (w.sub _ _ h), fun a u h => ?_, fun a mo h => ?_, fun B h => ?_⟩
  · by_cases q : a = p
    · subst q
      rw [show (g.fr a o).F a = some o from upd_same] at h
      exact ⟨by rw [h', h], hs, by cases h; exact ht⟩
    · rw [show (g.fr p o).F a = g.F a from upd_ne q] at h
      obtain ⟨h1, h2⟩ := w.frm a u h
      exact ⟨hk _ _ q h1, h2⟩
  · obtain ⟨h1, h2, h3⟩ := w.muts a mo h
    have q : a ≠ p := fun q => by subst q; rw [h] at hm; cases hm
    exact ⟨h1, by rw [show (g.fr p o).F a = g.F a from upd_ne q]; exact h2, (h3.same fun u hu => hk _ _ q hu).sub e⟩
  · obtain ⟨h1, h2, h3, h4, h5⟩ := w.bag B h
    have q : B.b ≠ p := Ne.symm (hb B h)
    exact ⟨BagOk.at (fun u => hk _ _ q) (fun u => hk _ _ (sq _ _ h5)) h1, h2, by rw [show (g.fr p o).F B.b = g.F B.b from upd_ne q]; exact h3, h4, h5⟩
/-- .. to be changed -/
theorem WR.open' {H' : Hp} (w : WR K g M H) (hs : g.Hs p = none) (hf : g.F p = none) (hb : ∀ B, g.bg = some B → p ≠ B.b) (h' : MOk K g H' p mo)
    (hk : ∀ a u, a ≠ p → H a = some u → H' a = some u) : WR K g (mupd M p (some mo)) H' := by
  have sq : ∀ a u, g.Hs a = some u → a ≠ p := fun a u h q => by subst q; rw [h] at hs; cases hs
  refine ⟨fun a u h => hk _ _ (sq a u h) (w.sub _ _ h), fun a u h => ?_, fun a mo' h => ?_, fun B h => ?_⟩
  · obtain ⟨h1, h2⟩ := w.frm a u h
    have q : a ≠ p := fun q => by subst q; rw [h] at hf; cases hf
    exact ⟨hk _ _ q h1, h2⟩
  · by_cases q : a = p
    · subst q
      rw [mupd_same] at h
      cases h
      exact ⟨hs, hf, h'⟩
    · rw [mupd_ne q] at h
      obtain ⟨h1, h2, h3⟩ := w.muts a mo' h
      exact ⟨h1, h2, h3.same fun u hu => hk _ _ q hu⟩
  · obtain ⟨h1, h2, h3, h4, h5⟩ := w.bag B h
    have q : B.b ≠ p := Ne.symm (hb B h)
    exact ⟨BagOk.at (fun u => hk _ _ q) (fun u => hk _ _ (sq _ _ h5)) h1, h2, h3, by rw [mupd_ne q]; exact h4, h5⟩
/-- an object of M is changed -/
theorem WR.put (w : WR K g M H) {mo' : MO} {o : HO} (h : M p = some mo) (h' : MOk K g (upd H p o) p mo') : WR K g (mupd M p (some mo')) (upd H p o) := by
  obtain ⟨h1, h2, h3⟩ := w.muts p mo h
  refine w.open' h1 h2 (fun B hB e => ?_) h' fun a u q hu => by rw [upd_ne q]; exact hu
  obtain ⟨_, _, _, h4, _⟩ := w.bag B hB
  rw [e, h4] at h
  cases h
/-- an object of M is let go -/
theorem WR.drop (w : WR K g M H) : WR K g (mupd M p none) H := by
  refine ⟨w.sub, w.frm, fun a mo h => ?_, fun B h => ?_⟩
  · by_cases q : a = p
    · subst q
      rw [mupd_same] at h
      cases h
    · rw [mupd_ne q] at h
      exact w.muts a mo h
  · obtain ⟨h1, h2, h3, h4, h5⟩ := w.bag B h
    refine ⟨h1, h2, h3, ?_, h5⟩
    unfold mupd
    split
    · rfl
    · exact h4
/-- a list of M is shared from here on -/
theorem WR.freeze (w : WR K g M H) (h : M p = some mo) (ho : H p = some o) : WR K (g.add p o) (mupd M p none) H := by
  obtain ⟨h1, h2, h3⟩ := w.muts p mo h
  refine w.drop.share h1 h2 mupd_same (fun B hB e => ?_) ho fun a u _ h => h
  obtain ⟨_, _, _, h4, _⟩ := w.bag B hB
  rw [e, h4] at h
  cases h
/-- the frame's object p is let go -/
theorem WR.unframe {F : Hp} (w : WR K g M H) (hF : g.F = upd F p o) (h0 : F p = none) : WR K ⟨g.Hs, F, g.bg⟩ M H := by
  have e : g.sub ⟨g.Hs, F, g.bg⟩ := ⟨Same.refl _, fun _ e => e⟩
  have fn : ∀ a, g.F a = none → F a = none := fun a q => by
    rw [hF] at q
    by_cases h : a = p
    · rw [h, upd_same] at q; cases q
    · rwa [upd_ne h] at q
  refine ⟨w.sub, fun a u q => w.frm a u ?_, fun a mo h => ?_, fun B h => ?_⟩
  · rw [hF, upd_ne (ne_of_none q h0)]
    exact q
  · obtain ⟨h1, h2, h3⟩ := w.muts a mo h
    exact ⟨h1, fn _ h2, h3.sub e⟩
  · obtain ⟨h1, h2, h3, h4, h5⟩ := w.bag B h
    exact ⟨h1, h2, fn _ h3, h4, h5⟩
end
end Q
set_option Elab.async false
set_option linter.all false
set_option maxRecDepth 100000
set_option maxHeartbeats 4000000
namespace Q
open PySem PySem.Spec PyProof.Rows L2 My
/-- the plain state: the names by slot, what may change -/
structure Z where
  ρ : List (Option D)
  M : Mp
structure SlOk (K : PySem.W.Frag) (g : Gh) (σ : L2.St) (ρ : List (Option D)) : Prop where
  len : σ.length = ρ.length
  get : ∀ (i : Nat) (d : D), ρ[i]? = some (some d) → ∃ v, σ[i]? = some (some v) ∧ Has K g v d
structure RR (K : PySem.W.Frag) (g : Gh) (z : Z) (σ : L2.St) (H : Hp) : Prop where
  wr : WR K g z.M H
  sl : SlOk K g σ z.ρ
section
variable {K : PySem.W.Frag} {g g' : Gh} {σ : L2.St} {ρ : List (Option D)} {z : Z} {H H' : Hp}
theorem SlOk.sub (s : SlOk K g σ ρ) (e : g.sub g') : SlOk K g' σ ρ := ⟨s.len, fun i d h => let ⟨v, h1, h2⟩ := s.get i d h; ⟨v, h1, h2.sub e⟩⟩
theorem SlOk.le (s : SlOk K g σ ρ) (e : g.le g') : SlOk K g' σ ρ := s.sub e.sub
theorem SlOk.set (s : SlOk K g σ ρ) {v : V} {d : D} (h : Has K g v d) (i : Nat) : SlOk K g (σ.set i (some v)) (ρ.set i (some d)) := by
  refine ⟨by simp [s.len], fun j e h' => ?_⟩
  by_cases q : i = j
  · subst q
    have hl : i < ρ.length := by
      have := List.getElem?_eq_some_iff.mp h'
      simpa using this.1
    rw [List.getElem?_set_self hl] at h'
    cases h'
    exact ⟨v, by rw [List.getElem?_set_self (by rw [s.len]; exact hl)], h⟩
  · rw [List.getElem?_set_ne q] at h' ⊢
    exact s.get j e h'
theorem SlOk.ini {N : List Str} {vs : List V} {ds : List D} (h : HasL K g vs ds) : SlOk K g (L2.start N vs) (ds.map some ++ List.replicate (N.length - ds.length) none) := by
  have hl := h.length
  refine ⟨by unfold L2.start; simp [hl], fun i d q => ?_⟩
  by_cases hi : i < ds.length
  · rw [List.getElem?_append_left (by simpa using hi), List.getElem?_map] at q
    obtain ⟨e, h1, h2⟩ := Option.map_eq_some_iff.mp q
    cases h2
    obtain ⟨v, h3, h4⟩ := h.get' h1
    refine ⟨v, ?_, h4⟩
    unfold L2.start
    rw [List.getElem?_append_left (by simpa [hl] using hi), List.getElem?_map, h3]
    rfl
  · rw [List.getElem?_append_right (by simpa using hi), List.getElem?_replicate] at q
    split at q <;> cases q
end
/-- the block's own names forgotten -/
def wipeD (ρ : List (Option D)) : List Nat → List (Option D)
  | [] => ρ
  | v :: vs => (wipeD ρ vs).set v none
theorem SlOk.wipe {K : PySem.W.Frag} {g : Gh} {σ : L2.St} {ρ : List (Option D)} (s : SlOk K g σ ρ) : ∀ vs, SlOk K g (L2.wipe σ vs) (wipeD ρ vs)
  | [] => s
  | v :: vs => by
    have ih := SlOk.wipe s vs
    refine ⟨by unfold L2.wipe wipeD; simp [ih.len], fun i d h => ?_⟩
    unfold wipeD at h
    unfold L2.wipe
    by_cases q : v = i
    · subst q
      by_cases hv : v < (wipeD ρ vs).length
      · rw [List.getElem?_set_self hv] at h; cases h
      · rw [List.getElem?_eq_none (by simpa using hv)] at h; cases h
    · rw [List.getElem?_set_ne q] at h ⊢
      exact ih.get i d h
abbrev KE := D → Z → Prop
abbrev WE := Z → KE → Prop
abbrev WT := Z → (Bool → Z → Prop) → Prop
abbrev WA := Z → (List D → Z → Prop) → Prop
def MonoE (w : WE) : Prop := ∀ z Q Q', (∀ d z', Q d z' → Q' d z') → w z Q → w z Q'
def MonoT (w : WT) : Prop := ∀ z Q Q', (∀ d z', Q d z' → Q' d z') → w z Q → w z Q'
def MonoA (w : WA) : Prop := ∀ z Q Q', (∀ d z', Q d z' → Q' d z') → w z Q → w z Q'
def upE (K : PySem.W.Frag) (g0 : Gh) (w : WE) : TE := fun σ H Q => ∃ g z, g0.le g ∧ RR K g z σ H ∧ w z fun d z' => ∀ v g' H', g.le g' → RR K g' z' σ H' → Has K g' v d → Q v H'
def upT (K : PySem.W.Frag) (g0 : Gh) (w : WT) : TT := fun σ H Q => ∃ g z, g0.le g ∧ RR K g z σ H ∧ w z fun b z' => ∀ g' H', g.le g' → RR K g' z' σ H' → Q b H'
def upA (K : PySem.W.Frag) (g0 : Gh) (w : WA) : TA := fun σ H Q => ∃ g z, g0.le g ∧ RR K g z σ H ∧ w z fun ds z' => ∀ vs g' H', g.le g' → RR K g' z' σ H' → HasL K g' vs ds → Q vs H'
structure QE (X : Cx) (g0 : Gh) (e : Expr) (w : WE) : Prop where
  mono : MonoE w
  run : PE X e (upE X.K g0 w)
structure QT (X : Cx) (g0 : Gh) (e : Expr) (w : WT) : Prop where
  mono : MonoT w
  run : PT X e (upT X.K g0 w)
structure QW (X : Cx) (g0 : Gh) (e : Expr) (w : WT) : Prop where
  mono : MonoT w
  run : PW X e (upT X.K g0 w)
structure QA (X : Cx) (g0 : Gh) (es : List Expr) (w : WA) : Prop where
  mono : MonoA w
  run : PA X es (upA X.K g0 w)
theorem QW.qt {X : Cx} {g0 : Gh} {e : Expr} {w : WT} (h : QW X g0 e w) : QT X g0 e w := ⟨h.mono, h.run.pt⟩
theorem _root_.L2.PE.imp {X : Cx} {e : Expr} {t t' : TE} (h : PE X e t) (k : ∀ σ H Q, t' σ H Q → t σ H Q) : PE X e t' := ⟨fun pins s σ H Q I w => h.run pins s σ H Q I (k σ H Q w)⟩
theorem _root_.L2.PT.imp {X : Cx} {e : Expr} {t t' : TT} (h : PT X e t) (k : ∀ σ H Q, t' σ H Q → t σ H Q) : PT X e t' := ⟨fun pins s σ H Q I w => h.run pins s σ H Q I (k σ H Q w)⟩
theorem _root_.L2.PW.imp {X : Cx} {e : Expr} {t t' : TT} (h : PW X e t) (k : ∀ σ H Q, t' σ H Q → t σ H Q) : PW X e t' := ⟨fun wh pins s σ H Q I w => h.run wh pins s σ H Q I (k σ H Q w)⟩
theorem _root_.L2.PA.imp {X : Cx} {e : List Expr} {t t' : TA} (h : PA X e t) (k : ∀ σ H Q, t' σ H Q → t σ H Q) : PA X e t' := ⟨fun po pins s σ H Q I w => h.run po pins s σ H Q I (k σ H Q w)⟩
theorem _root_.L2.PS.imp {X : Cx} {e : Stmt} {t t' : TS} (h : PS X e t) (k : ∀ D σ H, t' D σ H → t D σ H) : PS X e t' := ⟨fun pins s σ H D I w => h.run pins s σ H D I (k D σ H w)⟩
theorem _root_.L2.PSs.imp {X : Cx} {e : List Stmt} {t t' : TS} (h : PSs X e t) (k : ∀ D σ H, t' D σ H → t D σ H) : PSs X e t' := ⟨fun pins s σ H D I w => h.run pins s σ H D I (k D σ H w)⟩
theorem _root_.L2.PG.imp {X : Cx} {e : Expr} {t t' : TG} (h : PG X e t) (k : ∀ v σ H Q, t' v σ H Q → t v σ H Q) : PG X e t' := ⟨fun pins s σ H v u Q I r w => h.run pins s σ H v u Q I r (k v σ H Q w)⟩
theorem _root_.L2.PI.imp {X : Cx} {tg e : Expr} {t t' : TI} (h : PI X tg e t) (k : ∀ σ H Q, t' σ H Q → t σ H Q) : PI X tg e t' := ⟨fun pins s σ H Q I w => h.run pins s σ H Q I (k σ H Q w)⟩
abbrev KD := D → Mp → Prop
def lk (K : PySem.W.Frag) (g : Gh) (Q : VK) : KD := fun d M' => ∀ v g' H', g.le g' → WR K g' M' H' → Has K g' v d → Q v H'
section
variable {K : PySem.W.Frag} {g : Gh} {M : Mp} {H : Hp} {Q : VK} {d : D} {v : V} {p : Addr} {o : HO}
theorem lk_at (q : lk K g Q d M) (w : WR K g M H) (h : Has K g v d) : Q v H := q v g H (.refl g) w h
theorem lk_new (q : lk K g Q d M) (w : WR K g M H) (hp : H p = none) (h : Has K (g.add p o) (.ref p) d) : Q (.ref p) (upd H p o) := q _ _ _ (Gh.le_add (w.hsn hp)) (w.new hp) h
theorem has_lst {vs : List V} {ds : List D} (h : HasL K g vs ds) (hp : g.Hs p = none) : Has K (g.add p (.lst vs)) (.ref p) (.lst ds) := .lst Gh.add_same (h.le (Gh.le_add hp))
theorem has_tup {vs : List V} {ds : List D} (h : HasL K g vs ds) (hp : g.Hs p = none) : Has K (g.add p (.tup vs)) (.ref p) (.tup ds) := .tup Gh.add_same (h.le (Gh.le_add hp))
end
/-- an operation of values, read over data -/
structure LfN (K : PySem.W.Frag) (r : List V → Hp → VK → Prop) (rd : List D → Mp → KD → Prop) : Prop where
  mono : ∀ ds M Q Q', (∀ d M', Q d M' → Q' d M') → rd ds M Q → rd ds M Q'
  run : ∀ g M H vs ds Q, WR K g M H → HasL K g vs ds → rd ds M (lk K g Q) → r vs H Q
structure Lf2 (K : PySem.W.Frag) (r : R2) (rd : D → D → Mp → KD → Prop) : Prop where
  mono : ∀ x y M Q Q', (∀ d M', Q d M' → Q' d M') → rd x y M Q → rd x y M Q'
  run : ∀ g M H v u x y Q, WR K g M H → Has K g v x → Has K g u y → rd x y M (lk K g Q) → r v u H Q
structure Lf1 (K : PySem.W.Frag) (r : V → Hp → VK → Prop) (rd : D → Mp → KD → Prop) : Prop where
  mono : ∀ x M Q Q', (∀ d M', Q d M' → Q' d M') → rd x M Q → rd x M Q'
  run : ∀ g M H v x Q, WR K g M H → Has K g v x → rd x M (lk K g Q) → r v H Q
section
variable {X : Cx} {g0 : Gh} {a b c : Expr} {wa wb wc : WE} {pos : Pos}
theorem RR.le {K : PySem.W.Frag} {g g' : Gh} {z : Z} {σ : L2.St} {H H' : Hp} {M' : Mp} (r : RR K g z σ H) (e : g.le g') (w : WR K g' M' H') : RR K g' ⟨z.ρ, M'⟩ σ H' := ⟨w, r.sl.le e⟩
def wVar (i : Nat) : WE := fun z Q => ∃ d, z.ρ[i]? = some (some d) ∧ Q d z
def wC (d : D) : WE := fun z Q => Q d z
theorem qv (i : Nat) {x : Str} {pos : Pos} (hN : X.N[i]? = some x := by rfl) (hv : Vis X.env.scope x := by first | exact Or.inl rfl | exact Or.inr (Or.inl rfl) | exact Or.inr (Or.inr rfl)) (hd : (x == ("__debug__" : Str)) = false := by decide)
    (hcd : (x == ("__classdict__" : Str)) = false := by decide) : QE X g0 (.Name x pos) (wVar i) := by
  refine ⟨fun z Q Q' k ⟨d, h1, h2⟩ => ⟨d, h1, k _ _ h2⟩, (pe_var hN hv hd hcd).imp fun σ H Q ⟨g, z, l0, r, d, h1, h2⟩ => ?_⟩
  obtain ⟨v, h3, h4⟩ := r.sl.get i d h1
  exact ⟨v, h3, h2 v g H (.refl g) r h4⟩
theorem qe_const {e : Expr} {v : V} {d : D} (h : PE X e (tC v)) (hd : ∀ g, Has X.K g v d) : QE X g0 e (wC d) :=
  ⟨fun z Q Q' k h => k _ _ h, h.imp fun σ H Q ⟨g, z, l0, r, h⟩ => h v g H (.refl g) r (hd g)⟩
theorem qe_int {i j pos} : QE X g0 (.Constant (.int i) j pos) (wC (.int i)) := qe_const pe_int fun _ => .int i
theorem qe_bl {b j pos} : QE X g0 (.Constant (.bool b) j pos) (wC (.bl b)) := qe_const pe_bl fun _ => .bl b
theorem qe_non {j pos} : QE X g0 (.Constant .none j pos) (wC .non) := qe_const pe_non fun _ => .non
theorem qe_str {x j pos} : QE X g0 (.Constant (.str x) j pos) (wC (.str x)) := qe_const pe_str fun _ => .str x
theorem qe_ty {x : Str} {n : String} {pos : Pos} (hm : X.mg x = none) (hg : Gl X x := by rfl) (hv : bootBuiltins x = some (.type n) := by decide +kernel) (hn : x ≠ "__name__" := by decide) (hd : (x == ("__debug__" : Str)) = false := by decide) : QE X g0 (.Name x pos) (wC (.ty n)) :=
  qe_const (pe_bltn hg hm hv (v := .ty n) rfl hn hd) fun _ => .ty n
theorem qe_glob {x : Str} {v : V} {u : Value} {d : D} {pos : Pos} (hm : X.mg x = some u) (r : RelV v u) (h : ∀ g, Has X.K g v d) (hg : Gl X x := by rfl) (hd : (x == ("__debug__" : Str)) = false := by decide) : QE X g0 (.Name x pos) (wC d) :=
  qe_const (pe_glob hg hm r hd) h
def wOp (rd : D → D → Mp → KD → Prop) (wa wb : WE) : WE := fun z Q => wa z fun x z1 => wb z1 fun y z2 => rd x y z2.M fun d M => Q d ⟨z2.ρ, M⟩
theorem wOp.mono {r : R2} {rd : D → D → Mp → KD → Prop} {K : PySem.W.Frag} (l : Lf2 K r rd) (ha : MonoE wa) (hb : MonoE wb) : MonoE (wOp rd wa wb) := fun z Q Q' k h =>
  ha _ _ _ (fun x z1 h1 => hb _ _ _ (fun y z2 h2 => l.mono _ _ _ _ _ (fun d M q => k _ _ q) h2) h1) h
theorem wOp.up {r : R2} {rd : D → D → Mp → KD → Prop} {K : PySem.W.Frag} (l : Lf2 K r rd) (ha : MonoE wa) (hb : MonoE wb) {σ : L2.St} {H : Hp} {Q : VK} (h : upE K g0 (wOp rd wa wb) σ H Q) : tOp r (upE K g0 wa) (upE K g0 wb) σ H Q := by
  obtain ⟨g, z, l0, rr, h⟩ := h
  refine ⟨g, z, l0, rr, ha _ _ _ (fun x z1 h1 v g1 H1 e1 r1 a1 => ⟨g1, z1, l0.trans e1, r1, hb _ _ _ (fun y z2 h2 u g2 H2 e2 r2 a2 => ?_) h1⟩) h⟩
  refine l.run g2 z2.M H2 v u x y Q r2.wr (a1.le e2) a2 (l.mono _ _ _ _ _ (fun d M q v' g3 H3 e3 w3 a3 => ?_) h2)
  exact q v' g3 H3 ((e1.trans e2).trans e3) (r2.le e3 w3) a3
theorem qe_op {op : Operator} {r : R2} {rd : D → D → Mp → KD → Prop} (ho : OpR X (binaryOp op) r) (l : Lf2 X.K r rd) (ha : QE X g0 a wa) (hb : QE X g0 b wb) : QE X g0 (.BinOp a op b pos) (wOp rd wa wb) :=
  ⟨wOp.mono l ha.mono hb.mono, (pe_op ho ha.run hb.run).imp fun σ H Q h => wOp.up l ha.mono hb.mono h⟩
theorem qe_cmp {op : CmpOp} {r : R2} {rd : D → D → Mp → KD → Prop} (ho : OpR X (compareOp op) r) (l : Lf2 X.K r rd) (ha : QE X g0 a wa) (hb : QE X g0 b wb) (hm : behindInMarks op b = false := by first | exact nomark _ | rfl) : QE X g0 (.Compare a [op] [b] pos) (wOp rd wa wb) :=
  ⟨wOp.mono l ha.mono hb.mono, (pe_cmpR ho ha.run hb.run hm).imp fun σ H Q h => wOp.up l ha.mono hb.mono h⟩
/-- a value that is True or False, as a test -/
def wB (w : WE) : WT := fun z Q => w z fun d z' => ∃ k, d = .bl k ∧ Q k z'
theorem wB.mono {w : WE} (h : MonoE w) : MonoT (wB w) := fun z Q Q' k hw => h _ _ _ (fun d z' ⟨b, e, q⟩ => ⟨b, e, k _ _ q⟩) hw
theorem has_bl {K : PySem.W.Frag} {g : Gh} {v : V} {b : Bool} (h : Has K g v (.bl b)) : v = .bl b := by cases h; rfl
theorem qt_cmp {op : CmpOp} {r : R2} {rd : D → D → Mp → KD → Prop} (ho : OpR X (compareOp op) r) (l : Lf2 X.K r rd) (ha : QE X g0 a wa) (hb : QE X g0 b wb) (hm : behindInMarks op b = false := by first | exact nomark _ | rfl) : QT X g0 (.Compare a [op] [b] pos) (wB (wOp rd wa wb)) := by
  refine ⟨wB.mono (wOp.mono l ha.mono hb.mono), (pt_cmpR ho ha.run hb.run hm).imp fun σ H Q ⟨g, z, l0, rr, h⟩ => ?_⟩
  refine wOp.up l ha.mono hb.mono ⟨g, z, l0, rr, wOp.mono l ha.mono hb.mono _ _ _ (fun d z' ⟨k, e, q⟩ v g' H' e' r' a' => ?_) h⟩
  subst e
  exact ⟨k, has_bl a', q g' H' e' r'⟩
theorem qt_val {w : WE} {e : Expr} (h : QE X g0 e w) (he : ∀ whole, isTrue e X.env whole = (do let v ← whole; standAt e.pos; holding [v] (truthy v)) := by intro _; rfl) : QT X g0 e (wB w) := by
  refine ⟨wB.mono h.mono, (pt_val h.run he).imp fun σ H Q ⟨g, z, l0, rr, q⟩ => ⟨g, z, l0, rr, h.mono _ _ _ (fun d z' ⟨k, e, q⟩ v g' H' e' r' a' => ?_) q⟩⟩
  subst e
  exact ⟨k, has_bl a', q g' H' e' r'⟩
def wChain (rd rd' : D → D → Mp → KD → Prop) (wa wb wc : WE) : WE := fun z Q => wa z fun x z1 => wb z1 fun y z2 => rd x y z2.M fun d M => ∃ k, d = .bl k ∧
  if k = true then wc ⟨z2.ρ, M⟩ fun u z3 => rd' y u z3.M fun d M => Q d ⟨z3.ρ, M⟩ else Q (.bl false) ⟨z2.ρ, M⟩
def wUn (rd : D → Mp → KD → Prop) (wa : WE) : WE := fun z Q => wa z fun x z1 => rd x z1.M fun d M => Q d ⟨z1.ρ, M⟩
theorem wUn.mono {r : V → Hp → VK → Prop} {rd : D → Mp → KD → Prop} {K : PySem.W.Frag} (l : Lf1 K r rd) (ha : MonoE wa) : MonoE (wUn rd wa) := fun z Q Q' k h =>
  ha _ _ _ (fun x z1 h1 => l.mono _ _ _ _ (fun d M q => k _ _ q) h1) h
theorem wUn.up {r : V → Hp → VK → Prop} {rd : D → Mp → KD → Prop} {K : PySem.W.Frag} (l : Lf1 K r rd) (ha : MonoE wa) {σ : L2.St} {H : Hp} {Q : VK} (h : upE K g0 (wUn rd wa) σ H Q) : upE K g0 wa σ H fun x H1 => r x H1 Q := by
  obtain ⟨g, z, l0, rr, h⟩ := h
  refine ⟨g, z, l0, rr, ha _ _ _ (fun x z1 h1 v g1 H1 e1 r1 a1 => ?_) h⟩
  exact l.run g1 z1.M H1 v x Q r1.wr a1 (l.mono _ _ _ _ (fun d M q v' g3 H3 e3 w3 a3 => q v' g3 H3 (e1.trans e3) (r1.le e3 w3) a3) h1)
theorem qe_un {op : UnaryOp} {r : V → Hp → VK → Prop} {rd : D → Mp → KD → Prop} (ho : UnR X (unaryOp op) r) (l : Lf1 X.K r rd) (ha : QE X g0 a wa) : QE X g0 (.UnaryOp op a pos) (wUn rd wa) :=
  ⟨wUn.mono l ha.mono, (pe_un ho ha.run).imp fun σ H Q h => wUn.up l ha.mono h⟩
def wNil : WA := fun z Q => Q [] z
def wCons (w : WE) (wr : WA) : WA := fun z Q => w z fun d z1 => wr z1 fun ds z2 => Q (d :: ds) z2
theorem qa_nil : QA X g0 [] wNil := ⟨fun z Q Q' k h => k _ _ h, pa_nil.imp fun σ H Q ⟨g, z, l0, r, h⟩ => h [] g H (.refl g) r .nil⟩
theorem wCons.mono {w : WE} {wr : WA} (ha : MonoE w) (hb : MonoA wr) : MonoA (wCons w wr) := fun z Q Q' k h => ha _ _ _ (fun d z1 h1 => hb _ _ _ (fun ds z2 h2 => k _ _ h2) h1) h
theorem qa_cons {e : Expr} {es : List Expr} {w : WE} {wr : WA} (ha : QE X g0 e w) (hr : QA X g0 es wr) (hs : starEach (e :: es) X.env = (false, eval e X.env) :: starEach es X.env := by rfl) : QA X g0 (e :: es) (wCons w wr) := by
  refine ⟨wCons.mono ha.mono hr.mono, (pa_cons ha.run hr.run hs).imp fun σ H Q ⟨g, z, l0, r, h⟩ => ?_⟩
  refine ⟨g, z, l0, r, ha.mono _ _ _ (fun x z1 h1 v g1 H1 e1 r1 a1 => ⟨g1, z1, l0.trans e1, r1, hr.mono _ _ _ (fun y z2 h2 u g2 H2 e2 r2 a2 => ?_) h1⟩) h⟩
  exact h2 _ g2 H2 (e1.trans e2) r2 (.cons (a1.le e2) a2)
/-- a call by values -/
def wN (rd : List D → Mp → KD → Prop) (w : WA) : WE := fun z Q => w z fun ds z1 => rd ds z1.M fun d M => Q d ⟨z1.ρ, M⟩
theorem wN.mono {r : List V → Hp → VK → Prop} {rd : List D → Mp → KD → Prop} {K : PySem.W.Frag} {w : WA} (l : LfN K r rd) (ha : MonoA w) : MonoE (wN rd w) := fun z Q Q' k h =>
  ha _ _ _ (fun x z1 h1 => l.mono _ _ _ _ (fun d M q => k _ _ q) h1) h
theorem wN.up {r : List V → Hp → VK → Prop} {rd : List D → Mp → KD → Prop} {K : PySem.W.Frag} {w : WA} (l : LfN K r rd) (ha : MonoA w) {σ : L2.St} {H : Hp} {Q : VK} (h : upE K g0 (wN rd w) σ H Q) : upA K g0 w σ H fun x H1 => r x H1 Q := by
  obtain ⟨g, z, l0, rr, h⟩ := h
  refine ⟨g, z, l0, rr, ha _ _ _ (fun x z1 h1 v g1 H1 e1 r1 a1 => ?_) h⟩
  exact l.run g1 z1.M H1 v x Q r1.wr a1 (l.mono _ _ _ _ (fun d M q v' g3 H3 e3 w3 a3 => q v' g3 H3 (e1.trans e3) (r1.le e3 w3) a3) h1)
theorem qe_callB {x : Str} {id : String} {e : Expr} {es : List Expr} {p : Pos} {w : WA} {r : List V → Hp → VK → Prop} {rd : List D → Mp → KD → Prop} (hc : CallR X (.builtin id) r) (l : LfN X.K r rd) (hm : X.mg x = none) (ha : QA X g0 (e :: es) w) (hg : Gl X x := by rfl) (hv : bootBuiltins x = some (.builtin id) := by decide +kernel)
    (hn : x ≠ "__name__" := by decide) (hdb : (x == ("__debug__" : Str)) = false := by decide)
    (he : starEach (e :: es) X.env = (false, eval e X.env) :: starEach es X.env := by rfl) (hpl : (backTo pos (starEach es X.env)).any (·.1) = false := by rfl) : QE X g0 (.Call (.Name x p) (e :: es) [] pos) (wN rd w) :=
  ⟨wN.mono l ha.mono, (pe_callB hc hg hm hv ha.run hn hdb he hpl).imp fun σ H Q h => wN.up l ha.mono h⟩
theorem qe_callTy {x : Str} {T : String} {e : Expr} {es : List Expr} {p : Pos} {w : WA} {r : List V → Hp → VK → Prop} {rd : List D → Mp → KD → Prop} (hc : CallR X (.type T) r) (l : LfN X.K r rd) (hm : X.mg x = none) (ha : QA X g0 (e :: es) w) (hg : Gl X x := by rfl) (hv : bootBuiltins x = some (.type T) := by decide +kernel)
    (hn : x ≠ "__name__" := by decide) (hdb : (x == ("__debug__" : Str)) = false := by decide)
    (he : starEach (e :: es) X.env = (false, eval e X.env) :: starEach es X.env := by rfl) (hpl : (backTo pos (starEach es X.env)).any (·.1) = false := by rfl) : QE X g0 (.Call (.Name x p) (e :: es) [] pos) (wN rd w) :=
  ⟨wN.mono l ha.mono, (pe_callTy hc hg hm hv ha.run hn hdb he hpl).imp fun σ H Q h => wN.up l ha.mono h⟩
def wTup (w : WA) : WE := fun z Q => w z fun ds z1 => ds.length ≤ sizeLine ∧ Q (.tup ds) z1
def wLst (w : WA) : WE := fun z Q => w z fun ds z1 => ds.length ≤ sizeLine ∧ Q (.lst ds) z1
theorem qe_tup {es : List Expr} {x1 : Nat} {w : WA} (ha : QA X g0 es w) : QE X g0 (.Tuple es x1 pos) (wTup w) := by
  refine ⟨fun z Q Q' k h => ha.mono _ _ _ (fun d z' h => ⟨h.1, k _ _ h.2⟩) h, (pe_tup ha.run).imp fun σ H Q ⟨g, z, l0, rr, h⟩ => ⟨g, z, l0, rr, ha.mono _ _ _ (fun ds z1 h1 vs g1 H1 e1 r1 a1 => ⟨a1.length ▸ h1.1, fun p hp => ?_⟩) h⟩⟩
  have le := Gh.le_add (o := .tup vs) (r1.wr.hsn hp)
  exact h1.2 _ _ _ (e1.trans le) (r1.le le (r1.wr.new hp)) (has_tup a1 (r1.wr.hsn hp))
theorem qe_lst {es : List Expr} {w : WA} (ha : QA X g0 es w) : QE X g0 (.List es pos) (wLst w) := by
  refine ⟨fun z Q Q' k h => ha.mono _ _ _ (fun d z' h => ⟨h.1, k _ _ h.2⟩) h, (pe_lst ha.run).imp fun σ H Q ⟨g, z, l0, rr, h⟩ => ⟨g, z, l0, rr, ha.mono _ _ _ (fun ds z1 h1 vs g1 H1 e1 r1 a1 => ⟨a1.length ▸ h1.1, fun p hp => ?_⟩) h⟩⟩
  have le := Gh.le_add (o := .lst vs) (r1.wr.hsn hp)
  exact h1.2 _ _ _ (e1.trans le) (r1.le le (r1.wr.new hp)) (has_lst a1 (r1.wr.hsn hp))
/-- a list that will be changed -/
def wLstM (w : WA) : WE := fun z Q => w z fun ds z1 => ds.length ≤ sizeLine ∧ ∀ p, z1.M p = none → Q (.ref p) ⟨z1.ρ, mupd z1.M p (some (.lst ds))⟩
theorem WR.newM {K : PySem.W.Frag} {g : Gh} {M : Mp} {H : Hp} {p : Addr} {vs : List V} {ds : List D} (w : WR K g M H) (hp : H p = none) (h : HasL K g vs ds) : WR K g (mupd M p (some (.lst ds))) (upd H p (.lst vs)) :=
  w.open' (w.hsn hp) (w.frn hp) (fun B hB => w.nbag hp hB) ⟨vs, upd_same, h⟩ fun a u q hu => by rw [upd_ne q]; exact hu
theorem qe_lstM {es : List Expr} {w : WA} (ha : QA X g0 es w) : QE X g0 (.List es pos) (wLstM w) := by
  refine ⟨fun z Q Q' k h => ha.mono _ _ _ (fun d z' h => ⟨h.1, fun p hp => k _ _ (h.2 p hp)⟩) h, (pe_lst ha.run).imp fun σ H Q ⟨g, z, l0, rr, h⟩ => ⟨g, z, l0, rr, ha.mono _ _ _ (fun ds z1 h1 vs g1 H1 e1 r1 a1 => ⟨a1.length ▸ h1.1, fun p hp => ?_⟩) h⟩⟩
  exact h1.2 p (r1.wr.mtn hp) _ _ _ e1 (r1.le (.refl _) (r1.wr.newM hp a1)) (.ref p)
def wFrz (i : Nat) : WE := fun z Q => ∃ a ds, z.ρ[i]? = some (some (.ref a)) ∧ z.M a = some (.lst ds) ∧ Q (.lst ds) ⟨z.ρ.set i (some (.lst ds)), mupd z.M a none⟩
theorem SlOk.re {K : PySem.W.Frag} {g : Gh} {σ : L2.St} {ρ : List (Option D)} (s : SlOk K g σ ρ) {i : Nat} {v : V} {d : D} (hv : σ[i]? = some (some v)) (h : Has K g v d) : SlOk K g σ (ρ.set i (some d)) := by
  have e := s.set h i
  have hl : i < σ.length := (List.getElem?_eq_some_iff.mp hv).1
  have : σ.set i (some v) = σ := by
    obtain ⟨h1, h2⟩ := List.getElem?_eq_some_iff.mp hv
    rw [← h2, List.set_getElem_self]
  rwa [this] at e
theorem qv_frz (i : Nat) {x : Str} {pos : Pos} (hN : X.N[i]? = some x := by rfl) (hv : Vis X.env.scope x := by first | exact Or.inl rfl | exact Or.inr (Or.inl rfl) | exact Or.inr (Or.inr rfl)) (hd : (x == ("__debug__" : Str)) = false := by decide)
    (hcd : (x == ("__classdict__" : Str)) = false := by decide) : QE X g0 (.Name x pos) (wFrz i) := by
  refine ⟨fun z Q Q' k ⟨a, ds, h1, h2, h3⟩ => ⟨a, ds, h1, h2, k _ _ h3⟩, (pe_var hN hv hd hcd).imp fun σ H Q ⟨g, z, l0, r, a, ds, h1, h2, h3⟩ => ?_⟩
  obtain ⟨v, h4, h5⟩ := r.sl.get i _ h1
  cases h5
  obtain ⟨vs, h6, h7⟩ := r.wr.mt h2
  have le := Gh.le_add (o := .lst vs) (r.wr.muts _ _ h2).1
  have hh : Has X.K (g.add a (.lst vs)) (.ref a) (.lst ds) := has_lst h7 (r.wr.muts _ _ h2).1
  exact ⟨_, h4, h3 (.ref a) (g.add a (.lst vs)) H le ⟨r.wr.freeze h2 h6, (r.sl.le le).re h4 hh⟩ hh⟩
end
end Q
set_option Elab.async false
set_option linter.all false
set_option maxRecDepth 100000
set_option maxHeartbeats 4000000
namespace Q
open PySem PySem.Spec PyProof.Rows L2 My
section
variable {X : Cx} {g0 : Gh} {a b c : Expr} {rest : List Expr} {wa wb wc : WE} {ta tb tc : WT} {pos : Pos}
def wAnd (t u : WT) : WT := fun z Q => t z fun k z1 => if k = true then u z1 Q else Q false z1
def wOr (t u : WT) : WT := fun z Q => t z fun k z1 => if k = true then Q true z1 else u z1 Q
def wNot (t : WT) : WT := fun z Q => t z fun k z1 => Q (!k) z1
theorem qw_and1 (ha : QT X g0 a ta) : QW X g0 (.BoolOp .And [a] pos) ta := ⟨ha.mono, pw_and1 ha.run⟩
theorem qw_or1 (ha : QT X g0 a ta) : QW X g0 (.BoolOp .Or [a] pos) ta := ⟨ha.mono, pw_or1 ha.run⟩
theorem wAnd.mono (ha : MonoT ta) (hb : MonoT tb) : MonoT (wAnd ta tb) := fun z Q Q' k h => ha _ _ _ (fun d z1 h1 => by
  cases d with
  | true => exact hb _ _ _ k h1
  | false => exact k _ _ h1) h
theorem wOr.mono (ha : MonoT ta) (hb : MonoT tb) : MonoT (wOr ta tb) := fun z Q Q' k h => ha _ _ _ (fun d z1 h1 => by
  cases d with
  | true => exact k _ _ h1
  | false => exact hb _ _ _ k h1) h
theorem qw_and (ha : QT X g0 a ta) (hb : QW X g0 (.BoolOp .And (b :: rest) pos) tb) : QW X g0 (.BoolOp .And (a :: b :: rest) pos) (wAnd ta tb) := by
  refine ⟨wAnd.mono ha.mono hb.mono, (pw_and ha.run hb.run).imp fun σ H Q ⟨g, z, l0, r, h⟩ => ⟨g, z, l0, r, ha.mono _ _ _ (fun d z1 h1 g1 H1 e1 r1 => ?_) h⟩⟩
  cases d with
  | true => exact ⟨g1, z1, l0.trans e1, r1, hb.mono _ _ _ (fun b z2 h2 g2 H2 e2 r2 => h2 g2 H2 (e1.trans e2) r2) h1⟩
  | false => exact h1 g1 H1 e1 r1
theorem qw_or (ha : QT X g0 a ta) (hb : QW X g0 (.BoolOp .Or (b :: rest) pos) tb) : QW X g0 (.BoolOp .Or (a :: b :: rest) pos) (wOr ta tb) := by
  refine ⟨wOr.mono ha.mono hb.mono, (pw_or ha.run hb.run).imp fun σ H Q ⟨g, z, l0, r, h⟩ => ⟨g, z, l0, r, ha.mono _ _ _ (fun d z1 h1 g1 H1 e1 r1 => ?_) h⟩⟩
  cases d with
  | true => exact h1 g1 H1 e1 r1
  | false => exact ⟨g1, z1, l0.trans e1, r1, hb.mono _ _ _ (fun b z2 h2 g2 H2 e2 r2 => h2 g2 H2 (e1.trans e2) r2) h1⟩
theorem qt_not (ha : QT X g0 a ta) : QT X g0 (.UnaryOp .Not a pos) (wNot ta) :=
  ⟨fun z Q Q' k h => ha.mono _ _ _ (fun d z1 h1 => k _ _ h1) h, (pt_not ha.run).imp fun σ H Q ⟨g, z, l0, r, h⟩ => ⟨g, z, l0, r, h⟩⟩
def wAndV (wa wb : WE) : WE := fun z Q => wa z fun d z1 => ∃ k, d = .bl k ∧ if k = true then wb z1 Q else Q (.bl false) z1
def wOrV (wa wb : WE) : WE := fun z Q => wa z fun d z1 => ∃ k, d = .bl k ∧ if k = true then Q (.bl true) z1 else wb z1 Q
def wNotV (wa : WE) : WE := fun z Q => wa z fun d z1 => ∃ k, d = .bl k ∧ Q (.bl (!k)) z1
theorem qe_one {op} (h : QE X g0 a wa) : QE X g0 (.BoolOp op [a] pos) wa := ⟨h.mono, pe_one h.run⟩
theorem qe_and (ha : QE X g0 a wa) (hb : QE X g0 (.BoolOp .And (b :: rest) pos) wb) : QE X g0 (.BoolOp .And (a :: b :: rest) pos) (wAndV wa wb) := by
  refine ⟨fun z Q Q' k h => ha.mono _ _ _ (fun d z1 ⟨c, e, h1⟩ => ⟨c, e, ?_⟩) h, (pe_and ha.run hb.run).imp fun σ H Q ⟨g, z, l0, r, h⟩ => ⟨g, z, l0, r, ha.mono _ _ _ (fun d z1 ⟨c, e, h1⟩ v g1 H1 e1 r1 a1 => ?_) h⟩⟩
  · cases c with
    | true => exact hb.mono _ _ _ k h1
    | false => exact k _ _ h1
  · subst e
    refine ⟨c, has_bl a1, ?_⟩
    cases c with
    | true => exact ⟨g1, z1, l0.trans e1, r1, hb.mono _ _ _ (fun b z2 h2 v g2 H2 e2 r2 => h2 v g2 H2 (e1.trans e2) r2) h1⟩
    | false => exact h1 (.bl false) g1 H1 e1 r1 (.bl false)
def wIf (t : WT) (wa wb : WE) : WE := fun z Q => t z fun k z1 => if k = true then wa z1 Q else wb z1 Q
theorem qe_if (ht : QT X g0 c tc) (ha : QE X g0 a wa) (hb : QE X g0 b wb) : QE X g0 (.IfExp c a b pos) (wIf tc wa wb) := by
  refine ⟨fun z Q Q' k h => ht.mono _ _ _ (fun d z1 h1 => ?_) h, (pe_ifExp ht.run ha.run hb.run).imp fun σ H Q ⟨g, z, l0, r, h⟩ => ⟨g, z, l0, r, ht.mono _ _ _ (fun d z1 h1 g1 H1 e1 r1 => ?_) h⟩⟩
  · cases d with
    | true => exact ha.mono _ _ _ k h1
    | false => exact hb.mono _ _ _ k h1
  · cases d with
    | true => exact ⟨g1, z1, l0.trans e1, r1, ha.mono _ _ _ (fun b z2 h2 v g2 H2 e2 r2 => h2 v g2 H2 (e1.trans e2) r2) h1⟩
    | false => exact ⟨g1, z1, l0.trans e1, r1, hb.mono _ _ _ (fun b z2 h2 v g2 H2 e2 r2 => h2 v g2 H2 (e1.trans e2) r2) h1⟩
/-- a < b < c -/
theorem qe_chain {op op' : CmpOp} {r r' : R2} {rd rd' : D → D → Mp → KD → Prop} (ho : OpR X (compareOp op) r) (l : Lf2 X.K r rd) (ho' : OpR X (compareOp op') r') (l' : Lf2 X.K r' rd') (ha : QE X g0 a wa) (hb : QE X g0 b wb) (hc : QE X g0 c wc)
    (hm : lastMarks [op, op'] [b, c] = false := by rfl) : QE X g0 (.Compare a [op, op'] [b, c] pos) (wChain rd rd' wa wb wc) := by
  refine ⟨fun z Q Q' k h => ha.mono _ _ _ (fun x z1 h1 => hb.mono _ _ _ (fun y z2 h2 => l.mono _ _ _ _ _ (fun d M ⟨c, e, h3⟩ => ⟨c, e, by
    cases c with
    | true => exact hc.mono _ _ _ (fun u z3 h4 => l'.mono _ _ _ _ _ (fun d M q => k _ _ q) h4) h3
    | false => exact k _ _ h3⟩) h2) h1) h, (pe_chain ho ho' ha.run hb.run hc.run hm).imp fun σ H Q ⟨g, z, l0, rr, h⟩ => ?_⟩
  · refine ⟨g, z, l0, rr, ha.mono _ _ _ (fun x z1 h1 v g1 H1 e1 r1 a1 => ⟨g1, z1, l0.trans e1, r1, hb.mono _ _ _ (fun y z2 h2 u g2 H2 e2 r2 a2 => ?_) h1⟩) h⟩
    refine l.run g2 z2.M H2 v u x y _ r2.wr (a1.le e2) a2 (l.mono _ _ _ _ _ (fun d M ⟨c, e, q⟩ v' g3 H3 e3 w3 a3 => ?_) h2)
    subst e
    refine ⟨c, has_bl a3, ?_⟩
    have r3 := r2.le e3 w3
    cases c with
    | true =>
      refine ⟨g3, _, ((l0.trans e1).trans e2).trans e3, r3, hc.mono _ _ _ (fun t z4 h4 w g4 H4 e4 r4 a4 => ?_) q⟩
      refine l'.run g4 z4.M H4 u w y t Q r4.wr ((a2.le e3).le e4) a4 (l'.mono _ _ _ _ _ (fun d M q v' g5 H5 e5 w5 a5 => ?_) h4)
      exact q v' g5 H5 ((((e1.trans e2).trans e3).trans e4).trans e5) (r4.le e5 w5) a5
    | false => exact q (.bl false) g3 H3 ((e1.trans e2).trans e3) r3 (.bl false)
end
structure En where
  nx : Z → Prop
  rt : KD
  bk : Z → Prop
  ct : Z → Prop
structure En.le (E E' : En) : Prop where
  nx : ∀ z, E.nx z → E'.nx z
  rt : ∀ d M, E.rt d M → E'.rt d M
  bk : ∀ z, E.bk z → E'.bk z
  ct : ∀ z, E.ct z → E'.ct z
theorem En.le.refl (E : En) : E.le E := ⟨fun _ h => h, fun _ _ h => h, fun _ h => h, fun _ h => h⟩
abbrev WS := En → Z → Prop
def MonoS (w : WS) : Prop := ∀ E E' z, E.le E' → w E z → w E' z
def lz (K : PySem.W.Frag) (g : Gh) (P : L2.St → Hp → Prop) : Z → Prop := fun z' => ∀ g' σ' H', g.le g' → RR K g' z' σ' H' → P σ' H'
def lf (K : PySem.W.Frag) (g : Gh) (D : Ends) : En := ⟨lz K g D.nx, lk K g D.rt, lz K g D.bk, lz K g D.ct⟩
theorem lz.le {K : PySem.W.Frag} {g g' : Gh} {P : L2.St → Hp → Prop} {z : Z} (e : g.le g') (h : lz K g P z) : lz K g' P z := fun g2 σ2 H2 e2 => h g2 σ2 H2 (e.trans e2)
theorem lk.le {K : PySem.W.Frag} {g g' : Gh} {P : VK} {d : D} {M : Mp} (e : g.le g') (h : lk K g P d M) : lk K g' P d M := fun v g2 H2 e2 => h v g2 H2 (e.trans e2)
theorem lf.le {K : PySem.W.Frag} {g g' : Gh} {D : Ends} (e : g.le g') : (lf K g D).le (lf K g' D) := ⟨fun _ => lz.le e, fun _ _ => lk.le e, fun _ => lz.le e, fun _ => lz.le e⟩
def upS (K : PySem.W.Frag) (g0 : Gh) (w : WS) : TS := fun D σ H => ∃ g z, g0.le g ∧ RR K g z σ H ∧ w (lf K g D) z
structure QS (X : Cx) (g0 : Gh) (st : Stmt) (w : WS) : Prop where
  mono : MonoS w
  run : PS X st (upS X.K g0 w)
structure QSs (X : Cx) (g0 : Gh) (st : List Stmt) (w : WS) : Prop where
  mono : MonoS w
  run : PSs X st (upS X.K g0 w)
section
variable {X : Cx} {g0 : Gh} {st : Stmt} {rest : List Stmt} {w u : WS} {e : Expr} {we : WE} {pos : Pos}
def wNext : WS := fun E z => E.nx z
def wSeq (w u : WS) : WS := fun E z => w { E with nx := u E } z
theorem qss_nil : QSs X g0 [] wNext := ⟨fun E E' z l h => l.nx z h, pss_nil.imp fun D σ H ⟨g, z, l0, r, h⟩ => h g σ H (.refl g) r⟩
theorem qss_cons (h1 : QS X g0 st w) (h2 : QSs X g0 rest u) : QSs X g0 (st :: rest) (wSeq w u) := by
  refine ⟨fun E E' z l h => h1.mono { E with nx := u E } _ z ⟨fun z' h' => h2.mono E E' z' l h', l.rt, l.bk, l.ct⟩ h, (pss_cons h1.run h2.run).imp fun D σ H ⟨g, z, l0, r, h⟩ => ⟨g, z, l0, r, h1.mono { lf X.K g D with nx := u (lf X.K g D) } _ z ⟨fun z' h' g' σ' H' e' r' => ?_, fun _ _ x => x, fun _ x => x, fun _ x => x⟩ h⟩⟩
  exact ⟨g', z', l0.trans e', r', h2.mono _ _ _ (lf.le e') h'⟩
theorem qss_one (h1 : QS X g0 st w) : QSs X g0 [st] w := ⟨h1.mono, pss_one h1.run⟩
def wPass : WS := wNext
def wDrop (we : WE) : WS := fun E z => we z fun _ z1 => E.nx z1
theorem qs_expr (he : QE X g0 e we) (hs : swapsWith e none pos.line X.env = pure false := by rfl) : QS X g0 (.Expr e pos) (wDrop we) :=
  ⟨fun E E' z l h => he.mono _ _ _ (fun d z1 => l.nx z1) h, (ps_expr he.run hs).imp fun D σ H ⟨g, z, l0, r, h⟩ => ⟨g, z, l0, r, he.mono _ _ _ (fun d z1 h1 v g1 H1 e1 r1 a1 => h1 g1 σ H1 e1 r1) h⟩⟩
def wRet (we : WE) : WS := fun E z => we z fun d z1 => E.rt d z1.M
theorem qs_ret (he : QE X g0 e we) : QS X g0 (.Return (some e) pos) (wRet we) :=
  ⟨fun E E' z l h => he.mono _ _ _ (fun d z1 => l.rt d z1.M) h, (ps_ret he.run).imp fun D σ H ⟨g, z, l0, r, h⟩ => ⟨g, z, l0, r, he.mono _ _ _ (fun d z1 h1 v g1 H1 e1 r1 a1 => h1 v g1 H1 e1 r1.wr a1) h⟩⟩
def wIfS (t : WT) (w u : WS) : WS := fun E z => t z fun k z1 => if k = true then w E z1 else u E z1
theorem qs_if {c : Expr} {a b : List Stmt} {t : WT} (hc : QT X g0 c t) (ha : QSs X g0 a w) (hb : QSs X g0 b u) : QS X g0 (.If c a b pos) (wIfS t w u) := by
  refine ⟨fun E E' z l h => hc.mono _ _ _ (fun d z1 h1 => ?_) h, (ps_if hc.run ha.run hb.run).imp fun D σ H ⟨g, z, l0, r, h⟩ => ⟨g, z, l0, r, hc.mono _ _ _ (fun d z1 h1 g1 H1 e1 r1 => ?_) h⟩⟩
  · cases d with
    | true => exact ha.mono _ _ _ l h1
    | false => exact hb.mono _ _ _ l h1
  · cases d with
    | true => exact ⟨g1, z1, l0.trans e1, r1, ha.mono _ _ _ (lf.le e1) h1⟩
    | false => exact ⟨g1, z1, l0.trans e1, r1, hb.mono _ _ _ (lf.le e1) h1⟩
def wNever : WS := fun _ _ => False
theorem qs_never : QS X g0 st wNever := ⟨fun _ _ _ _ h => h, ⟨fun _ _ _ _ _ _ ⟨_, _, _, _, h⟩ => h.elim⟩⟩
end
abbrev WG := D → Z → (Z → Prop) → Prop
abbrev WGs := List D → Z → (Z → Prop) → Prop
def MonoG (w : WG) : Prop := ∀ d z Q Q', (∀ z', Q z' → Q' z') → w d z Q → w d z Q'
def MonoGs (w : WGs) : Prop := ∀ d z Q Q', (∀ z', Q z' → Q' z') → w d z Q → w d z Q'
def upG (K : PySem.W.Frag) (g0 : Gh) (w : WG) : TG := fun v σ H Q => ∃ g z d, g0.le g ∧ RR K g z σ H ∧ Has K g v d ∧ w d z (lz K g Q)
def upGs (K : PySem.W.Frag) (g0 : Gh) (w : WGs) : TGs := fun v σ H Q => ∃ g z d, g0.le g ∧ RR K g z σ H ∧ HasL K g v d ∧ w d z (lz K g Q)
structure QG (X : Cx) (g0 : Gh) (tg : Expr) (w : WG) : Prop where
  mono : MonoG w
  run : PG X tg (upG X.K g0 w)
structure QGs (X : Cx) (g0 : Gh) (tg : List Expr) (w : WGs) : Prop where
  mono : MonoGs w
  run : PGs X tg (upGs X.K g0 w)
theorem _root_.L2.PGs.imp {X : Cx} {e : List Expr} {t t' : TGs} (h : PGs X e t) (k : ∀ v σ H Q, t' v σ H Q → t v σ H Q) : PGs X e t' := ⟨fun pins s σ H v u Q I r w => h.run pins s σ H v u Q I r (k v σ H Q w)⟩
section
variable {X : Cx} {g0 : Gh} {pos : Pos} {tg e : Expr} {we : WE}
def gN (i : Nat) : WG := fun d z Q => Q ⟨z.ρ.set i (some d), z.M⟩
theorem qg_name {i : Nat} {x : Str} (hN : X.N.Nodup) (hi : X.N[i]? = some x := by rfl) (hx : Loc X.env.scope x := by first | exact Or.inl rfl | exact Or.inr rfl) (hf : X.fn x = true ∨ X.env.scope.names.lookup x = some .local := by first | exact .inl rfl | exact .inr rfl | assumption) : QG X g0 (.Name x pos) (gN i) :=
  ⟨fun d z Q Q' k h => k _ h, (pg_name hN hi hx hf).imp fun v σ H Q ⟨g, z, d, l0, r, a, h⟩ => h g _ H (.refl g) ⟨r.wr, r.sl.set a i⟩⟩
def gT0 : WGs := fun ds z Q => ds = [] ∧ Q z
def gT1 (t : WG) (u : WGs) : WGs := fun ds z Q => ∃ d r, ds = d :: r ∧ t d z fun z' => u r z' Q
theorem qgs_nil : QGs X g0 [] gT0 := ⟨fun d z Q Q' k h => ⟨h.1, k _ h.2⟩, pgs_nil.imp fun v σ H Q ⟨g, z, d, l0, r, a, e, h⟩ => by
  subst e
  cases a
  exact ⟨rfl, h g σ H (.refl g) r⟩⟩
theorem qgs_cons {es : List Expr} {t : WG} {u : WGs} (h1 : QG X g0 e t) (h2 : QGs X g0 es u)
    (hs : (assignEach (e :: es) X.env).map (·.2) = assign e X.env :: (assignEach es X.env).map (·.2) := by rfl) : QGs X g0 (e :: es) (gT1 t u) := by
  refine ⟨fun d z Q Q' k ⟨d1, r1, e1, h⟩ => ⟨d1, r1, e1, h1.mono _ _ _ _ (fun z' h' => h2.mono _ _ _ _ k h') h⟩, (pgs_cons h1.run h2.run hs).imp fun v σ H Q ⟨g, z, d, l0, r, a, d1, dr, e1, h⟩ => ?_⟩
  subst e1
  cases a with
  | cons a1 a2 => exact ⟨_, _, rfl, g, z, d1, l0, r, a1, h1.mono _ _ _ _ (fun z' h' g' σ' H' e' r' => ⟨g', z', dr, l0.trans e', r', a2.le e', h2.mono _ _ _ _ (fun z2 => lz.le e') h'⟩) h⟩
def gTup (n : Nat) (t : WGs) : WG := fun d z Q => ∃ ds, d = .tup ds ∧ ds.length = n ∧ t ds z Q
theorem Has.tup_inv {K : PySem.W.Frag} {g : Gh} {v : V} {ds : List D} (h : Has K g v (.tup ds)) : ∃ a xs, v = .ref a ∧ g.Hs a = some (.tup xs) ∧ HasL K g xs ds := by
  cases h with
  | tup h1 h2 => exact ⟨_, _, rfl, h1, h2⟩
theorem Has.lst_inv {K : PySem.W.Frag} {g : Gh} {v : V} {ds : List D} (h : Has K g v (.lst ds)) : ∃ a xs, v = .ref a ∧ g.Hs a = some (.lst xs) ∧ HasL K g xs ds := by
  cases h with
  | lst h1 h2 => exact ⟨_, _, rfl, h1, h2⟩
theorem qg_tup {es : List Expr} {k : Nat} {t : WGs} {n : Nat} (hc : X.calm = true) (h : QGs X g0 es t)
    (hn : (assignEach es X.env).length = n := by rfl) (hst : (assignEach es X.env).findIdx? (·.1) = none := by rfl) : QG X g0 (.Tuple es k pos) (gTup n t) := by
  refine ⟨fun d z Q Q' k ⟨ds, e, hl, h'⟩ => ⟨ds, e, hl, h.mono _ _ _ _ k h'⟩, (pg_tup hc h.run hn hst).imp fun v σ H Q ⟨g, z, d, l0, r, a, ds, e, hl, h'⟩ => ?_⟩
  subst e
  obtain ⟨p, xs, rfl, h1, h2⟩ := a.tup_inv
  exact ⟨p, xs, rfl, SqT.of (r.wr.sub _ _ h1), h2.length.trans hl, g, z, ds, l0, r, h2, h'⟩
def wAsg (we : WE) (g : WG) : WS := fun E z => we z fun d z1 => g d z1 E.nx
theorem wAsg.mono {g : WG} (he : MonoE we) (hg : MonoG g) : MonoS (wAsg we g) := fun E E' z l h => he _ _ _ (fun d z1 h1 => hg _ _ _ _ l.nx h1) h
theorem wAsg.up {g : WG} {K : PySem.W.Frag} (he : MonoE we) (hg : MonoG g) {D : Ends} {σ : L2.St} {H : Hp} (h : upS K g0 (wAsg we g) D σ H) : tAsg (upE K g0 we) (upG K g0 g) D σ H := by
  obtain ⟨g1, z, l0, r, h⟩ := h
  exact ⟨g1, z, l0, r, he _ _ _ (fun d z1 h1 v g' H' e' r' a' => ⟨g', z1, d, l0.trans e', r', a', hg _ _ _ _ (fun z2 => lz.le e') h1⟩) h⟩
theorem qs_asg {g : WG} (he : QE X g0 e we) (hg : QG X g0 tg g) (hs : swapsWithSole [tg] e pos.line X.env = pure false := by rfl) (hw : swappedStores [tg] e X.env = pure none := by rfl)
    (h1 : (assignEach [tg] X.env).map (·.2) = [assign tg X.env] := by rfl) : QS X g0 (.Assign [tg] e pos) (wAsg we g) :=
  ⟨wAsg.mono he.mono hg.mono, (ps_asg he.run hg.run hs hw h1).imp fun D σ H h => wAsg.up he.mono hg.mono h⟩
theorem qs_set {i : Nat} {x : Str} {pos' : Pos} (hN : X.N.Nodup) (he : QE X g0 e we) (hi : X.N[i]? = some x := by rfl) (hx : Loc X.env.scope x := by first | exact Or.inl rfl | exact Or.inr rfl) (hs : swapsWith e (some (.Name x pos')) pos.line X.env = pure false := by rfl)
    (hf : X.fn x = true ∨ X.env.scope.names.lookup x = some .local := by first | exact .inl rfl | exact .inr rfl | assumption) : QS X g0 (.Assign [.Name x pos'] e pos) (wAsg we (gN i)) := by
  refine ⟨wAsg.mono he.mono fun d z Q Q' k h => k _ h, (ps_set hN hi hx he.run hs hf).imp fun D σ H ⟨g, z, l0, r, h⟩ => ⟨g, z, l0, r, he.mono _ _ _ (fun d z1 h1 v g' H' e' r' a' => ?_) h⟩⟩
  exact h1 g' _ H' e' ⟨r'.wr, r'.sl.set a' i⟩
/-- a, b = x, y: both stored together -/
def wPar (i j : Nat) (wa : WA) : WS := fun E z => wa z fun ds z1 => ∃ d e, ds = [d, e] ∧ E.nx ⟨(z1.ρ.set i (some d)).set j (some e), z1.M⟩
theorem qs_par {i j : Nat} {x y : Str} {a b : Expr} {wa : WA} {px py pt : Pos} {kt k2 pt2} (hc : X.calm = true) (hN : X.N.Nodup) (ha : QA X g0 [a, b] wa) (hi : X.N[i]? = some x := by rfl) (hj : X.N[j]? = some y := by rfl) (hij : i ≠ j := by decide)
    (hx : X.env.scope.names.lookup x = some .local := by rfl) (hy : X.env.scope.names.lookup y = some .local := by rfl)
    (hw : swappedStores [.Tuple [.Name x px, .Name y py] kt pt] (.Tuple [a, b] k2 pt2) X.env = pure (some [x, y]) := by rfl)
    (hs : swapsWithSole [.Tuple [.Name x px, .Name y py] kt pt] (.Tuple [a, b] k2 pt2) pos.line X.env = pure false := by rfl) :
    QS X g0 (.Assign [.Tuple [.Name x px, .Name y py] kt pt] (.Tuple [a, b] k2 pt2) pos) (wPar i j wa) := by
  refine ⟨fun E E' z l h => ha.mono _ _ _ (fun ds z1 ⟨d, e, h1, h2⟩ => ⟨d, e, h1, l.nx _ h2⟩) h, (ps_par hc hN hi hj hij hx hy ha.run hw hs).imp fun D σ H ⟨g, z, l0, r, h⟩ => ⟨g, z, l0, r, ha.mono _ _ _ (fun ds z1 ⟨d, e, h1, h2⟩ vs g' H' e' r' a' => ?_) h⟩⟩
  subst h1
  cases a' with
  | cons a1 a2 =>
    cases a2 with
    | cons a2 a3 =>
      cases a3
      exact ⟨_, _, rfl, h2 g' _ H' e' ⟨r'.wr, (r'.sl.set a1 i).set a2 j⟩⟩
end
/-- J gives ds, one by one, while what is told stands -/
structure Wk (K : PySem.W.Frag) (g : Gh) (J : It) (ds : List D) : Prop where
  go : ∀ i H M g', g.sub g' → WR K g' M H → i < ds.length → J.go i H
  stop : ∀ H M g', g.sub g' → WR K g' M H → J.stop ds.length H
  yld : ∀ i H x H' M g', g.sub g' → WR K g' M H → i < ds.length → J.yld i H x H' → ∃ g'' d, g'.le g'' ∧ WR K g'' M H' ∧ ds[i]? = some d ∧ Has K g'' x d
theorem Wk.le {K : PySem.W.Frag} {g g1 : Gh} {J : It} {ds : List D} (w : Wk K g J ds) (e : g.sub g1) : Wk K g1 J ds :=
  have t : ∀ {g'}, g1.sub g' → g.sub g' := fun h => ⟨Same.trans e.hs h.hs, fun B q => h.bg B (e.bg B q)⟩
  ⟨fun i H M g' h => w.go i H M g' (t h), fun H M g' h => w.stop H M g' (t h), fun i H x H' M g' h => w.yld i H x H' M g' (t h)⟩
abbrev WI := Z → (List D → Z → Prop) → Prop
def upI (K : PySem.W.Frag) (g0 : Gh) (w : WI) : TI := fun σ H R => ∃ g z, g0.le g ∧ RR K g z σ H ∧ w z fun ds z' => ∀ J g' H', g.le g' → RR K g' z' σ H' → Wk K g' J ds → R J H'
structure QI (X : Cx) (g0 : Gh) (tg iter : Expr) (w : WI) : Prop where
  mono : MonoA w
  run : PI X tg iter (upI X.K g0 w)
def wLoop (g : WG) (b : WS) (E : En) : List D → Z → Prop
  | [], z => E.nx z
  | d :: ds, z => g d z fun z1 => b { E with nx := wLoop g b E ds, ct := wLoop g b E ds, bk := E.nx } z1
theorem wLoop.mono {g : WG} {b : WS} (hg : MonoG g) (hb : MonoS b) {E E' : En} (l : E.le E') : ∀ ds z, wLoop g b E ds z → wLoop g b E' ds z
  | [], z, h => l.nx z h
  | d :: ds, z, h => hg _ _ _ _ (fun z1 h1 => hb { E with nx := wLoop g b E ds, ct := wLoop g b E ds, bk := E.nx } _ z1 ⟨wLoop.mono hg hb l ds, l.rt, l.nx, wLoop.mono hg hb l ds⟩ h1) h
def wFor (wi : WI) (g : WG) (b : WS) : WS := fun E z => wi z fun ds z1 => wLoop g b E ds z1
theorem qs_for {X : Cx} {g0 : Gh} {tg iter : Expr} {body : List Stmt} {wi : WI} {g : WG} {wb : WS} {pos : Pos} (hp : PassesOwn (model X.prog X.w) X.A X.env X.xe) (hc : X.calm = true) (hi : QI X g0 tg iter wi) (hg : QG X g0 tg g) (hb : QSs X g0 body wb)
    (hs : ∀ x, foldedSetIterable iter X.env x = pure x := by intro _; rfl) : QS X g0 (.For tg iter body [] pos) (wFor wi g wb) := by
  refine ⟨fun E E' z l h => hi.mono _ _ _ (fun ds z1 h1 => wLoop.mono hg.mono hb.mono l ds z1 h1) h, (ps_for hp hc hi.run hg.run hb.run hs).imp fun D σ H ⟨g1, z, l0, r, h⟩ => ⟨g1, z, l0, r, hi.mono _ _ _ (fun ds z1 h1 J g' H' e' r' wk => ?_) h⟩⟩
  have l1 := l0.trans e'
  have h1' : wLoop g wb (lf X.K g' D) ds z1 := wLoop.mono hg.mono hb.mono (lf.le e') ds z1 h1
  clear h1
  let Pv : Nat → L2.St → Hp → Prop := fun i σ H => ∃ g2 z2, g'.le g2 ∧ RR X.K g2 z2 σ H ∧ wLoop g wb (lf X.K g' D) (ds.drop i) z2
  refine ⟨fun i m σ H => m = ds.length - i ∧ i ≤ ds.length ∧ Pv i σ H, ⟨ds.length, by simp, Nat.zero_le _, g', z1, .refl g', r', by simpa using h1'⟩, ?_⟩
  rintro i m σ2 H2 ⟨rfl, hi2, g2, z2, e2, r2, h2⟩
  by_cases hlt : i < ds.length
  · refine .inr ⟨wk.go i H2 _ g2 e2.sub r2.wr hlt, Pv (i + 1), fun σ' H' p' => ⟨ds.length - (i + 1), by omega, rfl, hlt, p'⟩, fun x H3 y => ?_⟩
    obtain ⟨g3, d, e3, w3, hd, a3⟩ := wk.yld i H2 x H3 _ g2 e2.sub r2.wr hlt y
    rw [List.drop_eq_getElem_cons hlt] at h2
    have hd' : ds[i] = d := by
      rw [List.getElem?_eq_getElem hlt] at hd
      exact Option.some.inj hd
    rw [hd'] at h2
    have e23 := e2.trans e3
    refine ⟨g3, z2, d, l1.trans e23, ⟨w3, r2.sl.le e3⟩, a3, hg.mono _ _ _ _ (fun z4 h4 g4 σ4 H4 e4 r4 => ?_) h2⟩
    have e34 := e23.trans e4
    refine ⟨g4, z4, l1.trans e34, r4, hb.mono { lf X.K g' D with nx := wLoop g wb (lf X.K g' D) (ds.drop (i + 1)), ct := wLoop g wb (lf X.K g' D) (ds.drop (i + 1)), bk := (lf X.K g' D).nx } _ z4 ⟨fun z5 h5 g5 σ5 H5 e5 r5 => ⟨g5, z5, e34.trans e5, r5, h5⟩, fun d M q => lk.le e34 q, fun z5 h5 => lz.le e34 h5, fun z5 h5 g5 σ5 H5 e5 r5 => ⟨g5, z5, e34.trans e5, r5, h5⟩⟩ h4⟩
  · have e : i = ds.length := by omega
    subst e
    rw [List.drop_length] at h2
    exact .inl ⟨wk.stop H2 _ g2 e2.sub r2.wr, h2 g2 σ2 H2 e2 r2⟩
/-- while, n turns at most -/
def wWhl (c : WT) (b : WS) (E : En) : Nat → Z → Prop
  | 0, _ => False
  | n + 1, z => c z fun k z1 => if k = true then b { E with nx := wWhl c b E n, ct := wWhl c b E n, bk := E.nx } z1 else E.nx z1
theorem wWhl.mono {c : WT} {b : WS} (hc : MonoT c) (hb : MonoS b) {E E' : En} (l : E.le E') : ∀ n z, wWhl c b E n z → wWhl c b E' n z
  | 0, _, h => h
  | n + 1, z, h => hc _ _ _ (fun k z1 h1 => by
    cases k with
    | true => exact hb { E with nx := wWhl c b E n, ct := wWhl c b E n, bk := E.nx } _ z1 ⟨wWhl.mono hc hb l n, l.rt, l.nx, wWhl.mono hc hb l n⟩ h1
    | false => exact l.nx _ h1) h
end Q
set_option Elab.async false
set_option linter.all false
set_option maxRecDepth 100000
set_option maxHeartbeats 4000000
namespace Q
open PySem PySem.Spec PyProof.Rows L2 My
def look (M : Mp) : D → D
  | .ref a => match M a with
    | some (.lst ds) => .lst ds
    | some (.dct ds) => .dct ds
    | some (.dcT ds) => .dcT ds
    | _ => .ref a
  | d => d
theorem look_ref_lst {M : Mp} {a : Addr} {ds : List D} (h : M a = some (.lst ds)) : look M (.ref a) = .lst ds := by simp [look, h]
theorem look_ref_dct {M : Mp} {a : Addr} {ds : List (Key × D)} (h : M a = some (.dct ds)) : look M (.ref a) = .dct ds := by simp [look, h]
section
variable {K : PySem.W.Frag} {g : Gh} {M : Mp} {H : Hp} {v : V} {d : D}
theorem WR.seeL (w : WR K g M H) (h : Has K g v d) {ds : List D} (e : look M d = .lst ds) : ∃ a xs, v = .ref a ∧ H a = some (.lst xs) ∧ HasL K g xs ds := by
  cases h with
  | ref a =>
    cases hm : M a with
    | none => simp [look, hm] at e
    | some mo =>
      cases mo with
      | lst ds' =>
        simp [look, hm] at e
        subst e
        obtain ⟨vs, h1, h2⟩ := w.mt hm
        exact ⟨a, vs, rfl, h1, h2⟩
      | _ => simp [look, hm] at e
  | lst h1 h2 => cases e; exact ⟨_, _, rfl, w.sub _ _ h1, h2⟩
  | _ => cases e
theorem look_ref {M : Mp} {a : Addr} : (∃ ds, look M (.ref a) = .lst ds) ∨ (∃ ds, look M (.ref a) = .dct ds) ∨ (∃ ds, look M (.ref a) = .dcT ds) ∨ look M (.ref a) = .ref a := by
  cases hm : M a with
  | none => simp [look, hm]
  | some mo => cases mo <;> simp [look, hm]
theorem hasL_txs {K : PySem.W.Frag} {g : Gh} : ∀ ss : List Str, HasL K g (ss.map V.str) (ss.map D.str)
  | [] => .nil
  | s :: ss => .cons (.str s) (hasL_txs ss)
theorem WR.seeX (w : WR K g M H) (h : Has K g v d) {ss : List Str} (e : look M d = .tux ss) : ∃ a o, v = .ref a ∧ H a = some (.frz o (.tup (ss.map V.str))) ∧ o.dict = none := by
  cases h with
  | ref a => rcases look_ref (M := M) (a := a) with ⟨_, q⟩ | ⟨_, q⟩ | ⟨_, q⟩ | q <;> (rw [q] at e; cases e)
  | tux h1 h2 => cases e; exact ⟨_, _, rfl, w.sub _ _ h1, h2⟩
  | _ => cases e
theorem WR.seeT (w : WR K g M H) (h : Has K g v d) {ds : List D} (e : look M d = .tup ds) : ∃ a xs, v = .ref a ∧ H a = some (.tup xs) ∧ HasL K g xs ds := by
  cases h with
  | ref a => rcases look_ref (M := M) (a := a) with ⟨_, q⟩ | ⟨_, q⟩ | ⟨_, q⟩ | q <;> (rw [q] at e; cases e)
  | tup h1 h2 => cases e; exact ⟨_, _, rfl, w.sub _ _ h1, h2⟩
  | _ => cases e
theorem WR.seeD (w : WR K g M H) (h : Has K g v d) {ds : List (Key × D)} (e : look M d = .dct ds) : ∃ a kvs, v = .ref a ∧ Rd H a (.dK kvs) ∧ ds.map (·.1) = kvs.map (·.1) ∧ HasL K g (kvs.map (·.2)) (ds.map (·.2)) := by
  cases h with
  | ref a =>
    cases hm : M a with
    | none => simp [look, hm] at e
    | some mo =>
      cases mo with
      | dct ds' =>
        simp [look, hm] at e
        subst e
        obtain ⟨vs, h1, h2⟩ := w.mt hm
        exact ⟨a, vs, rfl, .inl h1, h2⟩
      | _ => simp [look, hm] at e
  | dct h1 h2 h3 => cases e; exact ⟨_, _, rfl, .inr ⟨_, w.sub _ _ h1⟩, h2, h3⟩
  | _ => cases e
theorem WR.seeDT (w : WR K g M H) (h : Has K g v d) {ds : List (List Key × D)} (e : look M d = .dcT ds) : ∃ a kvs, v = .ref a ∧ Rd H a (.dT kvs) ∧ ds.map (·.1) = kvs.map (·.1) ∧ HasL K g (kvs.map (·.2)) (ds.map (·.2)) := by
  cases h with
  | ref a =>
    cases hm : M a with
    | none => simp [look, hm] at e
    | some mo =>
      cases mo with
      | dcT ds' =>
        simp [look, hm] at e
        subst e
        obtain ⟨vs, h1, h2⟩ := w.mt hm
        exact ⟨a, vs, rfl, .inl h1, h2⟩
      | _ => simp [look, hm] at e
  | dcT h1 h2 h3 => cases e; exact ⟨_, _, rfl, .inr ⟨_, w.sub _ _ h1⟩, h2, h3⟩
  | _ => cases e
theorem seeI (h : Has K g v d) {i : Int} (e : look M d = .int i) : v = .int i := by
  cases h with
  | ref a => rcases look_ref (M := M) (a := a) with ⟨_, q⟩ | ⟨_, q⟩ | ⟨_, q⟩ | q <;> (rw [q] at e; cases e)
  | int j => cases e; rfl
  | _ => cases e
theorem seeS (h : Has K g v d) {i : Str} (e : look M d = .str i) : v = .str i := by
  cases h with
  | ref a => rcases look_ref (M := M) (a := a) with ⟨_, q⟩ | ⟨_, q⟩ | ⟨_, q⟩ | q <;> (rw [q] at e; cases e)
  | str j => cases e; rfl
  | _ => cases e
theorem seeB (h : Has K g v d) {i : Bool} (e : look M d = .bl i) : v = .bl i := by
  cases h with
  | ref a => rcases look_ref (M := M) (a := a) with ⟨_, q⟩ | ⟨_, q⟩ | ⟨_, q⟩ | q <;> (rw [q] at e; cases e)
  | bl j => cases e; rfl
  | _ => cases e
theorem seeN (h : Has K g v d) (e : look M d = .non) : v = .non := by
  cases h with
  | ref a => rcases look_ref (M := M) (a := a) with ⟨_, q⟩ | ⟨_, q⟩ | ⟨_, q⟩ | q <;> (rw [q] at e; cases e)
  | non => rfl
  | _ => cases e
end
def kD (k : Key) : D := match k with
  | .inl i => .int i
  | .inr x => .str x
theorem has_kD {K : PySem.W.Frag} {g : Gh} (k : Key) : Has K g (kV k) (kD k) := by
  cases k with
  | inl i => exact .int i
  | inr x => exact .str x
def signs (x : Str) : List D := x.cps.toList.map fun c => .str ⟨#[c]⟩
section
variable {K : PySem.W.Frag} {g : Gh}
theorem wk_list {a : Addr} {xs : List V} {ds : List D} (h1 : SqL K g.Hs a xs) (h2 : HasL K g xs ds) : Wk K g (Itl K a) ds := by
  have hl := h2.length
  refine ⟨fun i H M g' e w hi => ?_, fun H M g' e w => ⟨xs, (Same.trans e.hs w.sub).seq h1, Nat.le_of_eq hl⟩, fun i H x H' M g' e w hi y => ?_⟩
  · exact ⟨xs, xs[i], (Same.trans e.hs w.sub).seq h1, by simp [hl, hi]⟩
  · obtain ⟨rfl, y⟩ := y
    obtain ⟨d, h3, h4⟩ := h2.get (y xs ((Same.trans e.hs w.sub).seq h1))
    exact ⟨g', d, .refl _, w, h3, h4.sub e⟩
theorem wk_tup {a : Addr} {xs : List V} {ds : List D} (h1 : SqT K g.Hs a xs) (h2 : HasL K g xs ds) : Wk K g (Itt K a) ds := by
  have hl := h2.length
  refine ⟨fun i H M g' e w hi => ?_, fun H M g' e w => ⟨xs, sqT_same (Same.trans e.hs w.sub) h1, Nat.le_of_eq hl⟩, fun i H x H' M g' e w hi y => ?_⟩
  · exact ⟨xs, xs[i], sqT_same (Same.trans e.hs w.sub) h1, by simp [hl, hi]⟩
  · obtain ⟨rfl, y⟩ := y
    obtain ⟨d, h3, h4⟩ := h2.get (y xs (sqT_same (Same.trans e.hs w.sub) h1))
    exact ⟨g', d, .refl _, w, h3, h4.sub e⟩
theorem wk_str {x : Str} : Wk K g (Its x) (signs x) := by
  have hl : (signs x).length = x.cps.size := by simp [signs]
  refine ⟨fun i H M g' e w hi => by rw [hl] at hi; exact hi, fun H M g' e w => Nat.le_of_eq hl.symm, fun i H v H' M g' e w hi y => ?_⟩
  obtain ⟨rfl, c, h1, rfl⟩ := y
  refine ⟨g', .str ⟨#[c]⟩, .refl _, w, ?_, .str _⟩
  unfold signs
  rw [List.getElem?_map, Array.getElem?_toList, h1]
  rfl
theorem wk_keys {a : Addr} {o : Obj} {kvs : List (Key × V)} {ds : List (Key × D)} (h1 : g.Hs a = some (.frz o (.dK kvs))) (h2 : ds.map (·.1) = kvs.map (·.1)) : Wk K g (Itk a o kvs) (ds.map fun p => kD p.1) := by
  have hl : (ds.map fun p => kD p.1).length = kvs.length := by
    have := congrArg List.length h2
    simpa using this
  refine ⟨fun i H M g' e w hi => ⟨w.sub _ _ (e.hs _ _ h1), by rw [hl] at hi; exact hi⟩, fun H M g' e w => ⟨w.sub _ _ (e.hs _ _ h1), Nat.le_of_eq hl.symm⟩, fun i H v H' M g' e w hi y => ?_⟩
  obtain ⟨rfl, k, u, h3, rfl⟩ := y
  refine ⟨g', kD k, .refl _, w, ?_, has_kD k⟩
  have h4 : (kvs.map (·.1))[i]? = some k := by rw [List.getElem?_map, h3]; rfl
  rw [← h2, List.getElem?_map] at h4
  rw [List.getElem?_map]
  obtain ⟨p, h5, h6⟩ := Option.map_eq_some_iff.mp h4
  rw [h5]
  show some (kD p.1) = _
  rw [h6]
theorem wk_range {lo : Int} {n : Nat} : Wk K g (Itr lo n) ((List.range n).map fun i => .int (lo + (i : Nat))) := by
  refine ⟨fun i H M g' e w hi => by show i < n; simpa using hi, fun H M g' e w => by show n ≤ _; simp, fun i H v H' M g' e w hi y => ?_⟩
  obtain ⟨rfl, rfl⟩ := y
  refine ⟨g', _, .refl _, w, ?_, .int _⟩
  simp at hi
  rw [List.getElem?_map, List.getElem?_range hi]
  rfl
end
section
variable {X : Cx} {g0 : Gh} {tg e : Expr} {we : WE} {wa : WA}
/-- what can be walked: its items -/
def items : D → Option (List D)
  | .lst ds => some ds
  | .tup ds => some ds
  | .str x => some (signs x)
  | .dct ds => some (ds.map fun p => kD p.1)
  | .tux ss => some (ss.map .str)
  | _ => none
def wItems (we : WE) : WI := fun z Q => we z fun d z1 => ∃ ds, items d = some ds ∧ (ds.length ≤ sizeLine ∨ (∃ x, d = .str x) → Q ds z1)
theorem qi_any (he : QE X g0 e we) : QI X g0 tg e (wItems we) := by
  refine ⟨fun z Q Q' k h => he.mono _ _ _ (fun d z1 ⟨ds, h1, h2⟩ => ⟨ds, h1, fun q => k _ _ (h2 q)⟩) h, ⟨fun pins s σ H R I h => ?_⟩⟩
  obtain ⟨g, z, l0, r, h⟩ := h
  refine thn (he.run.run pins s σ H (fun v H1 => ∃ g1 z1 d ds, g.le g1 ∧ RR X.K g1 z1 σ H1 ∧ Has X.K g1 v d ∧ items d = some ds ∧ (ds.length ≤ sizeLine ∨ (∃ x, d = .str x) → ∀ J g' H', g.le g' → RR X.K g' z1 σ H' → Wk X.K g' J ds → R J H')) I
    ⟨g, z, l0, r, he.mono _ _ _ (fun d z1 ⟨ds, h1, h2⟩ v g1 H1 e1 r1 a1 => ⟨g1, z1, d, ds, e1, r1, a1, h1, h2⟩) h⟩) fun u s1 ⟨v, H1, I1, ru, g1, z1, d, ds, e1, r1, a1, h1, h2⟩ => ?_
  cases a1 with
  | lst h3 h4 =>
    cases h1
    cases ru
    have hq : SqL X.K H1 _ _ := SqL.of (r1.wr.sub _ _ h3)
    obtain ⟨its, rv, p, hz⟩ := I1.list hq
    refine wpAny_pyIter_list p.isList ?_
    refine ⟨s1.heap.objs.size, [s1.heap.objs.size], _, _, H1, rfl, I1.kept (t' := s1.toks) fun b o e => Heap.get?_push_of_some _ e, turn_list _ _, ⟨_, Heap.get?_push_size _ rfl, rfl, rfl⟩, fun b hb => ?_, h2 (.inl (h4.length ▸ hz)) _ g1 H1 e1 r1 (wk_list (SqL.of h3) h4)⟩
    have e : b = s1.heap.objs.size := by simpa using hb
    subst e
    exact I1.fpOk (Nat.le_refl _) (I1.hok.fresh (Nat.le_refl _))
  | tup h3 h4 =>
    cases h1
    cases ru
    have hq : SqT X.K H1 _ _ := SqT.of (r1.wr.sub _ _ h3)
    obtain ⟨its, rv, p, hz⟩ := I1.tuple hq
    refine wpAny_pyIter_tuple (show s1.heap.IsTuple _ its.toArray from p) ?_
    refine ⟨s1.heap.objs.size, [s1.heap.objs.size], _, _, H1, rfl, I1.kept (t' := s1.toks) fun b o e => Heap.get?_push_of_some _ e, turn_tuple _ _, ⟨_, Heap.get?_push_size _ rfl, rfl, rfl⟩, fun b hb => ?_, h2 (.inl (h4.length ▸ hz)) _ g1 H1 e1 r1 (wk_tup (SqT.of h3) h4)⟩
    have e : b = s1.heap.objs.size := by simpa using hb
    subst e
    exact I1.fpOk (Nat.le_refl _) (I1.hok.fresh (Nat.le_refl _))
  | @tux a o ss h3 h4 =>
    cases h1
    cases ru
    have hq : SqT X.K H1 _ _ := .inl (.inr ⟨_, r1.wr.sub _ _ h3⟩)
    obtain ⟨its, rv, p, hz⟩ := I1.tuple hq
    refine wpAny_pyIter_tuple (show s1.heap.IsTuple _ its.toArray from p) ?_
    refine ⟨s1.heap.objs.size, [s1.heap.objs.size], _, _, H1, rfl, I1.kept (t' := s1.toks) fun b o e => Heap.get?_push_of_some _ e, turn_tuple _ _, ⟨_, Heap.get?_push_size _ rfl, rfl, rfl⟩, fun b hb => ?_, h2 (.inl ((hasL_txs (K := X.K) (g := g1) ss).length ▸ hz)) _ g1 H1 e1 r1 (wk_tup (.inl (.inr ⟨_, h3⟩)) (hasL_txs ss))⟩
    have e : b = s1.heap.objs.size := by simpa using hb
    subst e
    exact I1.fpOk (Nat.le_refl _) (I1.hok.fresh (Nat.le_refl _))
  | str x =>
    cases h1
    obtain ⟨t, rfl⟩ := ru
    have q := h2 (.inr ⟨x, rfl⟩) _ g1 H1 e1 r1 wk_str
    cases ha : x.cps.all (· < 128)
    · exact wpAny_pyIter_wide ha (pi_one (tk := s1.toks) I1 _ (turn_str _ x t "str_iterator" (.inr rfl)) ⟨_, Heap.get?_push_size _ rfl, rfl, rfl⟩ q)
    · exact wpAny_pyIter_ascii ha (pi_one (tk := s1.toks) I1 _ (turn_str _ x t "str_ascii_iterator" (.inl rfl)) ⟨_, Heap.get?_push_size _ rfl, rfl, rfl⟩ q)
  | @dct a o kvs ds h3 h4 h5 =>
    cases h1
    cases ru
    have hd := r1.wr.sub _ _ h3
    obtain ⟨hs, hgd, hx, es, ep, vs, hdt, hsz, kv, hm⟩ := I1.frzK hd
    have hz := (I1.hok _ _ hd).2.1
    have q := h2 (.inl (by have := congrArg List.length h4; simp at this; simp [this]; exact hz)) _ g1 H1 e1 r1 (wk_keys h3 h4)
    refine iter_keys hs hgd hx hdt (pi_one (tk := s1.toks) I1 _ (turn_keys _ hdt) ⟨_, Heap.get?_push_size _ rfl, rfl, ?_⟩ q)
    rw [hsz] <;> rfl
  | _ => cases h1
/-- range(n), range(a, b) -/
def wRng1 (wa : WA) : WI := fun z Q => wa z fun ds z1 => ∃ j : Int, ds = [.int j] ∧ -(2 ^ 62) ≤ j ∧ j < 2 ^ 62 ∧ Q ((List.range j.toNat).map fun (i : Nat) => .int i) z1
def wRng2 (wa : WA) : WI := fun z Q => wa z fun ds z1 => ∃ i j : Int, ds = [.int i, .int j] ∧ (-(2 ^ 62) ≤ i ∧ i < 2 ^ 62 ∧ -(2 ^ 62) ≤ j ∧ j < 2 ^ 62) ∧ Q ((List.range (j - i).toNat).map fun (n : Nat) => .int (i + n)) z1
theorem qi_range1 {a : Expr} {p pos : Pos} (hm : X.mg "range" = none) (ha : QA X g0 [a] wa) (hg : Gl X "range" := by rfl) (hs : starEach [a] X.env = [(false, eval a X.env)] := by rfl) : QI X g0 tg (.Call (.Name "range" p) [a] [] pos) (wRng1 wa) := by
  refine ⟨fun z Q Q' k h => ha.mono _ _ _ (fun d z1 ⟨j, h1, h2, h3, h4⟩ => ⟨j, h1, h2, h3, k _ _ h4⟩) h, (pi_range1 hg hm ha.run hs).imp fun σ H R ⟨g, z, l0, r, h⟩ => ⟨g, z, l0, r, ha.mono _ _ _ (fun d z1 ⟨j, h1, h2, h3, h4⟩ vs g1 H1 e1 r1 a1 => ?_) h⟩⟩
  subst h1
  cases a1 with
  | cons a1 a2 =>
    cases a1
    cases a2
    refine ⟨j, rfl, h2, h3, h4 _ g1 H1 e1 r1 ?_⟩
    have := wk_range (K := X.K) (g := g1) (lo := 0) (n := j.toNat)
    simpa using this
end
def lcGo (g : WG) (tt : WT) (te : WE) (ρ : List (Option D)) (Q : List D → Mp → Prop) : List D → List D → Mp → Prop
  | [], acc, M => Q acc M
  | d :: ds, acc, M => g d ⟨ρ, M⟩ fun z2 => tt z2 fun b z3 => if b = true then te z3 fun y z4 => lcGo g tt te ρ Q ds (acc ++ [y]) z4.M else lcGo g tt te ρ Q ds acc z3.M
theorem lcGo.mono {g : WG} {tt : WT} {te : WE} {ρ : List (Option D)} {Q Q' : List D → Mp → Prop} (hg : MonoG g) (ht : MonoT tt) (he : MonoE te) (k : ∀ ds M, Q ds M → Q' ds M) : ∀ ds acc M, lcGo g tt te ρ Q ds acc M → lcGo g tt te ρ Q' ds acc M
  | [], acc, M, h => k _ _ h
  | d :: ds, acc, M, h => hg _ _ _ _ (fun z2 h2 => ht _ _ _ (fun b z3 h3 => by
    cases b with
    | true => exact he _ _ _ (fun y z4 h4 => lcGo.mono hg ht he k ds _ _ h4) h3
    | false => exact lcGo.mono hg ht he k ds _ _ h3) h2) h
def wLc (wi : WI) (g : WG) (tt : WT) (te : WE) (vs : List Nat) : WE := fun z Q => wi z fun ds z1 => ds.length ≤ sizeLine ∧ lcGo g tt te (wipeD z1.ρ vs) (fun acc M => Q (.lst acc) ⟨z1.ρ, M⟩) ds [] z1.M
structure QTs (X : Cx) (g0 : Gh) (ifs : List Expr) (w : WT) : Prop where
  mono : MonoT w
  run : PTs X ifs (upT X.K g0 w)
def wYes : WT := fun z Q => Q true z
theorem qts_nil {X : Cx} {g0 : Gh} : QTs X g0 [] wYes := ⟨fun z Q Q' k h => k _ _ h, ⟨fun pins s σ H Q I ⟨g, z, l0, r, h⟩ => pts_nil.run pins s σ H Q I (h g H (.refl g) r)⟩⟩
theorem qts_one {X : Cx} {g0 : Gh} {c : Expr} {w : WT} (h : QT X g0 c w) : QTs X g0 [c] w := ⟨h.mono, pts_one h.run⟩
/-- a target over a comprehension's own names: what it does to the slots -/
structure QGo (X : Cx) (vs : List Nat) (tg : Expr) (gr : TG) (g : WG) : Prop where
  run : PG X tg gr
  mono : MonoG g
  up : ∀ g1 v d z σ H Q, RR X.K g1 z σ H → Has X.K g1 v d → g d z (fun z' => ∀ g' σ' H', g1.le g' → RR X.K g' z' σ' H' → L2.wipe σ' vs = L2.wipe σ vs → Q σ' H') → gr v σ H Q
theorem wipe_get (σ : L2.St) (j : Nat) : ∀ vs : List Nat, (L2.wipe σ vs)[j]? = if j ∈ vs ∧ j < σ.length then some none else σ[j]?
  | [] => by simp [L2.wipe]
  | v :: vs => by
    unfold L2.wipe
    by_cases q : v = j
    · subst q
      by_cases hv : v < σ.length
      · rw [List.getElem?_set_self (by rw [wipe_length]; exact hv), if_pos ⟨by simp, hv⟩]
      · rw [List.getElem?_eq_none (by simp [wipe_length]; omega), if_neg (by omega), List.getElem?_eq_none (by omega)]
    · rw [List.getElem?_set_ne q, wipe_get σ j vs]
      by_cases h : j ∈ vs
      · simp [h]
      · simp [h, Ne.symm q]
theorem wipe_set {σ : L2.St} {i : Nat} {x : Option V} {vs : List Nat} (h : i ∈ vs) : L2.wipe (σ.set i x) vs = L2.wipe σ vs := by
  apply List.ext_getElem?
  intro j
  rw [wipe_get, wipe_get]
  by_cases q : i = j
  · subst q
    by_cases hi : i < σ.length
    · simp [h, hi]
    · rw [List.set_eq_of_length_le (by omega)]
  · rw [List.getElem?_set_ne q]
    simp
theorem wipe_wipe {σ : L2.St} {vs : List Nat} : L2.wipe (L2.wipe σ vs) vs = L2.wipe σ vs := by
  apply List.ext_getElem?
  intro j
  rw [wipe_get, wipe_get, wipe_length]
  by_cases q : j ∈ vs ∧ j < σ.length
  · simp [q]
  · simp [q]
section
variable {X : Cx} {vs : List Nat} {pos : Pos}
theorem qgo_name {i : Nat} {x : Str} (hN : X.N.Nodup) (hm : i ∈ vs := by decide) (hi : X.N[i]? = some x := by rfl) (hx : Loc X.env.scope x := by first | exact Or.inl rfl | exact Or.inr rfl) (hf : X.fn x = true ∨ X.env.scope.names.lookup x = some .local := by first | exact .inl rfl | exact .inr rfl | assumption) :
    QGo X vs (.Name x pos) (gName i) (gN i) :=
  ⟨pg_name hN hi hx hf, fun d z Q Q' k h => k _ h, fun g1 v d z σ H Q r a h => h g1 _ H (.refl _) ⟨r.wr, r.sl.set a i⟩ (wipe_set hm)⟩
theorem qgo_tup2 {i j : Nat} {x y : Str} {p1 p2 : Pos} {k : Nat} (hc : X.calm = true) (hN : X.N.Nodup) (hm : i ∈ vs := by decide) (hm2 : j ∈ vs := by decide) (hi : X.N[i]? = some x := by rfl) (hj : X.N[j]? = some y := by rfl)
    (hx : Loc X.env.scope x := by first | exact Or.inl rfl | exact Or.inr rfl) (hf : X.fn x = true ∨ X.env.scope.names.lookup x = some .local := by first | exact .inl rfl | exact .inr rfl | assumption)
    (hy : Loc X.env.scope y := by first | exact Or.inl rfl | exact Or.inr rfl) (hf2 : X.fn y = true ∨ X.env.scope.names.lookup y = some .local := by first | exact .inl rfl | exact .inr rfl | assumption)
    (hs : (assignEach [.Name x p1, .Name y p2] X.env).map (·.2) = assign (.Name x p1) X.env :: (assignEach [.Name y p2] X.env).map (·.2) := by rfl)
    (hs2 : (assignEach [.Name y p2] X.env).map (·.2) = assign (.Name y p2) X.env :: (assignEach [] X.env).map (·.2) := by rfl)
    (hn : (assignEach [.Name x p1, .Name y p2] X.env).length = 2 := by rfl) (hst : (assignEach [.Name x p1, .Name y p2] X.env).findIdx? (·.1) = none := by rfl) :
    QGo X vs (.Tuple [.Name x p1, .Name y p2] k pos) (L2.gTup X.K 2 (gCons (gName i) (gCons (gName j) gNil))) (gTup 2 (gT1 (gN i) (gT1 (gN j) gT0))) := by
  refine ⟨pg_tup hc (pgs_cons (pg_name hN hi hx hf) (pgs_cons (pg_name hN hj hy hf2) pgs_nil hs2) hs) hn hst, fun d z Q Q' k ⟨ds, e, hl, d1, r1, e1, d2, r2, e2, e3, h⟩ => ⟨ds, e, hl, d1, r1, e1, d2, r2, e2, e3, k _ h⟩, fun g1 v d z σ H Q r a ⟨ds, e, hl, d1, r1, e1, d2, r2, e2, e3, h⟩ => ?_⟩
  subst e e3 e2 e1
  obtain ⟨p, xs, rfl, h1, h2⟩ := a.tup_inv
  cases h2 with
  | cons b1 b2 =>
    cases b2 with
    | cons b2 b3 =>
      cases b3
      refine ⟨p, _, rfl, SqT.of (r.wr.sub _ _ h1), rfl, _, _, rfl, _, _, rfl, rfl, ?_⟩
      refine h g1 _ H (.refl _) ⟨r.wr, (r.sl.set b1 i).set b2 j⟩ ?_
      rw [wipe_set hm2, wipe_set hm]
end
/-- an object that nothing is told of -/
theorem WR.untold {K : PySem.W.Frag} {g : Gh} {M : Mp} {H : Hp} {p : Addr} {o : HO} (w : WR K g M H) (hs : g.Hs p = none) (hf : g.F p = none) (hm : M p = none) (hb : ∀ B, g.bg = some B → p ≠ B.b) : WR K g M (upd H p o) := by
  have sq : ∀ a u, g.Hs a = some u → a ≠ p := fun a u h q => by subst q; rw [h] at hs; cases hs
  refine ⟨fun a u h => by rw [upd_ne (sq a u h)]; exact w.sub _ _ h, fun a u h => ?_, fun a mo h => ?_, fun B h => ?_⟩
  · obtain ⟨h1, h2⟩ := w.frm a u h
    have q : a ≠ p := fun q => by subst q; rw [h] at hf; cases hf
    exact ⟨by rw [upd_ne q]; exact h1, h2⟩
  · obtain ⟨h1, h2, h3⟩ := w.muts a mo h
    have q : a ≠ p := fun q => by subst q; rw [h] at hm; cases hm
    exact ⟨h1, h2, h3.same fun u hu => by rw [upd_ne q]; exact hu⟩
  · obtain ⟨h1, h2, h3, h4, h5⟩ := w.bag B h
    have q : B.b ≠ p := Ne.symm (hb B h)
    exact ⟨BagOk.at (fun u hu => by rw [upd_ne q]; exact hu) (fun u hu => by rw [upd_ne (sq _ _ h5)]; exact hu) h1, h2, h3, h4, h5⟩
theorem _root_.L2.PTs.any {X : Cx} {ifs : List Expr} {w : WT} (h : ∀ g0, PTs X ifs (upT X.K g0 w)) : PTs X ifs (fun σ H Q => ∃ g0, upT X.K g0 w σ H Q) := ⟨fun pins s σ H Q I ⟨g0, q⟩ => (h g0).run pins s σ H Q I q⟩
theorem _root_.L2.PE.any {X : Cx} {e : Expr} {w : WE} (h : ∀ g0, PE X e (upE X.K g0 w)) : PE X e (fun σ H Q => ∃ g0, upE X.K g0 w σ H Q) := ⟨fun pins s σ H Q I ⟨g0, q⟩ => (h g0).run pins s σ H Q I q⟩
/-- the list that a comprehension makes, told of by nothing -/
structure Lone (g : Gh) (M : Mp) (p : Addr) : Prop where
  hs : g.Hs p = none
  fr : g.F p = none
  mt : M p = none
  bg : ∀ B, g.bg = some B → p ≠ B.b
theorem Lone.of {K : PySem.W.Frag} {g : Gh} {M : Mp} {H : Hp} {p : Addr} (w : WR K g M H) (hp : H p = none) : Lone g M p := ⟨w.hsn hp, w.frn hp, w.mtn hp, fun B hB => w.nbag hp hB⟩
theorem WR.lone {K : PySem.W.Frag} {g : Gh} {M : Mp} {H : Hp} {p : Addr} {o : HO} (w : WR K g M H) (l : Lone g M p) : WR K g M (upd H p o) := w.untold l.hs l.fr l.mt l.bg
/-- behind a step within the frame -/
theorem Lone.back {K : PySem.W.Frag} {g g' : Gh} {M' : Mp} {H' : Hp} {p : Addr} {o : HO} (h0 : g.F p = none) (e : (g.fr p o).le g') (w : WR K g' M' H') :
    WR K ⟨g'.Hs, g.F, g'.bg⟩ M' H' ∧ g.le ⟨g'.Hs, g.F, g'.bg⟩ ∧ Lone ⟨g'.Hs, g.F, g'.bg⟩ M' p ∧ H' p = some o := by
  have hF : g'.F = upd g.F p o := e.fr
  have hp : g'.F p = some o := by rw [hF]; exact upd_same
  obtain ⟨f1, f2⟩ := w.frm p o hp
  refine ⟨w.unframe hF h0, ⟨e.hs, rfl, e.bg⟩, ⟨f2.1, h0, ?_, fun B hB q => ?_⟩, f1⟩
  · cases q : M' p with
    | none => rfl
    | some mo => have := (w.muts p mo q).2.1; rw [hp] at this; cases this
  · have := (w.bag B hB).2.2.1
    rw [← q, hp] at this
    cases this
theorem lc_up {K : PySem.W.Frag} {g0 : Gh} {wi : WI} {gr : TG} {g : WG} {tt : WT} {te : WE} {vs : List Nat} {σ : L2.St} {H : Hp} {Q : VK} (hi : MonoA wi) (hgm : MonoG g) (htm : MonoT tt) (hem : MonoE te)
    (hgu : ∀ g1 v d z σ H Q, RR K g1 z σ H → Has K g1 v d → g d z (fun z' => ∀ g' σ' H', g1.le g' → RR K g' z' σ' H' → L2.wipe σ' vs = L2.wipe σ vs → Q σ' H') → gr v σ H Q)
    (h : upE K g0 (wLc wi g tt te vs) σ H Q) : tLc (upI K g0 wi) gr (fun σ H Q => ∃ g0, upT K g0 tt σ H Q) (fun σ H Q => ∃ g0, upE K g0 te σ H Q) vs σ H Q := by
  obtain ⟨g1, z, l0, r, h⟩ := h
  refine ⟨g1, z, l0, r, hi _ _ _ (fun ds z1 ⟨hl, h1⟩ J g2 H2 e2 r2 wk D hD => ?_) h⟩
  let Go := lcGo g tt te (wipeD z1.ρ vs) (fun acc M => ∀ v g' H', g1.le g' → RR K g' ⟨z1.ρ, M⟩ σ H' → Has K g' v (.lst acc) → Q v H')
  have h1 : Go ds [] z1.M := h1
  let Pv : Nat → Hp → Prop := fun i H => ∃ g3 M acc av, g2.le g3 ∧ WR K g3 M H ∧ Lone g3 M D ∧ H D = some (.lst av) ∧ HasL K g3 av acc ∧ acc.length ≤ i ∧ Go (ds.drop i) acc M
  have L0 := Lone.of r2.wr hD
  refine ⟨fun i m H => m = ds.length - i ∧ i ≤ ds.length ∧ Pv i H, ⟨ds.length, by simp, Nat.zero_le _, g2, z1.M, [], [], .refl _, r2.wr.lone L0, L0, upd_same, .nil, Nat.le_refl _, by simpa using h1⟩, ?_⟩
  rintro i m H3 ⟨rfl, hi3, g3, M, acc, av, e3, w3, L3, hD3, ha3, hl3, h3⟩
  have wf := w3.frame (o := .lst av) (H' := H3) L3.hs L3.fr L3.mt L3.bg hD3 fun _ _ _ q => q
  have sf : g2.sub (g3.fr D (.lst av)) := ⟨e3.hs, e3.bg⟩
  by_cases hlt : i < ds.length
  · refine .inr ⟨wk.go i H3 M _ sf wf hlt, Pv (i + 1), fun H' p' => ⟨ds.length - (i + 1), by omega, rfl, hlt, p'⟩, fun x H4 y => ?_⟩
    obtain ⟨g4, d, e4, w4, hd, a4⟩ := wk.yld i H3 x H4 M _ sf wf hlt y
    rw [List.drop_eq_getElem_cons hlt] at h3
    have hd' : ds[i] = d := by
      rw [List.getElem?_eq_getElem hlt] at hd
      exact Option.some.inj hd
    rw [hd'] at h3
    have s34 : g2.sub g4 := ⟨Same.trans e3.hs e4.hs, fun B q => e4.bg B (e3.bg B q)⟩
    have r4 : RR K g4 ⟨wipeD z1.ρ vs, M⟩ (L2.wipe σ vs) H4 := ⟨w4, (r2.sl.wipe vs).sub s34⟩
    refine hgu g4 x d _ _ _ _ r4 a4 (hgm _ _ _ _ (fun z5 h5 g5 σ5 H5 e5 r5 q5 => ⟨by rw [q5, wipe_wipe], g5, g5, z5, .refl _, r5, htm _ _ _ (fun b z6 h6 g6 H6 e6 r6 => ?_) h5⟩) h3)
    have e46 := (e4.trans e5).trans e6
    cases b with
    | true =>
      refine ⟨g6, g6, z6, .refl _, r6, hem _ _ _ (fun yd z7 h7 v7 g7 H7 e7 r7 a7 => ?_) h6⟩
      obtain ⟨w8, e8, L8, hD8⟩ := Lone.back L3.fr (e46.trans e7) r7.wr
      have sb : g7.sub ⟨g7.Hs, g3.F, g7.bg⟩ := ⟨Same.refl _, fun _ q => q⟩
      refine ⟨av, hD8, Nat.lt_of_lt_of_le (Nat.lt_of_le_of_lt (ha3.length ▸ hl3) hlt) hl, ?_⟩
      refine ⟨_, z7.M, acc ++ [yd], av ++ [v7], e3.trans e8, w8.lone L8, L8, upd_same, (ha3.le e8).append (.one (a7.sub sb)), ?_, h7⟩
      rw [List.length_append]
      exact Nat.succ_le_succ hl3
    | false =>
      obtain ⟨w8, e8, L8, hD8⟩ := Lone.back L3.fr e46 r6.wr
      exact ⟨_, z6.M, acc, av, e3.trans e8, w8, L8, hD8, ha3.le e8, Nat.le_succ_of_le hl3, h6⟩
  · have e : i = ds.length := by omega
    subst e
    rw [List.drop_length] at h3
    refine .inl ⟨wk.stop H3 M _ sf wf, ?_⟩
    have ws := w3.share (o := .lst av) (H' := H3) L3.hs L3.fr L3.mt L3.bg hD3 fun _ _ _ q => q
    have le := Gh.le_add (o := .lst av) L3.hs
    exact h3 (.ref D) _ H3 ((e2.trans e3).trans le) ⟨ws, (r2.sl.le e3).le le⟩ (has_lst ha3 L3.hs)
section
variable {X : Cx} {g0 : Gh} {elt tg iter : Expr} {ifs : List Expr} {scope : Scope} {own : List (Str × Nat)} {pos : Pos} {wi : WI} {gr : TG} {g : WG} {tt : WT} {te : WE}
theorem wLc.mono {vs : List Nat} (hi : MonoA wi) (hgm : MonoG g) (htm : MonoT tt) (hem : MonoE te) : MonoE (wLc wi g tt te vs) := fun z Q Q' k h =>
  hi _ _ _ (fun ds z1 h1 => ⟨h1.1, lcGo.mono hgm htm hem (fun acc M q => k _ _ q) _ _ _ h1.2⟩) h
theorem qe_lc (hc : X.calm = true) (hN : X.N.Nodup) (hi : QI X g0 tg iter wi) (ok : BlkOk X.N X.env.scope scope own)
    (hg : ∀ (s : Shared) (H : Hp) (C : Addr) (cl : List (Str × Addr)) (fp : List Addr), QGo (X.blk s H scope (compEnvC scope cl C X.env) fp) (own.map (·.2)) tg gr g)
    (ht : ∀ (s : Shared) (H : Hp) (C : Addr) (cl : List (Str × Addr)) (fp : List Addr) (g0 : Gh), QTs (X.blk s H scope (compEnvC scope cl C X.env) fp) g0 ifs tt)
    (he : ∀ (s : Shared) (H : Hp) (C : Addr) (cl : List (Str × Addr)) (fp : List Addr) (g0 : Gh), QE (X.blk s H scope (compEnvC scope cl C X.env) fp) g0 elt te) (hs : ∀ x, foldedSetIterable iter X.env x = pure x := by intro _; rfl) :
    QE X g0 (.ListComp elt [⟨tg, iter, ifs, 0⟩] scope pos) (wLc wi g tt te (own.map (·.2))) := by
  have gm := (hg X.s_0 X.H_0 0 [] []).mono
  have tm := (ht X.s_0 X.H_0 0 [] [] g0).mono
  have em := (he X.s_0 X.H_0 0 [] [] g0).mono
  refine ⟨wLc.mono hi.mono gm tm em, (pe_lc (tt := fun σ H Q => ∃ g0, upT X.K g0 tt σ H Q) (te := fun σ H Q => ∃ g0, upE X.K g0 te σ H Q) hc hN hi.run ok (fun s H C cl fp => (hg s H C cl fp).run) (fun s H C cl fp => PTs.any fun g0 => (ht s H C cl fp g0).run) (fun s H C cl fp => PE.any fun g0 => (he s H C cl fp g0).run) hs).imp fun σ H Q h => ?_⟩
  exact lc_up hi.mono gm tm em (hg X.s_0 X.H_0 0 [] []).up h
end
end Q
set_option Elab.async false
set_option linter.all false
set_option maxRecDepth 100000
set_option maxHeartbeats 4000000
namespace Q
open PySem PySem.Spec PyProof.Rows L2 My
/-- what a def does, over data -/
abbrev Den := List D → Mp → KD → Prop
def MonoD (den : Den) : Prop := ∀ ds M Q Q', (∀ d M', Q d M' → Q' d M') → den ds M Q → den ds M Q'
def spD (K : PySem.W.Frag) (den : Den) : Sp := fun vs H Q _ => ∃ g M ds, WR K g M H ∧ HasL K g vs ds ∧ den ds M (lk K g Q)
theorem lf_spD {K : PySem.W.Frag} {den : Den} (h : MonoD den) : LfN K (fun vs H Q => spD K den vs H Q E0) den := ⟨h, fun g M H vs ds Q w a q => ⟨g, M, ds, w, a, q⟩⟩
/-- the plain state at a def's start -/
def ini (n : Nat) (ds : List D) : List (Option D) := ds.map some ++ List.replicate (n - ds.length) none
def enD (Q : KD) : En := ⟨fun z => Q .non z.M, Q, fun _ => False, fun _ => False⟩
section
variable {P : Program} {w : World} {K : PySem.W.Frag} {mg : Str → Option Value} {base : Heap} {k : Nat} {f : Addr} {fd : FuncData} {ps N : List Str} {x qual : Str} {st : Stmt} {den : Den} {wb : WS}
theorem qfn (F : Fun K x qual st f fd) (S : FnScope N ps (defScope st)) (len : ∀ ds M Q, den ds M Q → ds.length = ps.length)
    (hw : ∀ (cdv : Value) (A : Around) (outer : List Env) (s : Shared) (H : Hp) (E : XK) (g0 : Gh), Room k (A.deeper (envOfC qual (defScope st) s.heap.objs.size f cdv)) → A.guards = some [] →
      QSs (cxOf CX0 P w K mg base N qual (defScope st) f cdv A outer s H E).nox g0 (defBody st) wb)
    (hd : ∀ ds M Q, den ds M Q → wb (enD Q) ⟨ini N.length ds, M⟩) :
    FnG P w K mg base CX0 (k + 1) f fd ps (spD K den) := by
  refine okG F S (fun vs H Q E ⟨g, M, ds, hw, ha, hd⟩ => ha.length.trans (len ds M _ hd)) fun cdv A outer s H vs Q E hr hg ⟨g, M, ds, hwr, ha, h⟩ => ?_
  refine ⟨_, (hw cdv A outer s H E g hr hg).run, g, ⟨ini N.length ds, M⟩, .refl g, ⟨hwr, SlOk.ini ha⟩, (hw cdv A outer s H E g hr hg).mono (enD (lk K g Q)) _ _ ⟨fun z h g' σ' H' e r => h .non g' H' e r.wr .non, fun d M h => h, fun z h => h.elim, fun z h => h.elim⟩ (hd ds M _ h)⟩
end
section
variable {X : Cx} {g0 : Gh} {CX : CXT} {k : Nat} {f C : Addr} {fd : FuncData} {ps : List Str} {den : Den} {x m : Str} {p pos apos : Pos} {e o : Expr} {es : List Expr} {wa : WA} {we : WE}
theorem qe_call (F : FnG X.prog X.w X.K X.mg X.base CX0 k f fd ps (spD X.K den)) (hmo : MonoD den) (hr : Room k X.A) (hgd : X.A.guards = some []) (hm : X.mg x = some (.ref f)) (hk : PySem.W.keepIn X.K (.ref f) = true) (hb : Binds X.K fd ps [])
    (ha : QA X g0 (e :: es) wa) (hg : Gl X x := by rfl) (hdb : (x == ("__debug__" : Str)) = false := by decide)
    (he : starEach (e :: es) X.env = (false, eval e X.env) :: starEach es X.env := by rfl) (hpl : (backTo pos (starEach es X.env)).any (·.1) = false := by rfl) : QE X g0 (.Call (.Name x p) (e :: es) [] pos) (wN den wa) := by
  refine ⟨wN.mono (lf_spD (K := X.K) hmo) ha.mono, (pe_callG F hr hgd hg hm hk hb .nil pass0 ha.run hdb he hpl).imp fun σ H Q h => ?_⟩
  obtain ⟨g, z, l0, r, h⟩ := wN.up (lf_spD hmo) ha.mono h
  exact ⟨g, z, l0, r, ha.mono _ _ _ (fun ds z1 h1 vs g1 H1 e1 r1 a1 => by show spD X.K den (vs ++ []) H1 Q E0; rw [List.append_nil]; exact h1 vs g1 H1 e1 r1 a1) h⟩
theorem pe_methG {ds : List Value} {dvs : List V} {sp : Sp} {E : XK} {pl : Sem Bool} {ta : TE} {t : TA} (he : PE X o ta) (c : Cls X.K C) (hm : Meth X.K C m f) (F : FnG X.prog X.w X.K X.mg X.base CX k f fd ps sp) (hr : Room k X.A) (hgd : X.A.guards = some []) (hb : Binds X.K fd ps ds) (hd : Vals dvs ds) (hx : Passes CX X E) (ha : PA X (e :: es) t)
    (hst : starEach (e :: es) X.env = (false, eval e X.env) :: starEach es X.env := by rfl) (hpl : (backTo pos (starEach es X.env)).any (·.1) = false := by rfl)
    (ht : eval (.Call (.Attribute o m apos) (e :: es) [] pos) X.env = (do
      let ov ← eval o X.env
      standAt apos.atName
      let (f, first) ← holding [ov] (getMethod ov m pl)
      callWith pos f first (backTo pos (starEach (e :: es) X.env)) (backToKw pos (keywordEach [] X.env))) := by rfl) :
    PE X (.Call (.Attribute o m apos) (e :: es) [] pos) (tMeth C m sp dvs E ta t) := by
  refine ⟨fun pins s σ H Q I h => ?_⟩
  refine PySem.W.methodCall_KW (pl := pl) (thn (he.run pins s σ H _ I h) fun u s1 ⟨x, H1, I1, rx, a, dx, fs, ex, ea, l, q⟩ => ?_) ht
  subst ex
  obtain rfl : u = Value.ref a := rx
  refine getmeth_ok I1 ea c hm l ?_
  refine PySem.W.callWith_K (first := [.ref a]) (h₀ := X.base) I.ok.mod.kin hm.kp (thn (ha.run pos pins s1 σ H1 _ I1 q) fun us s2 ⟨vs, H2, I2, r, q2⟩ => ⟨I2.kIn, ?_⟩) hst hpl
  exact run_fnG (us := .ref a :: us) (vs := .ref a :: vs) F hr hgd hb hd hx I2 (.cons rfl r) q2
theorem pe_meth0G {ds : List Value} {dvs : List V} {sp : Sp} {E : XK} {pl : Sem Bool} {ta : TE} (he : PE X o ta) (c : Cls X.K C) (hm : Meth X.K C m f) (F : FnG X.prog X.w X.K X.mg X.base CX k f fd ps sp) (hr : Room k X.A) (hgd : X.A.guards = some []) (hb : Binds X.K fd ps ds) (hd : Vals dvs ds) (hx : Passes CX X E)
    (ht : eval (.Call (.Attribute o m apos) [] [] pos) X.env = (do
      let ov ← eval o X.env
      standAt apos.atName
      let (f, first) ← holding [ov] (getMethod ov m pl)
      callWith pos f first (backTo pos (starEach [] X.env)) (backToKw pos (keywordEach [] X.env))) := by rfl) :
    PE X (.Call (.Attribute o m apos) [] [] pos) (tMeth C m sp dvs E ta tNil) := by
  refine ⟨fun pins s σ H Q I h => ?_⟩
  refine PySem.W.methodCall_KW (pl := pl) (thn (he.run pins s σ H _ I h) fun u s1 ⟨x, H1, I1, rx, a, dx, fs, ex, ea, l, q⟩ => ?_) ht
  subst ex
  obtain rfl : u = Value.ref a := rx
  refine getmeth_ok I1 ea c hm l ?_
  exact PySem.W.callWith_K0 (first := [.ref a]) I1.kIn hm.kp (run_fnG (us := [.ref a]) (vs := [.ref a]) F hr hgd hb hd hx I1 (.cons rfl .nil) q)
theorem look_up {K : PySem.W.Frag} {g : Gh} {f : Str} : ∀ {fs : List (Str × D)} {fvs : List (Str × V)}, fs.map (·.1) = fvs.map (·.1) → HasL K g (fvs.map (·.2)) (fs.map (·.2)) →
    (∀ d, fs.lookup f = some d → ∃ v, fvs.lookup f = some v ∧ Has K g v d) ∧ (fs.lookup f = none → fvs.lookup f = none)
  | [], [], _, _ => ⟨fun d h => (nomatch h), fun _ => rfl⟩
  | [], _ :: _, h, _ => nomatch h
  | _ :: _, [], h, _ => nomatch h
  | (n, d) :: fs, (n', v) :: fvs, h, a => by
    simp only [List.map_cons, List.cons.injEq] at h
    obtain ⟨rfl, h⟩ := h
    simp only [List.map_cons] at a
    cases a with
    | cons a1 a2 =>
      obtain ⟨i1, i2⟩ := look_up (f := f) h a2
      simp only [List.lookup_cons]
      cases q : f == n with
      | true => exact ⟨fun d' e => ⟨v, rfl, by cases e; exact a1⟩, fun e => nomatch e⟩
      | false => exact ⟨i1, i2⟩
/-- an instance, and its fields -/
def inst (M : Mp) : D → Option (Addr × List (Str × D))
  | .obj C fs => some (C, fs)
  | .ref a => match M a with
    | some (.ins C fs) => some (C, fs)
    | _ => none
  | _ => none
theorem WR.seeO {K : PySem.W.Frag} {g : Gh} {M : Mp} {H : Hp} {v : V} {d : D} (w : WR K g M H) (h : Has K g v d) {C : Addr} {fs : List (Str × D)} (e : inst M d = some (C, fs)) :
    ∃ a dx fvs, v = .ref a ∧ H a = some (.ins C dx fvs) ∧ fs.map (·.1) = fvs.map (·.1) ∧ HasL K g (fvs.map (·.2)) (fs.map (·.2)) := by
  cases h with
  | ref a =>
    cases hm : M a with
    | none => simp [inst, hm] at e
    | some mo =>
      cases mo with
      | ins C' fs' =>
        simp [inst, hm] at e
        obtain ⟨rfl, rfl⟩ := e
        obtain ⟨dx, fvs, h1, h2, h3, h4⟩ := w.mt hm
        exact ⟨a, dx, fvs, rfl, h1, h3, h4⟩
      | _ => simp [inst, hm] at e
  | obj h1 h2 h3 h4 => cases e; exact ⟨_, _, _, rfl, w.sub _ _ h1, h3, h4⟩
  | _ => cases e
def wMeth (C : Addr) (m : Str) (den : Den) (we : WE) (wa : WA) : WE := fun z Q => we z fun d z1 => ∃ fs, inst z1.M d = some (C, fs) ∧ fs.lookup m = none ∧ wa z1 fun ds z2 => den (d :: ds) z2.M fun r M => Q r ⟨z2.ρ, M⟩
theorem wMeth.mono (hmo : MonoD den) (he : MonoE we) (ha : MonoA wa) : MonoE (wMeth C m den we wa) := fun z Q Q' k h => he _ _ _ (fun d z1 ⟨fs, h1, h2, h3⟩ => ⟨fs, h1, h2, ha _ _ _ (fun ds z2 h4 => hmo _ _ _ _ (fun r M q => k _ _ q) h4) h3⟩) h
theorem wMeth.up {K : PySem.W.Frag} (hmo : MonoD den) (he : MonoE we) (ha : MonoA wa) {σ : L2.St} {H : Hp} {Q : VK} (h : upE K g0 (wMeth C m den we wa) σ H Q) : tMeth C m (spD K den) [] E0 (upE K g0 we) (upA K g0 wa) σ H Q := by
  obtain ⟨g, z, l0, r, h⟩ := h
  refine ⟨g, z, l0, r, he _ _ _ (fun d z1 ⟨fs, h1, h2, h3⟩ v g1 H1 e1 r1 a1 => ?_) h⟩
  obtain ⟨a, dx, fvs, rfl, h4, h5, h6⟩ := r1.wr.seeO a1 h1
  refine ⟨a, dx, fvs, rfl, h4, (look_up h5 h6).2 h2, g1, z1, l0.trans e1, r1, ha _ _ _ (fun ds z2 h7 vs g2 H2 e2 r2 a2 => ?_) h3⟩
  show spD K den (V.ref a :: (vs ++ [])) H2 Q E0
  rw [List.append_nil]
  exact ⟨g2, z2.M, d :: ds, r2.wr, .cons (a1.le e2) a2, hmo _ _ _ _ (fun r M q v g3 H3 e3 w3 a3 => q v g3 H3 ((e1.trans e2).trans e3) (r2.le e3 w3) a3) h7⟩
theorem qe_meth {pl : Sem Bool} (c : Cls X.K C) (hm : Meth X.K C m f) (F : FnG X.prog X.w X.K X.mg X.base CX0 k f fd ps (spD X.K den)) (hmo : MonoD den) (hr : Room k X.A) (hgd : X.A.guards = some []) (hb : Binds X.K fd ps []) (he : QE X g0 o we) (ha : QA X g0 (e :: es) wa)
    (hst : starEach (e :: es) X.env = (false, eval e X.env) :: starEach es X.env := by rfl) (hpl : (backTo pos (starEach es X.env)).any (·.1) = false := by rfl)
    (ht : eval (.Call (.Attribute o m apos) (e :: es) [] pos) X.env = (do
      let ov ← eval o X.env
      standAt apos.atName
      let (f, first) ← holding [ov] (getMethod ov m pl)
      callWith pos f first (backTo pos (starEach (e :: es) X.env)) (backToKw pos (keywordEach [] X.env))) := by rfl) :
    QE X g0 (.Call (.Attribute o m apos) (e :: es) [] pos) (wMeth C m den we wa) :=
  ⟨wMeth.mono hmo he.mono ha.mono, (pe_methG he.run c hm F hr hgd hb .nil pass0 ha.run hst hpl ht).imp fun σ H Q h => wMeth.up hmo he.mono ha.mono h⟩
theorem qe_meth0 {pl : Sem Bool} (c : Cls X.K C) (hm : Meth X.K C m f) (F : FnG X.prog X.w X.K X.mg X.base CX0 k f fd ps (spD X.K den)) (hmo : MonoD den) (hr : Room k X.A) (hgd : X.A.guards = some []) (hb : Binds X.K fd ps []) (he : QE X g0 o we)
    (ht : eval (.Call (.Attribute o m apos) [] [] pos) X.env = (do
      let ov ← eval o X.env
      standAt apos.atName
      let (f, first) ← holding [ov] (getMethod ov m pl)
      callWith pos f first (backTo pos (starEach [] X.env)) (backToKw pos (keywordEach [] X.env))) := by rfl) :
    QE X g0 (.Call (.Attribute o m apos) [] [] pos) (wMeth C m den we wNil) := by
  refine ⟨wMeth.mono hmo he.mono fun z Q Q' k h => k _ _ h, (pe_meth0G he.run c hm F hr hgd hb .nil pass0 ht).imp fun σ H Q h => ?_⟩
  have q := wMeth.up (wa := wNil) hmo he.mono (fun z Q Q' k h => k _ _ h) h
  obtain ⟨g, z, l0, r, h⟩ := q
  exact ⟨g, z, l0, r, he.mono _ _ _ (fun d z1 h1 v g1 H1 e1 r1 a1 => by
    obtain ⟨a, dx, fvs, rfl, h2, h3, g2, z2, l2, r2, h4⟩ := h1 v g1 H1 e1 r1 a1
    exact ⟨a, dx, fvs, rfl, h2, h3, h4 [] g2 H1 (.refl _) r2 .nil⟩) h⟩
/-- o.f -/
def wFld (C : Addr) (f : Str) (we : WE) : WE := fun z Q => we z fun d z1 => ∃ fs r, inst z1.M d = some (C, fs) ∧ fs.lookup f = some r ∧ Q r z1
theorem qe_fld {f : Str} (c : Cls X.K C) (n : NoAttr X.K C f) (he : QE X g0 e we) (hb : attributeBase e f X.env (eval e X.env) = eval e X.env := by rfl) : QE X g0 (.Attribute e f pos) (wFld C f we) := by
  refine ⟨fun z Q Q' k h => he.mono _ _ _ (fun d z1 ⟨fs, r, h1, h2, h3⟩ => ⟨fs, r, h1, h2, k _ _ h3⟩) h, (pe_fld he.run hb).imp fun σ H Q ⟨g, z, l0, r, h⟩ => ⟨g, z, l0, r, he.mono _ _ _ (fun d z1 ⟨fs, y, h1, h2, h3⟩ v g1 H1 e1 r1 a1 => ?_) h⟩⟩
  obtain ⟨a, dx, fvs, rfl, h4, h5, h6⟩ := r1.wr.seeO a1 h1
  obtain ⟨u, h7, h8⟩ := (look_up (f := f) h5 h6).1 _ h2
  exact ⟨a, C, dx, fvs, u, rfl, h4, c, n, h7, h3 u g1 H1 e1 r1 h8⟩
def putFD (f : Str) (v : D) : List (Str × D) → List (Str × D)
  | [] => [(f, v)]
  | (n, u) :: r => if n = f then (n, v) :: r else (n, u) :: putFD f v r
theorem putFD_ok {K : PySem.W.Frag} {g : Gh} {f : Str} {d : D} {v : V} (a : Has K g v d) : ∀ {fs : List (Str × D)} {fvs : List (Str × V)}, fs.map (·.1) = fvs.map (·.1) → HasL K g (fvs.map (·.2)) (fs.map (·.2)) →
    (putFD f d fs).map (·.1) = (putF f v fvs).map (·.1) ∧ HasL K g ((putF f v fvs).map (·.2)) ((putFD f d fs).map (·.2))
  | [], [], _, _ => ⟨rfl, .one a⟩
  | [], _ :: _, h, _ => nomatch h
  | _ :: _, [], h, _ => nomatch h
  | (n, d') :: fs, (n', v') :: fvs, h, b => by
    simp only [List.map_cons, List.cons.injEq] at h
    obtain ⟨rfl, h⟩ := h
    simp only [List.map_cons] at b
    cases b with
    | cons b1 b2 =>
      obtain ⟨i1, i2⟩ := putFD_ok (f := f) a h b2
      by_cases q : n = f
      · simp only [putFD, putF, if_pos q, List.map_cons]
        exact ⟨congrArg _ h, .cons a b2⟩
      · simp only [putFD, putF, if_neg q, List.map_cons]
        exact ⟨congrArg _ i1, .cons b1 i2⟩
/-- o.f = e -/
def sFldD (C : Addr) (f : Str) (we wv : WE) : WS := fun E z => wv z fun y z1 => we z1 fun d z2 => ∃ p fs, d = .ref p ∧ z2.M p = some (.ins C fs) ∧ fs.length < 1000 ∧ E.nx ⟨z2.ρ, mupd z2.M p (some (.ins C (putFD f y fs)))⟩
theorem qs_fld {f : Str} {value : Expr} {wv : WE} {pos' : Pos} (c : Cls X.K C) (n : NoAttr X.K C f) (ha : QE X g0 o we) (hv : QE X g0 value wv) (hs : swapsWith value (some (.Attribute o f pos')) pos.line X.env = pure false := by rfl) : QS X g0 (.Assign [.Attribute o f pos'] value pos) (sFldD C f we wv) := by
  refine ⟨fun E E' z l h => hv.mono _ _ _ (fun y z1 h1 => ha.mono _ _ _ (fun d z2 ⟨p, fs, h2, h3, h4, h5⟩ => ⟨p, fs, h2, h3, h4, l.nx _ h5⟩) h1) h, (ps_fld ha.run hv.run hs).imp fun D σ H ⟨g, z, l0, r, h⟩ => ⟨g, z, l0, r, hv.mono _ _ _ (fun y z1 h1 v g1 H1 e1 r1 a1 => ⟨g1, z1, l0.trans e1, r1, ha.mono _ _ _ (fun d z2 ⟨p, fs, h2, h3, h4, h5⟩ u g2 H2 e2 r2 a2 => ?_) h1⟩) h⟩⟩
  subst h2
  cases a2
  obtain ⟨dx, fvs, h6, h7, h8, h9⟩ := r2.wr.mt h3
  obtain ⟨k1, k2⟩ := putFD_ok (f := f) (a1.le e2) h8 h9
  refine ⟨p, C, dx, fvs, rfl, h6, c, n, ?_, h5 g2 σ _ (e1.trans e2) ⟨r2.wr.put h3 ⟨dx, _, upd_same, h7, k1, k2⟩, r2.sl⟩⟩
  have := congrArg List.length h8
  simp at this
  omega
/-- C(..): a new instance, which stands still from here on -/
def wMake (C : Addr) (den : Den) (wa : WA) : WE := fun z Q => wa z fun ds z1 => ∀ p, z1.M p = none → den (.ref p :: ds) (mupd z1.M p (some (.ins C []))) fun r M => r = .non ∧ ∃ fs, M p = some (.ins C fs) ∧ Q (.obj C fs) ⟨z1.ρ, mupd M p none⟩
/-- .. which may change -/
def wMakeM (C : Addr) (den : Den) (wa : WA) : WE := fun z Q => wa z fun ds z1 => ∀ p, z1.M p = none → den (.ref p :: ds) (mupd z1.M p (some (.ins C []))) fun r M => r = .non ∧ Q (.ref p) ⟨z1.ρ, M⟩
theorem WR.made {K : PySem.W.Frag} {g : Gh} {M : Mp} {H : Hp} {x dx : Addr} (w : WR K g M H) (hx : H x = none) (hd : H dx = none) (ne : dx ≠ x) :
    WR K (g.add dx (.own x)) (mupd M x (some (.ins C []))) (upd (upd H dx (.own x)) x (.ins C dx [])) := by
  have w1 := w.new (o := .own x) hd
  have hx1 : upd H dx (.own x) x = none := by rw [upd_ne (Ne.symm ne)]; exact hx
  exact w1.open' (w1.hsn hx1) (w1.frn hx1) (fun B hB => w1.nbag hx1 hB) ⟨dx, [], upd_same, Gh.add_same, rfl, .nil⟩ fun a u q hu => by rw [upd_ne q]; exact hu
end
end Q
set_option Elab.async false
set_option linter.all false
set_option maxRecDepth 100000
set_option maxHeartbeats 4000000
namespace My
open PySem PySem.Spec PyProof.Rows L2
def tyD : PyData → String
  | .none => "NoneType"
  | .bool _ => "bool"
  | .int _ => "int"
  | .str _ => "str"
  | .list _ => "list"
  | .tuple _ => "tuple"
  | .dict _ => "dict"
theorem Dx.ty {K : PySem.W.Frag} {H : Hp} {v : V} {d : PyData} (h : Dx K H v d) : TyX K H v (.type (tyD d)) := by
  cases h with
  | non => exact .base .non
  | bl b => exact .base (.bl b)
  | int i => exact .base (.int i)
  | str x => exact .base (.str x)
  | lst h _ =>
    rcases h with (h | ⟨o, h⟩) | ⟨o, its, n, h, c, _⟩
    · exact .base (.lst h)
    · exact .base (.frz h)
    · exact .kList h c
  | tup h _ =>
    rcases h with (h | ⟨o, h⟩) | ⟨o, its, n, h, c, _⟩
    · exact .base (.tup h)
    · exact .fTuple h
    · exact .kTuple h c
  | dic h _ _ =>
    rcases h with h | ⟨o, h⟩
    · exact .base (.dK h)
    · exact .fDict h
section
variable {J : It} {n : Nat} {G : Hp → Prop} {Y : Nat → Hp → V → Hp → Prop}
theorem range_succ_filterMap (f : Nat → Option V) (i : Nat) : (List.range (i + 1)).filterMap f = (List.range i).filterMap f ++ (f i).toList := by
  rw [List.range_succ, List.filterMap_append]
  cases h : f i <;> simp [h]
/-- [.. for x in ..]: the values by the turn, none where the test says no; nothing that stood is changed -/
theorem lc_map (w : Walk J n G Y) {g : TG} {tt : TT} {te : TE} {vs : List Nat} {σ : L2.St} {H1 : Hp} {D : Addr} {Qd : Hp → Prop} (hn : n ≤ sizeLine) (hD : H1 D = none)
    (hG : ∀ H, Same H1 H → G H) (f : Nat → Option V)
    (hs : ∀ i x H H' (R : VK) (Rn : Hp → Prop), i < n → Same H1 H → Y i H x H' → (∀ y H4, f i = some y → Same H H4 → R y H4) → (∀ H3, f i = none → Same H H3 → Rn H3) →
      g x (wipe σ vs) H' fun σ2 H2 => wipe σ2 vs = wipe σ vs ∧ tt σ2 H2 fun b H3 => if b = true then te σ2 H3 R else Rn H3)
    (hd : ∀ H, Same H1 H → H D = some (.lst ((List.range n).filterMap f)) → Qd H) :
    ∃ W : Nat → Nat → Hp → Prop, (∃ m, W 0 m (upd H1 D (.lst []))) ∧ ∀ i m H, W i m H →
      (J.stop i H ∧ Qd H) ∨ (J.go i H ∧ ∃ Nx : Hp → Prop, (∀ H', Nx H' → ∃ m', m' < m ∧ W (i + 1) m' H') ∧ ∀ x H', J.yld i H x H' → g x (wipe σ vs) H' fun σ2 H2 => wipe σ2 vs = wipe σ vs ∧ tt σ2 H2 fun b H3 =>
        if b = true then te σ2 H3 fun y H4 => ∃ acc, H4 D = some (.lst acc) ∧ acc.length < sizeLine ∧ Nx (upd H4 D (.lst (acc ++ [y]))) else Nx H3) := by
  refine lc_it w (fun i H => Same H1 H ∧ H D = some (.lst ((List.range i).filterMap f))) ⟨same_new hD, upd_same⟩ (fun i H _ p => hG H p.1) (fun i x H H' hi p y => ?_) (fun H p => hd H p.1 p.2)
  refine hs i x H H' _ _ hi p.1 y (fun v H4 q1 q2 => ⟨_, q2 _ _ p.2, ?_, fun a o e => ?_, ?_⟩) (fun H3 q1 q2 => ⟨p.1.trans q2, ?_⟩)
  · refine Nat.lt_of_le_of_lt (Nat.le_trans (List.length_filterMap_le _ _) ?_) (Nat.lt_of_lt_of_le hi hn)
    rw [List.length_range]
    exact Nat.le_refl _
  · rw [upd_ne (ne_of_none e hD)]
    exact q2 _ _ (p.1 a o e)
  · rw [upd_same, range_succ_filterMap, q1]
    rfl
  · rw [range_succ_filterMap, q1]
    exact (q2 _ _ p.2).trans (by rw [Option.toList_none, List.append_nil])
end
end My
set_option Elab.async false
set_option linter.all false
set_option maxRecDepth 100000
set_option maxHeartbeats 4000000
namespace My
open PySem PySem.Spec PyProof.Rows L2
theorem range_bind {α : Type} (g : α → Option V) : ∀ xs : List α, (List.range xs.length).filterMap (fun i => (xs[i]?).bind g) = xs.filterMap g
  | [] => rfl
  | x :: xs => by
    have ih := range_bind g xs
    rw [List.length_cons, List.range_succ_eq_map, List.filterMap_cons, List.filterMap_map]
    have e : ((fun i => ((x :: xs)[i]?).bind g) ∘ Nat.succ) = fun i => (xs[i]?).bind g := by
      funext i
      simp
    rw [e, ih]
    simp [List.filterMap_cons]
theorem range_map {α : Type} (g : α → V) (xs : List α) : (List.range xs.length).filterMap (fun i => (xs[i]?).map g) = xs.map g := by
  have h := range_bind (fun x => some (g x)) xs
  rw [List.filterMap_eq_map'] at h
  rw [← h]
  congr 1
  funext i
  cases xs[i]? <;> rfl
theorem Dxs.length {K : PySem.W.Frag} {H : Hp} : ∀ {vs : List V} {ds : List PyData}, Dxs K H vs ds → vs.length = ds.length
  | _, _, .nil => rfl
  | _, _, .cons _ t => congrArg Nat.succ (Dxs.length t)
theorem Dxs.get {K : PySem.W.Frag} {H : Hp} : ∀ {vs : List V} {ds : List PyData} {i : Nat} {v : V}, Dxs K H vs ds → vs[i]? = some v → ∃ d, ds[i]? = some d ∧ Dx K H v d
  | _, _, _, _, .nil, e => by simp at e
  | _, _, 0, _, .cons h _, e => by
    simp at e
    subst e
    exact ⟨_, rfl, h⟩
  | _, _, i + 1, v, .cons _ t, e => by
    obtain ⟨d, h1, h2⟩ := Dxs.get (i := i) (v := v) t (by simpa using e)
    exact ⟨d, by simpa using h1, h2⟩
theorem line200 {n : Nat} (h : n ≤ 200000) : n ≤ sizeLine := Nat.le_trans h (by decide)
end My
set_option Elab.async false
set_option linter.all false
set_option maxRecDepth 100000
set_option maxHeartbeats 4000000
namespace My
open PySem PySem.Spec PyProof.Rows L2
/-- a text of at most n plain signs -/
def TxOk (n : Nat) (x : Str) : Prop := x.length ≤ n ∧ ∀ c ∈ x.cps.toList, c < 128
theorem TxOk.mono {n m : Nat} {x : Str} (h : TxOk n x) (k : n ≤ m) : TxOk m x := ⟨Nat.le_trans h.1 k, h.2⟩
theorem TxOk.app {n m : Nat} {x y : Str} (h : TxOk n x) (k : TxOk m y) : TxOk (n + m) (x ++ y) := by
  refine ⟨by rw [PySem.strLen_append]; exact Nat.add_le_add h.1 k.1, fun c hc => ?_⟩
  have e : (x ++ y).cps.toList = x.cps.toList ++ y.cps.toList := by
    show (x.cps ++ y.cps).toList = _
    exact Array.toList_append
  rw [e] at hc
  exact (List.mem_append.mp hc).elim (h.2 c) (k.2 c)
theorem TxOk.cut {n : Nat} {x : Str} (h : TxOk n x) (lo hi : Option Int) : TxOk n (cutS x lo hi) :=
  ⟨Nat.le_trans (cutS_length x lo hi) h.1, fun c hc => h.2 c (List.mem_of_mem_drop (List.mem_of_mem_take (show c ∈ (x.cps.toList.drop _).take _ from hc)))⟩
theorem TxOk.one {c : Nat} (h : c < 128) : TxOk 1 ⟨#[c]⟩ := ⟨Nat.le_refl _, fun d hd => by
  have e : d = c := by simpa using hd
  rw [e]
  exact h⟩
theorem TxOk.join : ∀ {ys : List Str}, (∀ y ∈ ys, TxOk 1 y) → TxOk ys.length (Txt.join "" ys)
  | ys, h => by
    rw [TL.join_eq]
    induction ys with
    | nil => exact ⟨Nat.le_refl _, fun c hc => absurd hc (by decide +kernel +revert)⟩
    | cons x r ih =>
      cases r with
      | nil => exact h x List.mem_cons_self
      | cons y r =>
        have h1 := ih fun z hz => h z (List.mem_cons_of_mem _ hz)
        have h2 : TxOk 1 (x ++ ("" : Str)) := by
          have := (h x List.mem_cons_self).app (y := ("" : Str)) (m := 0) ⟨Nat.le_refl _, fun c hc => absurd hc (by decide +kernel +revert)⟩
          exact this
        have h3 := h2.app h1
        rw [Nat.add_comm] at h3
        exact h3
theorem atI_ex {α : Type} {l : List α} {v : Int} (h0 : 0 ≤ v) (h1 : v < l.length) : ∃ c, atI l v = some c ∧ c ∈ l := by
  have h2 : v.toNat < l.length := by omega
  refine ⟨l[v.toNat], ?_, List.getElem_mem h2⟩
  have := atI_nat (List.getElem?_eq_getElem h2)
  rwa [Int.toNat_of_nonneg h0] at this
theorem sumlen_le {ys : List Str} {n : Nat} (h : ∀ y ∈ ys, TxOk n y) : (ys.map (·.length)).sum ≤ ys.length * n := by
  induction ys with
  | nil => exact Nat.zero_le _
  | cons x r ih =>
    have h1 := ih fun z hz => h z (List.mem_cons_of_mem _ hz)
    have h2 := (h x List.mem_cons_self).1
    rw [List.map_cons, List.sum_cons, List.length_cons, Nat.succ_mul]
    omega
/-- _law_bag's promise -/
def spBag (K : PySem.W.Frag) : Sp := fun vs H Q _ => ∃ (a : Addr) (ns : List Int), vs = [.ref a] ∧ SqL K H a (ns.map V.int) ∧ ns.length ≤ 63 ∧
  ∀ (B : BI) (H' : Hp), Same H H' → H B.b = none → BagOk H' B → Q (.ref B.b) H'
theorem cut_ints (ns : List Int) (lo hi : Option Int) : ∃ ms : List Int, cutV (ns.map V.int) lo hi = ms.map V.int := by
  refine ⟨(ns.drop (HT.sIx (ns.map V.int).length 0 lo)).take (HT.sIx (ns.map V.int).length (ns.map V.int).length hi - HT.sIx (ns.map V.int).length 0 lo), ?_⟩
  unfold cutV
  rw [List.map_take, List.map_drop]
end My
set_option Elab.async false
set_option linter.all false
set_option maxRecDepth 100000
set_option maxHeartbeats 4000000
namespace My
open PySem PySem.Spec PyProof.Rows L2
theorem Keep.fresh {H H' : Hp} {B : BI} {p : Addr} (k : Keep B.b H H') (hB : BagOk H' B) (h : H' p = none) : H p = none := by
  cases q : H p with
  | none => rfl
  | some o =>
    rw [k.get q (hB.ne h)] at h
    cases h
/-- what the law's values are like -/
structure Fine (n m : Nat) (d : PyData) : Prop where
  able : d.showable = true
  short : d.leavesShort 50 = true
  wt : d.weight ≤ n
  dp : d.depth ≤ m
theorem Fine.mono {n m n' m' : Nat} {d : PyData} (h : Fine n m d) (h1 : n ≤ n') (h2 : m ≤ m') : Fine n' m' d := ⟨h.able, h.short, Nat.le_trans h.wt h1, Nat.le_trans h.dp h2⟩
theorem Fine.shows {n m : Nat} {d : PyData} (h : Fine n m d) (h1 : n ≤ 200000) (h2 : m ≤ 100) : Shows d := by
  refine ⟨h.able, ?_, Nat.le_trans h.dp h2⟩
  have h3 := PyData.shown_le 50 (by decide) d h.short
  have h4 := h.wt
  rw [sizeLine_eq]
  omega
theorem Fine.str {x : Str} {n : Nat} (h : TxOk n x) : Fine n 0 (.str x) := by
  refine ⟨rfl, ?_, h.1, Nat.le_refl _⟩
  simp only [PyData.leavesShort, List.all_eq_true, decide_eq_true_eq]
  intro c hc
  exact Nat.lt_of_lt_of_le (h.2 c hc) (by decide)
end My
set_option Elab.async false
set_option linter.all false
set_option maxRecDepth 100000
set_option maxHeartbeats 4000000
namespace Q
open PySem PySem.Spec PyProof.Rows L2 My
abbrev RD2 := D → D → Mp → KD → Prop
abbrev RDN := List D → Mp → KD → Prop
abbrev RD1 := D → Mp → KD → Prop
def rOf2 (K : PySem.W.Frag) (rd : RD2) : R2 := fun v u H Q => ∃ g M x y, WR K g M H ∧ Has K g v x ∧ Has K g u y ∧ rd x y M (lk K g Q)
def rOfN (K : PySem.W.Frag) (rd : RDN) : List V → Hp → VK → Prop := fun vs H Q => ∃ g M ds, WR K g M H ∧ HasL K g vs ds ∧ rd ds M (lk K g Q)
def rOf1 (K : PySem.W.Frag) (rd : RD1) : V → Hp → VK → Prop := fun v H Q => ∃ g M x, WR K g M H ∧ Has K g v x ∧ rd x M (lk K g Q)
def Mono2 (rd : RD2) : Prop := ∀ x y M Q Q', (∀ d M', Q d M' → Q' d M') → rd x y M Q → rd x y M Q'
def MonoN (rd : RDN) : Prop := ∀ ds M Q Q', (∀ d M', Q d M' → Q' d M') → rd ds M Q → rd ds M Q'
def Mono1 (rd : RD1) : Prop := ∀ x M Q Q', (∀ d M', Q d M' → Q' d M') → rd x M Q → rd x M Q'
theorem lf2_of {K : PySem.W.Frag} {rd : RD2} (h : Mono2 rd) : Lf2 K (rOf2 K rd) rd := ⟨h, fun g M H v u x y Q w hx hy q => ⟨g, M, x, y, w, hx, hy, q⟩⟩
theorem lfN_of {K : PySem.W.Frag} {rd : RDN} (h : MonoN rd) : LfN K (rOfN K rd) rd := ⟨h, fun g M H vs ds Q w hx q => ⟨g, M, ds, w, hx, q⟩⟩
theorem lf1_of {K : PySem.W.Frag} {rd : RD1} (h : Mono1 rd) : Lf1 K (rOf1 K rd) rd := ⟨h, fun g M H v x Q w hx q => ⟨g, M, x, w, hx, q⟩⟩
/-- an operation of two data -/
structure DO2 (X : Cx) (f : Value → Value → Sem Value) (rd : RD2) : Prop where
  mono : Mono2 rd
  run : OpR X f (rOf2 X.K rd)
structure DO1 (X : Cx) (f : Value → Sem Value) (rd : RD1) : Prop where
  mono : Mono1 rd
  run : UnR X f (rOf1 X.K rd)
structure DON (X : Cx) (f : Value) (rd : RDN) : Prop where
  mono : MonoN rd
  run : CallR X f (rOfN X.K rd)
section
variable {X : Cx} {g0 : Gh} {a b c e : Expr} {es : List Expr} {wa wb wc : WE} {w : WA} {pos p : Pos} {x : Str}
theorem q2 {op : Operator} {rd : RD2} (o : DO2 X (binaryOp op) rd) (ha : QE X g0 a wa) (hb : QE X g0 b wb) : QE X g0 (.BinOp a op b pos) (wOp rd wa wb) := qe_op o.run (lf2_of o.mono) ha hb
theorem qc {op : CmpOp} {rd : RD2} (o : DO2 X (compareOp op) rd) (ha : QE X g0 a wa) (hb : QE X g0 b wb) (hm : behindInMarks op b = false := by first | exact nomark _ | rfl) : QE X g0 (.Compare a [op] [b] pos) (wOp rd wa wb) := qe_cmp o.run (lf2_of o.mono) ha hb hm
theorem qct {op : CmpOp} {rd : RD2} (o : DO2 X (compareOp op) rd) (ha : QE X g0 a wa) (hb : QE X g0 b wb) (hm : behindInMarks op b = false := by first | exact nomark _ | rfl) : QT X g0 (.Compare a [op] [b] pos) (wB (wOp rd wa wb)) := qt_cmp o.run (lf2_of o.mono) ha hb hm
theorem q1 {op : UnaryOp} {rd : RD1} (o : DO1 X (unaryOp op) rd) (ha : QE X g0 a wa) : QE X g0 (.UnaryOp op a pos) (wUn rd wa) := qe_un o.run (lf1_of o.mono) ha
theorem qB {id : String} {rd : RDN} (o : DON X (.builtin id) rd) (hm : X.mg x = none) (ha : QA X g0 (e :: es) w) (hg : Gl X x := by rfl) (hv : bootBuiltins x = some (.builtin id) := by decide +kernel)
    (hn : x ≠ "__name__" := by decide) (hdb : (x == ("__debug__" : Str)) = false := by decide) (he : starEach (e :: es) X.env = (false, eval e X.env) :: starEach es X.env := by rfl) (hpl : (backTo pos (starEach es X.env)).any (·.1) = false := by rfl) : QE X g0 (.Call (.Name x p) (e :: es) [] pos) (wN rd w) :=
  qe_callB o.run (lfN_of o.mono) hm ha hg hv hn hdb he hpl
theorem qT {T : String} {rd : RDN} (o : DON X (.type T) rd) (hm : X.mg x = none) (ha : QA X g0 (e :: es) w) (hg : Gl X x := by rfl) (hv : bootBuiltins x = some (.type T) := by decide +kernel)
    (hn : x ≠ "__name__" := by decide) (hdb : (x == ("__debug__" : Str)) = false := by decide) (he : starEach (e :: es) X.env = (false, eval e X.env) :: starEach es X.env := by rfl) (hpl : (backTo pos (starEach es X.env)).any (·.1) = false := by rfl) : QE X g0 (.Call (.Name x p) (e :: es) [] pos) (wN rd w) :=
  qe_callTy o.run (lfN_of o.mono) hm ha hg hv hn hdb he hpl
def rdAdd (x y : D) (M : Mp) (Q : KD) : Prop := match look M x, look M y with
  | .int i, .int j => Q (.int (i + j)) M
  | .str i, .str j => i.length + j.length ≤ sizeLine ∧ Q (.str (i ++ j)) M
  | .lst a, .lst b => a.length + b.length ≤ sizeLine ∧ Q (.lst (a ++ b)) M
  | .tup a, .tup b => a.length + b.length ≤ sizeLine ∧ Q (.tup (a ++ b)) M
  | _, _ => False
theorem d_add : DO2 X (binaryOp .Add) rdAdd := by
  refine ⟨fun x y M Q Q' k h => ?_, fun pins s σ H v u ov uv Q I rv ru ⟨g, M, x, y, w, hx, hy, h⟩ => ?_⟩
  · unfold rdAdd at h ⊢
    split at h <;> rename_i e1 e2 <;> (try simp only [e1, e2]) <;> first | exact k _ _ h | exact ⟨h.1, k _ _ h.2⟩ | exact h.elim
  · unfold rdAdd at h
    split at h
    · rename_i i j e1 e2
      exact op_add pins s σ H v u ov uv Q I rv ru ⟨i, j, seeI hx e1, seeI hy e2, lk_at h w (.int _)⟩
    · rename_i i j e1 e2
      exact op_add_str pins s σ H v u ov uv Q I rv ru ⟨i, j, seeS hx e1, seeS hy e2, h.1, lk_at h.2 w (.str _)⟩
    · rename_i a b e1 e2
      obtain ⟨p, xs, rfl, h1, h2⟩ := w.seeL hx e1
      obtain ⟨q, ys, rfl, h3, h4⟩ := w.seeL hy e2
      exact op_cat pins s σ H _ _ ov uv Q I rv ru ⟨p, q, xs, ys, rfl, rfl, h1, h3, by rw [h2.length, h4.length]; exact h.1, fun l hl => lk_new h.2 w hl (has_lst (h2.append h4) (w.hsn hl))⟩
    · rename_i a b e1 e2
      obtain ⟨p, xs, rfl, h1, h2⟩ := w.seeT hx e1
      obtain ⟨q, ys, rfl, h3, h4⟩ := w.seeT hy e2
      have q1 : Has X.K g (.ref p) (.tup a) := by
        cases hx with
        | tup k1 k2 => cases e1; exact .tup k1 k2
        | ref _ => rcases look_ref (M := M) (a := p) with ⟨_, q⟩ | ⟨_, q⟩ | ⟨_, q⟩ | q <;> (rw [q] at e1; cases e1)
        | _ => cases e1
      have q2 : Has X.K g (.ref q) (.tup b) := by
        cases hy with
        | tup k1 k2 => cases e2; exact .tup k1 k2
        | ref _ => rcases look_ref (M := M) (a := q) with ⟨_, q'⟩ | ⟨_, q'⟩ | ⟨_, q'⟩ | q' <;> (rw [q'] at e2; cases e2)
        | _ => cases e2
      refine op_catA pins s σ H _ _ ov uv Q I rv ru ⟨p, q, xs, ys, rfl, rfl, SqT.of h1, SqT.of h3, by rw [h2.length, h4.length]; exact h.1, fun e => ?_, fun _ e => ?_, fun _ _ l hl => lk_new h.2 w hl (has_tup (h2.append h4) (w.hsn hl))⟩
      · subst e
        cases h2
        exact lk_at h.2 w q2
      · subst e
        cases h4
        rw [List.append_nil] at h
        exact lk_at h.2 w q1
    · exact h.elim
def rdI (C : Int → Int → Prop) (f : Int → Int → D) (x y : D) (M : Mp) (Q : KD) : Prop := match x, y with
  | .int i, .int j => C i j ∧ Q (f i j) M
  | _, _ => False
theorem rdI.mono {C : Int → Int → Prop} {f : Int → Int → D} : Mono2 (rdI C f) := fun x y M Q Q' k h => by
  unfold rdI at h ⊢
  split at h
  · exact ⟨h.1, k _ _ h.2⟩
  · exact h.elim
theorem dI {f : Value → Value → Sem Value} {C : Int → Int → Prop} {r : Int → Int → V} {r' : Int → Int → D} (o : OpR X f (rI C r)) (hr : ∀ g i j, Has X.K g (r i j) (r' i j)) : DO2 X f (rdI C r') := by
  refine ⟨rdI.mono, fun pins s σ H v u ov uv Q I rv ru ⟨g, M, x, y, w, hx, hy, h⟩ => ?_⟩
  unfold rdI at h
  split at h
  · cases hx
    cases hy
    exact o pins s σ H _ _ ov uv Q I rv ru ⟨_, _, rfl, rfl, h.1, lk_at h.2 w (hr g _ _)⟩
  · exact h.elim
abbrev rdMod : RD2 := rdI (fun _ j => 0 < j) fun i j => .int (i % j)
abbrev rdPow : RD2 := rdI CPow fun i j => .int (i ^ j.toNat)
theorem d_mod : DO2 X (binaryOp .Mod) rdMod := dI op_mod fun _ _ _ => .int _
theorem d_pow : DO2 X (binaryOp .Pow) rdPow := dI op_pow fun _ _ _ => .int _
/-- times: of two ints, of a list and an int -/
def rdMul (x y : D) (M : Mp) (Q : KD) : Prop := match look M x, y with
  | .int i, .int j => CMul i j ∧ Q (.int (i * j)) M
  | .lst a, .int k => (-(2 ^ 63) ≤ k ∧ k < 2 ^ 63 ∧ a.length * k.toNat ≤ sizeLine) ∧ Q (.lst (List.replicate k.toNat a).flatten) M
  | _, _ => False
theorem HasL.rep {K : PySem.W.Frag} {g : Gh} {xs : List V} {ds : List D} (h : HasL K g xs ds) : ∀ n, HasL K g (List.replicate n xs).flatten (List.replicate n ds).flatten
  | 0 => .nil
  | n + 1 => by
    rw [List.replicate_succ, List.replicate_succ, List.flatten_cons, List.flatten_cons]
    exact h.append (HasL.rep h n)
theorem d_mul : DO2 X (binaryOp .Mult) rdMul := by
  refine ⟨fun x y M Q Q' k h => ?_, fun pins s σ H v u ov uv Q I rv ru ⟨g, M, x, y, w, hx, hy, h⟩ => ?_⟩
  · unfold rdMul at h ⊢
    split at h <;> rename_i e1 <;> (try simp only [e1]) <;> first | exact ⟨h.1, k _ _ h.2⟩ | exact h.elim
  · unfold rdMul at h
    split at h
    · rename_i i j e1
      cases hy
      exact op_mul pins s σ H v _ ov uv Q I rv ru ⟨_, _, seeI hx e1, rfl, h.1, lk_at h.2 w (.int _)⟩
    · rename_i a j e1
      cases hy
      obtain ⟨p, xs, rfl, h1, h2⟩ := w.seeL hx e1
      exact op_rep pins s σ H _ _ ov uv Q I rv ru ⟨p, _, xs, rfl, rfl, h1, h.1.1, h.1.2.1, by rw [h2.length]; exact h.1.2.2, fun l hl => lk_new h.2 w hl (has_lst (h2.rep _) (w.hsn hl))⟩
    · exact h.elim
def rdNeg (x : D) (M : Mp) (Q : KD) : Prop := match x with
  | .int i => Q (.int (-i)) M
  | _ => False
theorem d_neg : DO1 X (unaryOp .USub) rdNeg := by
  refine ⟨fun x M Q Q' k h => ?_, fun pins s σ H v ov Q I rv ⟨g, M, x, w, hx, h⟩ => ?_⟩
  · unfold rdNeg at h ⊢
    split at h
    · exact k _ _ h
    · exact h.elim
  · unfold rdNeg at h
    split at h
    · cases hx
      exact un_neg pins s σ H _ ov Q I rv ⟨_, rfl, lk_at h w (.int _)⟩
    · exact h.elim
def rdCmp (f : Int → Int → Bool) (t : Str → Str → Bool) (x y : D) (M : Mp) (Q : KD) : Prop := match x, y with
  | .int i, .int j => Q (.bl (f i j)) M
  | .str i, .str j => Q (.bl (t i j)) M
  | _, _ => False
theorem dCmp {f : Value → Value → Sem Value} {fi : Int → Int → Bool} {ft : Str → Str → Bool} (o : OpR X f (rI0 fun i j => .bl (fi i j))) (o' : OpR X f (fun x y H Q => ∃ i j, x = .str i ∧ y = .str j ∧ Q (.bl (ft i j)) H)) : DO2 X f (rdCmp fi ft) := by
  refine ⟨fun x y M Q Q' k h => ?_, fun pins s σ H v u ov uv Q I rv ru ⟨g, M, x, y, w, hx, hy, h⟩ => ?_⟩
  · unfold rdCmp at h ⊢
    split at h <;> first | exact k _ _ h | exact h.elim
  · unfold rdCmp at h
    split at h
    · cases hx
      cases hy
      exact o pins s σ H _ _ ov uv Q I rv ru ⟨_, _, rfl, rfl, lk_at h w (.bl _)⟩
    · cases hx
      cases hy
      exact o' pins s σ H _ _ ov uv Q I rv ru ⟨_, _, rfl, rfl, lk_at h w (.bl _)⟩
    · exact h.elim
/-- the order of texts -/
def slt (i j : Str) : Bool := decide (i.cps.toList < j.cps.toList)
abbrev rdLt : RD2 := rdCmp (fun i j => decide (i < j)) slt
abbrev rdLe : RD2 := rdCmp (fun i j => decide (i ≤ j)) fun i j => !slt j i
abbrev rdGt : RD2 := rdCmp (fun i j => decide (j < i)) fun i j => slt j i
theorem d_lt : DO2 X (compareOp .Lt) rdLt := dCmp op_lt op_lt_str
theorem d_le : DO2 X (compareOp .LtE) rdLe := dCmp op_le op_le_str
theorem d_gt : DO2 X (compareOp .Gt) rdGt := dCmp op_gt op_gt_str
end
end Q
set_option Elab.async false
set_option linter.all false
set_option maxRecDepth 100000
set_option maxHeartbeats 4000000
namespace Q
open PySem PySem.Spec PyProof.Rows L2 My
mutual
def D.py : D → PyData
  | .non => .none
  | .bl b => .bool b
  | .int i => .int i
  | .str x => .str x
  | .lst ds => .list (D.pys ds)
  | .tup ds => .tuple (D.pys ds)
  | .dct kvs => .dict (D.pyk kvs)
  | .tux ss => .tuple (ss.map .str)
  | _ => .none
def D.pys : List D → List PyData
  | [] => []
  | d :: ds => d.py :: D.pys ds
def D.pyk : List (Key × D) → List (PyData × PyData)
  | [] => []
  | (k, d) :: r => (My.kD k, d.py) :: D.pyk r
end
mutual
def D.pr : D → Bool
  | .non | .bl _ | .int _ | .str _ => true
  | .lst ds => D.prs ds
  | .tup ds => D.prs ds
  | .dct kvs => D.prk kvs
  | .tux _ => true
  | _ => false
def D.prs : List D → Bool
  | [] => true
  | d :: ds => d.pr && D.prs ds
def D.prk : List (Key × D) → Bool
  | [] => true
  | (_, d) :: r => d.pr && D.prk r
end
theorem D.pys_eq : ∀ ds, D.pys ds = ds.map D.py
  | [] => rfl
  | d :: ds => by rw [D.pys, D.pys_eq ds]; rfl
theorem D.prs_eq : ∀ ds, D.prs ds = ds.all D.pr
  | [] => rfl
  | d :: ds => by rw [D.prs, D.prs_eq ds]; rfl
theorem D.pyk_eq : ∀ kvs, D.pyk kvs = kvs.map fun p => (My.kD p.1, p.2.py)
  | [] => rfl
  | (k, d) :: r => by rw [D.pyk, D.pyk_eq r]; rfl
theorem D.prk_eq : ∀ kvs, D.prk kvs = kvs.all fun p => p.2.pr
  | [] => rfl
  | (k, d) :: r => by rw [D.prk, D.prk_eq r]; rfl
section
variable {K : PySem.W.Frag} {g : Gh} {H : Hp}
theorem dxs_txs : ∀ ss : List Str, Dxs K H (ss.map V.str) (ss.map PyData.str)
  | [] => .nil
  | s :: ss => .cons (.str s) (dxs_txs ss)
mutual
theorem Has.dx (e : Same g.Hs H) : ∀ {v : V} {d : D}, Has K g v d → d.pr = true → Dx K H v d.py
  | _, _, .non, _ => .non
  | _, _, .bl b, _ => .bl b
  | _, _, .int i, _ => .int i
  | _, _, .str x, _ => .str x
  | _, _, .ty n, h => by simp [D.pr] at h
  | _, _, .ref a, h => by simp [D.pr] at h
  | _, _, .bag _, h => by simp [D.pr] at h
  | _, _, .scr _, h => by simp [D.pr] at h
  | _, _, .obj _ _ _ _, h => by simp [D.pr] at h
  | _, _, .dcT _ _ _, h => by simp [D.pr] at h
  | _, _, .tux (ss := ss) h _, q => by
    rw [D.py]
    exact .tup (.inl (.inr ⟨_, e _ _ h⟩)) (dxs_txs ss)
  | _, _, .lst h t, q => .lst (SqL.of (e _ _ h)) (HasL.dx e t (by simpa [D.pr] using q))
  | _, _, .tup h t, q => .tup (SqT.of (e _ _ h)) (HasL.dx e t (by simpa [D.pr] using q))
  | _, _, .dct (ds := ds) h k t, q => by
    rw [D.py]
    refine .dic (.inr ⟨_, e _ _ h⟩) ?_ ?_
    · rw [D.pyk_eq, List.map_map]
      have := congrArg (List.map My.kD) k
      rw [List.map_map, List.map_map] at this
      exact this
    · have q' : D.prs (ds.map (·.2)) = true := by
        rw [D.pr, D.prk_eq] at q
        rw [D.prs_eq, List.all_map]
        exact q
      have := HasL.dx e t q'
      rw [D.pys_eq, List.map_map] at this
      rw [D.pyk_eq, List.map_map]
      exact this
theorem HasL.dx (e : Same g.Hs H) : ∀ {vs : List V} {ds : List D}, HasL K g vs ds → D.prs ds = true → Dxs K H vs (D.pys ds)
  | _, _, .nil, _ => .nil
  | _, _, .cons a b, q => by
    rw [D.prs, Bool.and_eq_true] at q
    exact .cons (Has.dx e a q.1) (HasL.dx e b q.2)
end
theorem WR.dx {M : Mp} {v : V} {d : D} (w : WR K g M H) (h : Has K g v d) (q : (look M d).pr = true) : Dx K H v (look M d).py := by
  cases h with
  | ref a =>
    cases hm : M a with
    | none => simp [look, hm, D.pr] at q
    | some mo =>
      cases mo with
      | lst ds =>
        simp only [look, hm] at q ⊢
        obtain ⟨vs, h1, h2⟩ := w.mt hm
        exact .lst (SqL.of h1) (h2.dx w.sub (by simpa [D.pr] using q))
      | dct ds =>
        simp only [look, hm] at q ⊢
        obtain ⟨vs, h1, h3, h2⟩ := w.mt hm
        rw [D.py]
        refine .dic (.inl h1) ?_ ?_
        · rw [D.pyk_eq, List.map_map]
          have := congrArg (List.map My.kD) h3
          rw [List.map_map, List.map_map] at this
          exact this
        · have q' : D.prs (ds.map (·.2)) = true := by
            rw [D.pr, D.prk_eq] at q
            rw [D.prs_eq, List.all_map]
            exact q
          have := h2.dx w.sub q'
          rw [D.pys_eq, List.map_map] at this
          rw [D.pyk_eq, List.map_map]
          exact this
      | ins C fs => simp [look, hm, D.pr] at q
      | dcN P w ds => simp [look, hm, D.pr] at q
      | dcT ds => simp [look, hm, D.pr] at q
  | non => exact .non
  | bl b => exact .bl b
  | int i => exact .int i
  | str x => exact .str x
  | lst h t => exact Has.dx w.sub (.lst h t) q
  | tup h t => exact Has.dx w.sub (.tup h t) q
  | dct h k t => exact Has.dx w.sub (.dct h k t) q
  | tux h t => exact Has.dx w.sub (.tux h t) q
  | _ => simp [look, D.pr] at q
end
mutual
theorem dx_dp {K : PySem.W.Frag} {H : Hp} : ∀ {v : V} {d : PyData}, Dx K H v d → d.canLay0 = true → Dp K H v d
  | _, _, .non, _ => .non
  | _, _, .bl b, _ => .bl b
  | _, _, .int i, _ => .int i
  | _, _, .str x, _ => .str x
  | _, _, .lst h t, q => .lst h (dxs_dp t (by simpa [PyData.canLay0] using q))
  | _, _, .tup h t, q => .tup h (dxs_dp t (by simpa [PyData.canLay0] using q))
  | _, _, .dic _ _ _, q => by simp [PyData.canLay0] at q
theorem dxs_dp {K : PySem.W.Frag} {H : Hp} : ∀ {vs : List V} {ds : List PyData}, Dxs K H vs ds → PyData.canLayAll0 ds = true → DpAll K H vs ds
  | _, _, .nil, _ => .nil
  | _, _, .cons a b, q => by
    rw [PyData.canLayAll0, Bool.and_eq_true] at q
    exact .cons (dx_dp a q.1) (dxs_dp b q.2)
end
/-- data that may be compared -/
def eqOk (d : D) : Bool := d.pr && SeqAt.shaped d.py
theorem WR.dp {K : PySem.W.Frag} {g : Gh} {H : Hp} {M : Mp} {v : V} {d : D} (w : WR K g M H) (h : Has K g v d) (q : eqOk (look M d) = true) : Dp K H v (look M d).py := by
  unfold eqOk at q
  rw [Bool.and_eq_true] at q
  exact dx_dp (w.dx h q.1) (SeqAt.canLay_of_shaped q.2)
/-- == of data -/
def deq (x y : D) : Bool := PyData.eqv x.py y.py
def rdEq (n : Bool) (x y : D) (M : Mp) (Q : KD) : Prop := match look M x, look M y with
  | .int i, .int j => Q (.bl (xor n (decide (i = j)))) M
  | .str i, .str j => Q (.bl (xor n (decide (i = j)))) M
  | a, b => eqOk a = true ∧ eqOk b = true ∧ Q (.bl (xor n (deq a b))) M
section
variable {X : Cx}
theorem d_eq (hu : X.A.units + 64 < cLine) : DO2 X (compareOp .Eq) (rdEq false) := by
  refine ⟨fun x y M Q Q' k h => ?_, fun pins s σ H v u ov uv Q I rv ru ⟨g, M, x, y, w, hx, hy, h⟩ => ?_⟩
  · unfold rdEq at h ⊢
    split at h
    · exact k _ _ h
    · exact k _ _ h
    · exact ⟨h.1, h.2.1, k _ _ h.2.2⟩
  · unfold rdEq at h
    split at h
    · rename_i i j e1 e2
      cases seeI hx e1
      cases seeI hy e2
      refine op_eq pins s σ H _ _ ov uv Q I rv ru ⟨rfl, ?_⟩
      have := lk_at h w (.bl _)
      rw [Bool.false_xor] at this
      rw [dec_int, Bool.beq_eq_decide_eq]
      exact this
    · rename_i i j e1 e2
      cases seeS hx e1
      cases seeS hy e2
      refine op_eq pins s σ H _ _ ov uv Q I rv ru ⟨rfl, ?_⟩
      have := lk_at h w (.bl _)
      rw [Bool.false_xor] at this
      rw [dec_str, Bool.beq_eq_decide_eq]
      exact this
    · obtain ⟨h1, h2, h3⟩ := h
      have := lk_at h3 w (.bl _)
      rw [Bool.false_xor] at this
      unfold eqOk at h1 h2
      rw [Bool.and_eq_true] at h1 h2
      exact op_eqD hu pins s σ H _ _ ov uv Q I rv ru ⟨_, _, w.dp hx (by unfold eqOk; rw [Bool.and_eq_true]; exact h1), w.dp hy (by unfold eqOk; rw [Bool.and_eq_true]; exact h2), h1.2, h2.2, this⟩
theorem d_ne (hu : X.A.units + 64 < cLine) : DO2 X (compareOp .NotEq) (rdEq true) := by
  refine ⟨fun x y M Q Q' k h => ?_, fun pins s σ H v u ov uv Q I rv ru ⟨g, M, x, y, w, hx, hy, h⟩ => ?_⟩
  · unfold rdEq at h ⊢
    split at h
    · exact k _ _ h
    · exact k _ _ h
    · exact ⟨h.1, h.2.1, k _ _ h.2.2⟩
  · unfold rdEq at h
    split at h
    · rename_i i j e1 e2
      cases seeI hx e1
      cases seeI hy e2
      refine op_ne pins s σ H _ _ ov uv Q I rv ru ⟨rfl, ?_⟩
      have := lk_at h w (.bl _)
      rw [Bool.true_xor] at this
      rw [dec_int, Bool.beq_eq_decide_eq]
      exact this
    · rename_i i j e1 e2
      cases seeS hx e1
      cases seeS hy e2
      refine op_ne pins s σ H _ _ ov uv Q I rv ru ⟨rfl, ?_⟩
      have := lk_at h w (.bl _)
      rw [Bool.true_xor] at this
      rw [dec_str, Bool.beq_eq_decide_eq]
      exact this
    · obtain ⟨h1, h2, h3⟩ := h
      have := lk_at h3 w (.bl _)
      rw [Bool.true_xor] at this
      unfold eqOk at h1 h2
      rw [Bool.and_eq_true] at h1 h2
      exact op_neD hu pins s σ H _ _ ov uv Q I rv ru ⟨_, _, w.dp hx (by unfold eqOk; rw [Bool.and_eq_true]; exact h1), w.dp hy (by unfold eqOk; rw [Bool.and_eq_true]; exact h2), h1.2, h2.2, this⟩
def rdRepr (ds : List D) (M : Mp) (Q : KD) : Prop := ∃ x, ds = [x] ∧ (look M x).pr = true ∧ Shows (look M x).py ∧ Q (.str (look M x).py.shown) M
theorem has1 {K : PySem.W.Frag} {g : Gh} {vs : List V} {x : D} (h : HasL K g vs [x]) : ∃ v, vs = [v] ∧ Has K g v x := by
  cases h with
  | cons a b => cases b; exact ⟨_, rfl, a⟩
theorem has2 {K : PySem.W.Frag} {g : Gh} {vs : List V} {x y : D} (h : HasL K g vs [x, y]) : ∃ v u, vs = [v, u] ∧ Has K g v x ∧ Has K g u y := by
  cases h with
  | cons a b =>
    obtain ⟨u, rfl, h⟩ := has1 b
    exact ⟨_, u, rfl, a, h⟩
theorem d_repr (hg : X.A.guards = some []) (hu : X.A.units + 200 < cLine) (hs : ∃ mm, X.base.Ns sysModules mm) : DON X (.builtin "repr") rdRepr := by
  refine ⟨fun ds M Q Q' k ⟨x, h1, h2, h3, h4⟩ => ⟨x, h1, h2, h3, k _ _ h4⟩, fun pins s σ H vs us Q I rv ⟨g, M, ds, w, hx, x, h1, h2, h3, h4⟩ => ?_⟩
  subst h1
  obtain ⟨v, rfl, hv⟩ := has1 hx
  exact call_reprX hg hu hs pins s σ H _ us Q I rv ⟨v, _, rfl, w.dx hv h2, h3, lk_at h4 w (.str _)⟩
end
end Q
set_option Elab.async false
set_option linter.all false
set_option maxRecDepth 100000
set_option maxHeartbeats 4000000
namespace Q
open PySem PySem.Spec PyProof.Rows L2 My
def keyOf : D → Option Key
  | .int i => some (.inl i)
  | .str x => some (.inr x)
  | _ => none
def valD {κ : Type} [DecidableEq κ] (kvs : List (κ × D)) (k : κ) : Option D := (kvs.find? fun kv => decide (kv.1 = k)).map (·.2)
def putD {κ : Type} [DecidableEq κ] (kvs : List (κ × D)) (k : κ) (v : D) : List (κ × D) :=
  if kvs.any fun kv => decide (kv.1 = k) then kvs.map fun kv => if kv.1 = k then (kv.1, v) else kv else kvs ++ [(k, v)]
theorem keyOf_kV {K : PySem.W.Frag} {g : Gh} {v : V} {d : D} {k : Key} (h : Has K g v d) (e : keyOf d = some k) : v = kV k := by
  cases h <;> (try cases e) <;> rfl
/-- a tuple of numbers and texts, as a key -/
def keysT : List D → Option (List Key)
  | [] => some []
  | d :: ds => match keyOf d, keysT ds with
    | some k, some ks => some (k :: ks)
    | _, _ => none
def keyT : D → Option (List Key)
  | .tup ds => keysT ds
  | _ => none
theorem keysT_kV {K : PySem.W.Frag} {g : Gh} : ∀ {vs : List V} {ds : List D} {ks : List Key}, HasL K g vs ds → keysT ds = some ks → vs = ks.map kV
  | _, _, _, .nil, e => by cases e; rfl
  | _, d :: ds, _, .cons a b, e => by
    unfold keysT at e
    split at e
    · rename_i k ks e1 e2
      cases e
      rw [List.map_cons, keyOf_kV a e1, keysT_kV b e2]
    · cases e
theorem keyT_tup {K : PySem.W.Frag} {g : Gh} {v : V} {d : D} {ks : List Key} (h : Has K g v d) (e : keyT d = some ks) : ∃ a, v = .ref a ∧ g.Hs a = some (.tup (ks.map kV)) := by
  cases d with
  | tup ds =>
    obtain ⟨a, xs, rfl, h1, h2⟩ := h.tup_inv
    rw [keysT_kV h2 e] at h1
    exact ⟨a, rfl, h1⟩
  | _ => cases e
section
variable {K : PySem.W.Frag} {g : Gh} {κ : Type} [DecidableEq κ]
theorem val_ok {k : κ} : ∀ {ds : List (κ × D)} {kvs : List (κ × V)}, ds.map (·.1) = kvs.map (·.1) → HasL K g (kvs.map (·.2)) (ds.map (·.2)) →
    (∀ d, valD ds k = some d → ∃ v, valV kvs k = some v ∧ Has K g v d) ∧ (valD ds k = none → valV kvs k = none)
  | [], [], _, _ => ⟨fun d h => (nomatch h), fun _ => rfl⟩
  | [], _ :: _, h, _ => nomatch h
  | _ :: _, [], h, _ => nomatch h
  | (n, d) :: ds, (n', v) :: kvs, h, a => by
    simp only [List.map_cons, List.cons.injEq] at h
    obtain ⟨rfl, h⟩ := h
    simp only [List.map_cons] at a
    cases a with
    | cons a1 a2 =>
      obtain ⟨i1, i2⟩ := val_ok (k := k) h a2
      by_cases q : n = k
      · subst q
        refine ⟨fun d' e => ⟨v, valV_pos rfl, ?_⟩, fun e => ?_⟩
        · simp [valD, List.find?_cons] at e
          subst e
          exact a1
        · simp [valD, List.find?_cons] at e
      · have e1 : valD ((n, d) :: ds) k = valD ds k := by simp [valD, List.find?_cons, q]
        rw [e1, valV_neg q]
        exact ⟨i1, i2⟩
theorem put_ok {k : κ} {d : D} {v : V} (a : Has K g v d) {ds : List (κ × D)} {kvs : List (κ × V)} (h : ds.map (·.1) = kvs.map (·.1)) (b : HasL K g (kvs.map (·.2)) (ds.map (·.2))) :
    (putD ds k d).map (·.1) = (putK kvs k v).map (·.1) ∧ HasL K g ((putK kvs k v).map (·.2)) ((putD ds k d).map (·.2)) := by
  have e : (ds.any fun kv => decide (kv.1 = k)) = kvs.any fun kv => decide (kv.1 = k) := by
    have h1 : (ds.any fun kv => decide (kv.1 = k)) = (ds.map (·.1)).any fun z => decide (z = k) := by rw [List.any_map]; rfl
    have h2 : (kvs.any fun kv => decide (kv.1 = k)) = (kvs.map (·.1)).any fun z => decide (z = k) := by rw [List.any_map]; rfl
    rw [h1, h2, h]
  unfold putD putK
  rw [e]
  by_cases q : (kvs.any fun kv => decide (kv.1 = k)) = true
  · rw [if_pos q, if_pos q]
    clear q e
    induction ds generalizing kvs with
    | nil => cases kvs with
      | nil => exact ⟨rfl, .nil⟩
      | cons _ _ => cases h
    | cons p ds ih =>
      cases kvs with
      | nil => cases h
      | cons r kvs =>
        obtain ⟨n, d'⟩ := p
        obtain ⟨n', v'⟩ := r
        simp only [List.map_cons, List.cons.injEq] at h
        obtain ⟨rfl, h⟩ := h
        simp only [List.map_cons] at b
        cases b with
        | cons b1 b2 =>
          obtain ⟨i1, i2⟩ := ih h b2
          by_cases q : n = k
          · simp only [List.map_cons, if_pos q]
            exact ⟨congrArg _ i1, .cons a i2⟩
          · simp only [List.map_cons, if_neg q]
            exact ⟨congrArg _ i1, .cons b1 i2⟩
  · rw [if_neg q, if_neg q, List.map_append, List.map_append, List.map_append, List.map_append, h]
    exact ⟨rfl, b.append (.one a)⟩
end
theorem atI_ok {K : PySem.W.Frag} {g : Gh} {vs : List V} {ds : List D} (h : HasL K g vs ds) {i : Int} {d : D} (e : atI ds i = some d) : ∃ v, atI vs i = some v ∧ Has K g v d := by
  unfold atI at e ⊢
  rw [h.length]
  cases q : ixN ds.length i with
  | none => rw [q] at e; cases e
  | some j =>
    rw [q] at e
    exact h.get' e
def rdIx (x y : D) (M : Mp) (Q : KD) : Prop := match look M x with
  | .lst ds => ∃ i d, y = .int i ∧ atI ds i = some d ∧ Q d M
  | .tup ds => ∃ i d, y = .int i ∧ atI ds i = some d ∧ Q d M
  | .str z => ∃ i c, y = .int i ∧ z.length ≤ sizeLine ∧ atI z.cps.toList i = some c ∧ Q (.str ⟨#[c]⟩) M
  | .dct kvs => ∃ k d, keyOf y = some k ∧ valD kvs k = some d ∧ Q d M
  | .dcT kvs => ∃ k d, keyT y = some k ∧ valD kvs k = some d ∧ Q d M
  | _ => False
structure DIx (X : Cx) (rd : RD2) : Prop where
  mono : Mono2 rd
  run : IxR X (rOf2 X.K rd)
section
variable {X : Cx} {g0 : Gh} {a b c e : Expr} {es : List Expr} {wa wb wc : WE} {w : WA} {pos p : Pos} {x : Str}
theorem d_ix (hu : X.A.units + 1 < cLine) : DIx X rdIx := by
  refine ⟨fun x y M Q Q' k h => ?_, fun value slice pins s σ H v u ov uv Q I rv ru ⟨g, M, x, y, w, hx, hy, h⟩ hs => ?_⟩
  · unfold rdIx at h ⊢
    split at h
    · obtain ⟨i, d, h1, h2, h3⟩ := h; exact ⟨i, d, h1, h2, k _ _ h3⟩
    · obtain ⟨i, d, h1, h2, h3⟩ := h; exact ⟨i, d, h1, h2, k _ _ h3⟩
    · obtain ⟨i, d, h1, h2, h3, h4⟩ := h; exact ⟨i, d, h1, h2, h3, k _ _ h4⟩
    · obtain ⟨i, d, h1, h2, h3⟩ := h; exact ⟨i, d, h1, h2, k _ _ h3⟩
    · obtain ⟨i, d, h1, h2, h3⟩ := h; exact ⟨i, d, h1, h2, k _ _ h3⟩
    · exact h.elim
  · unfold rdIx at h
    split at h
    · rename_i ds e1
      obtain ⟨i, d, rfl, h2, h3⟩ := h
      cases hy
      obtain ⟨p, xs, rfl, k1, k2⟩ := w.seeL hx e1
      obtain ⟨r, k3, k4⟩ := atI_ok k2 h2
      exact ix_list value slice pins s σ H _ _ ov uv Q I rv ru ⟨p, xs, i, r, rfl, rfl, SqL.of k1, k3, lk_at h3 w k4⟩ hs
    · rename_i ds e1
      obtain ⟨i, d, rfl, h2, h3⟩ := h
      cases hy
      obtain ⟨p, xs, rfl, k1, k2⟩ := w.seeT hx e1
      obtain ⟨r, k3, k4⟩ := atI_ok k2 h2
      exact ix_tup value slice pins s σ H _ _ ov uv Q I rv ru ⟨p, xs, i, r, rfl, rfl, SqT.of k1, k3, lk_at h3 w k4⟩ hs
    · rename_i z e1
      obtain ⟨i, d, rfl, h1, h2, h3⟩ := h
      cases hy
      exact ix_str value slice pins s σ H _ _ ov uv Q I rv ru ⟨z, i, d, seeS hx e1, rfl, h1, h2, lk_at h3 w (.str _)⟩ hs
    · rename_i kvs e1
      obtain ⟨k, d, h1, h2, h3⟩ := h
      obtain ⟨p, kv, rfl, k1, k2, k3⟩ := w.seeD hx e1
      obtain ⟨r, k4, k5⟩ := (val_ok k2 k3).1 d h2
      obtain rfl := keyOf_kV hy h1
      have gg : DGet H p (kV k) (some r) := .inl ⟨kv, k, k1, rfl, k4.symm⟩
      obtain rfl : ov = Value.ref p := rv
      exact tail_any (dict_typeIs I gg) PySem.F.slot_dict_getitem.lookup (d_getItem hu I gg ru fun w' s3 I3 rw' => ⟨r, H, I3, rw', lk_at h3 w k5⟩) hs
    · rename_i kvs e1
      obtain ⟨k, d, h1, h2, h3⟩ := h
      obtain ⟨p, kv, rfl, k1, k2, k3⟩ := w.seeDT hx e1
      obtain ⟨r, k4, k5⟩ := (val_ok k2 k3).1 d h2
      obtain ⟨b, rfl, hb⟩ := keyT_tup hy h1
      have gg : DGet H p (.ref b) (some r) := .inr ⟨kv, k, b, k1, rfl, w.sub _ _ hb, k4.symm⟩
      obtain rfl : ov = Value.ref p := rv
      exact tail_any (dict_typeIs I gg) PySem.F.slot_dict_getitem.lookup (d_getItem hu I gg ru fun w' s3 I3 rw' => ⟨r, H, I3, rw', lk_at h3 w k5⟩) hs
    · exact h.elim
theorem qix (o : DIx X rdIx) (ha : QE X g0 a wa) (hb : QE X g0 b wb) (hs : PlainIx b := by exact fun _ _ => rfl) : QE X g0 (.Subscript a b pos) (wOp rdIx wa wb) :=
  ⟨wOp.mono (lf2_of (K := X.K) o.mono) ha.mono hb.mono, (pe_ix o.run ha.run hb.run hs).imp fun σ H Q h => wOp.up (lf2_of o.mono) ha.mono hb.mono h⟩
def cutD (ds : List D) (lo hi : Option Int) : List D := (ds.drop (HT.sIx ds.length 0 lo)).take (HT.sIx ds.length ds.length hi - HT.sIx ds.length 0 lo)
theorem HasL.cut {K : PySem.W.Frag} {g : Gh} {vs : List V} {ds : List D} (h : HasL K g vs ds) (lo hi : Option Int) : HasL K g (cutV vs lo hi) (cutD ds lo hi) := by
  unfold cutV cutD
  rw [h.length]
  exact (h.drop _).take _
def rdSl (x : D) (lo hi : Option Int) (M : Mp) (Q : KD) : Prop := match look M x with
  | .lst ds => Q (.lst (cutD ds lo hi)) M
  | .tup ds => Q (.tup (cutD ds lo hi)) M
  | .str z => z.length ≤ sizeLine ∧ Q (.str (cutS z lo hi)) M
  | _ => False
abbrev WO := Z → (Option Int → Z → Prop) → Prop
structure QO (X : Cx) (g0 : Gh) (e : Option Expr) (w : WO) : Prop where
  mono : ∀ z Q Q', (∀ d z', Q d z' → Q' d z') → w z Q → w z Q'
  run : PO X e (fun σ H Q => ∃ g z, g0.le g ∧ RR X.K g z σ H ∧ w z fun i z' => ∀ g' H', g.le g' → RR X.K g' z' σ H' → Q i H')
def wNoPart : WO := fun z Q => Q none z
def wPart (we : WE) : WO := fun z Q => we z fun d z1 => ∃ i, d = .int i ∧ Q (some i) z1
theorem qo_none : QO X g0 none wNoPart := ⟨fun z Q Q' k h => k _ _ h, ⟨fun pins s σ H Q I ⟨g, z, l0, r, h⟩ => po_none.run pins s σ H Q I (h g H (.refl g) r)⟩⟩
theorem qo_some (h : QE X g0 e wa) : QO X g0 (some e) (wPart wa) := by
  refine ⟨fun z Q Q' k hw => h.mono _ _ _ (fun d z1 ⟨i, e, q⟩ => ⟨i, e, k _ _ q⟩) hw, ⟨fun pins s σ H Q I ⟨g, z, l0, r, hw⟩ => (po_some h.run).run pins s σ H Q I ⟨g, z, l0, r, h.mono _ _ _ (fun d z1 ⟨i, e, q⟩ v g' H' e' r' a' => ?_) hw⟩⟩⟩
  subst e
  cases a'
  exact ⟨i, rfl, q g' H' e' r'⟩
def wSl (we : WE) (wl wh : WO) : WE := fun z Q => we z fun d z1 => wl z1 fun lo z2 => wh z2 fun hi z3 => rdSl d lo hi z3.M fun r M => Q r ⟨z3.ρ, M⟩
theorem rdSl.mono {x : D} {lo hi : Option Int} {M : Mp} {Q Q' : KD} (k : ∀ d M', Q d M' → Q' d M') (h : rdSl x lo hi M Q) : rdSl x lo hi M Q' := by
  unfold rdSl at h ⊢
  split at h
  · exact k _ _ h
  · exact k _ _ h
  · exact ⟨h.1, k _ _ h.2⟩
  · exact h.elim
def rOfS (K : PySem.W.Frag) : V → Option Int → Option Int → Hp → VK → Prop := fun v lo hi H Q => ∃ g M x, WR K g M H ∧ Has K g v x ∧ rdSl x lo hi M (lk K g Q)
theorem d_sl : SlR X (rOfS X.K) := by
  intro pins s σ H v ov vl vu lo hi sl Q I rv hsl pl pu ⟨g, M, x, w, hx, h⟩
  unfold rdSl at h
  split at h
  · rename_i ds e1
    obtain ⟨p, xs, rfl, k1, k2⟩ := w.seeL hx e1
    exact sl_list pins s σ H _ ov vl vu lo hi sl Q I rv hsl pl pu ⟨p, xs, rfl, SqL.of k1, fun l hl => lk_new h w hl (has_lst (k2.cut lo hi) (w.hsn hl))⟩
  · rename_i ds e1
    obtain ⟨p, xs, rfl, k1, k2⟩ := w.seeT hx e1
    have q1 : Has X.K g (.ref p) (.tup ds) := by
      cases hx with
      | tup k1 k2 => cases e1; exact .tup k1 k2
      | ref _ => rcases look_ref (M := M) (a := p) with ⟨_, q⟩ | ⟨_, q⟩ | ⟨_, q⟩ | q <;> (rw [q] at e1; cases e1)
      | _ => cases e1
    refine sl_tupA pins s σ H _ ov vl vu lo hi sl Q I rv hsl pl pu ⟨p, xs, rfl, SqT.of k1, fun hw => ?_, fun _ l hl => lk_new h w hl (has_tup (k2.cut lo hi) (w.hsn hl))⟩
    have e : cutD ds lo hi = ds := by
      unfold cutD
      rw [← k2.length, hw.1, hw.2, List.drop_zero, Nat.sub_zero, k2.length, List.take_length]
    rw [e] at h
    exact lk_at h w q1
  · rename_i z e1
    cases seeS hx e1
    exact sl_str pins s σ H _ ov vl vu lo hi sl Q I rv hsl pl pu ⟨z, rfl, h.1, lk_at h.2 w (.str _)⟩
  · exact h.elim
theorem qsl {lo hi : Option Expr} {wl wh : WO} {p2 : Pos} (he : QE X g0 e wa) (hl : QO X g0 lo wl) (hh : QO X g0 hi wh) : QE X g0 (.Subscript e (.Slice lo hi none p2) pos) (wSl wa wl wh) := by
  refine ⟨fun z Q Q' k h => he.mono _ _ _ (fun d z1 h1 => hl.mono _ _ _ (fun l z2 h2 => hh.mono _ _ _ (fun u z3 h3 => rdSl.mono (fun r M q => k _ _ q) h3) h2) h1) h, (pe_slice d_sl he.run hl.run hh.run).imp fun σ H Q ⟨g, z, l0, r, h⟩ => ?_⟩
  refine ⟨g, z, l0, r, he.mono _ _ _ (fun d z1 h1 v g1 H1 e1 r1 a1 => ⟨g1, z1, l0.trans e1, r1, hl.mono _ _ _ (fun l z2 h2 g2 H2 e2 r2 => ⟨g2, z2, (l0.trans e1).trans e2, r2, hh.mono _ _ _ (fun u z3 h3 g3 H3 e3 r3 => ?_) h2⟩) h1⟩) h⟩
  exact ⟨g3, z3.M, d, r3.wr, (a1.le e2).le e3, rdSl.mono (fun r M q v g4 H4 e4 w4 a4 => q v g4 H4 (((e1.trans e2).trans e3).trans e4) (r3.le e4 w4) a4) h3⟩
def rdLen (ds : List D) (M : Mp) (Q : KD) : Prop := ∃ x, ds = [x] ∧ match look M x with
  | .lst ds => Q (.int ds.length) M
  | .tup ds => Q (.int ds.length) M
  | .dct ds => Q (.int ds.length) M
  | .str z => z.length ≤ sizeLine ∧ Q (.int z.length) M
  | .tux ss => Q (.int ss.length) M
  | _ => False
theorem d_len : DON X (.builtin "len") rdLen := by
  refine ⟨fun ds M Q Q' k ⟨x, h1, h2⟩ => ⟨x, h1, ?_⟩, fun pins s σ H vs us Q I rv ⟨g, M, ds, w, hx, x, h1, h⟩ => ?_⟩
  · split at h2
    · exact k _ _ h2
    · exact k _ _ h2
    · exact k _ _ h2
    · exact ⟨h2.1, k _ _ h2.2⟩
    · exact k _ _ h2
    · exact h2.elim
  · subst h1
    obtain ⟨v, rfl, hv⟩ := has1 hx
    split at h
    · rename_i ds e1
      obtain ⟨p, xs, rfl, k1, k2⟩ := w.seeL hv e1
      exact call_len_seq pins s σ H _ us Q I rv ⟨p, xs, rfl, .inl (SqL.of k1), by rw [k2.length]; exact lk_at h w (.int _)⟩
    · rename_i ds e1
      obtain ⟨p, xs, rfl, k1, k2⟩ := w.seeT hv e1
      exact call_len_seq pins s σ H _ us Q I rv ⟨p, xs, rfl, .inr (SqT.of k1), by rw [k2.length]; exact lk_at h w (.int _)⟩
    · rename_i kvs e1
      obtain ⟨p, kv, rfl, k1, k2, k3⟩ := w.seeD hv e1
      obtain ⟨u, rfl, ru⟩ := vals1 rv
      obtain rfl : u = Value.ref p := ru
      have hl : kv.length = kvs.length := by have := congrArg List.length k2; simpa using this.symm
      exact L2.d_len I k1 fun t s' I' => ⟨.int kv.length, H, I', ⟨t, rfl⟩, by rw [hl]; exact lk_at h w (.int _)⟩
    · rename_i z e1
      cases seeS hv e1
      exact call_len_str pins s σ H _ us Q I rv ⟨z, rfl, h.1, lk_at h.2 w (.int _)⟩
    · rename_i ss e1
      obtain ⟨p, o, rfl, k1, _⟩ := w.seeX hv e1
      exact call_len_seq pins s σ H _ us Q I rv ⟨p, ss.map V.str, rfl, .inr (.inl (.inr ⟨_, k1⟩)), by rw [List.length_map]; exact lk_at h w (.int _)⟩
    · exact h.elim
end
end Q
set_option Elab.async false
set_option linter.all false
set_option maxRecDepth 100000
set_option maxHeartbeats 4000000
namespace Q
open PySem PySem.Spec PyProof.Rows L2 My
def flatD : D → Bool
  | .non | .bl _ | .int _ | .str _ => true
  | _ => false
theorem flat_ok {K : PySem.W.Frag} {g : Gh} {v : V} {d : D} (h : Has K g v d) (e : flatD d = true) : flatV v = true := by
  cases h <;> first | rfl | cases e
theorem flats_ok {K : PySem.W.Frag} {g : Gh} : ∀ {vs : List V} {ds : List D}, HasL K g vs ds → ds.all flatD = true → vs.all flatV = true
  | _, _, .nil, _ => rfl
  | _, _, .cons a b, e => by
    rw [List.all_cons, Bool.and_eq_true] at e ⊢
    exact ⟨flat_ok a e.1, flats_ok b e.2⟩
theorem eqV_ok {K : PySem.W.Frag} {g : Gh} {v u : V} {d e : D} (h : Has K g v d) (k : Has K g u e) (f : flatD d = true) (f' : flatD e = true) : eqV v u = deq d e := by
  cases h <;> first | (cases f; done) | (cases k <;> first | (cases f'; done) | rfl)
theorem inV_ok {K : PySem.W.Frag} {g : Gh} {v : V} {d : D} (h : Has K g v d) (f : flatD d = true) : ∀ {vs : List V} {ds : List D}, HasL K g vs ds → ds.all flatD = true → inV v vs = ds.any fun z => deq z d
  | _, _, .nil, _ => rfl
  | _, _, .cons a b, e => by
    rw [List.all_cons, Bool.and_eq_true] at e
    have ih := inV_ok h f b e.2
    unfold inV at ih ⊢
    rw [List.any_cons, List.any_cons, ih, eqV_ok a h e.1 f]
/-- x in y -/
def rdIn (n : Bool) (x y : D) (M : Mp) (Q : KD) : Prop := match look M y with
  | .lst ds => (flatD x = true ∧ ds.all flatD = true ∨ eqOk x = true ∧ eqOk (.lst ds) = true) ∧ Q (.bl (xor n (ds.any fun z => deq z x))) M
  | .tup ds => (flatD x = true ∧ ds.all flatD = true) ∧ Q (.bl (xor n (ds.any fun z => deq z x))) M
  | .dct kvs => ∃ k, keyOf x = some k ∧ Q (.bl (xor n (valD kvs k).isSome)) M
  | .str z => ∃ c, x = .str ⟨#[c]⟩ ∧ Q (.bl (xor n (decide (c ∈ z.cps.toList)))) M
  | .dcT kvs => ∃ k, keyT x = some k ∧ Q (.bl (xor n (valD kvs k).isSome)) M
  | .tux ss => (flatD x = true ∧ (ss.map D.str).all flatD = true) ∧ Q (.bl (xor n ((ss.map D.str).any fun z => deq z x))) M
  | _ => False
theorem rdIn.mono {n : Bool} : Mono2 (rdIn n) := fun x y M Q Q' k h => by
  unfold rdIn at h ⊢
  split at h
  · exact ⟨h.1, k _ _ h.2⟩
  · exact ⟨h.1, k _ _ h.2⟩
  · obtain ⟨q, h1, h2⟩ := h; exact ⟨q, h1, k _ _ h2⟩
  · obtain ⟨q, h1, h2⟩ := h; exact ⟨q, h1, k _ _ h2⟩
  · obtain ⟨q, h1, h2⟩ := h; exact ⟨q, h1, k _ _ h2⟩
  · exact ⟨h.1, k _ _ h.2⟩
  · exact h.elim
section
variable {X : Cx} {g0 : Gh} {a b c e o : Expr} {es : List Expr} {wa wb wc : WE} {w : WA} {pos p : Pos} {x : Str}
theorem look_pr {M : Mp} {x : D} (h : x.pr = true) : look M x = x := by
  cases x <;> first | rfl | (simp [D.pr] at h)
theorem eqOk_pr {x : D} (h : eqOk x = true) : x.pr = true := by unfold eqOk at h; rw [Bool.and_eq_true] at h; exact h.1
theorem d_in (hu : X.A.units + 65 < cLine) : DO2 X (compareOp .In) (rdIn false) := by
  refine ⟨rdIn.mono, fun pins s σ H v u ov uv Q I rv ru ⟨g, M, x, y, w, hx, hy, h⟩ => ?_⟩
  unfold rdIn at h
  split at h
  · rename_i ds e1
    obtain ⟨h1, h⟩ := h
    rw [Bool.false_xor] at h
    have q := lk_at h w (.bl _)
    rcases h1 with ⟨f1, f2⟩ | ⟨f1, f2⟩
    · obtain ⟨p, xs, rfl, k1, k2⟩ := w.seeL hy e1
      exact op_in_seq pins s σ H _ _ ov uv Q I rv ru ⟨p, xs, rfl, .inl (SqL.of k1), flat_ok hx f1, flats_ok k2 f2, by show Q (.bl (inV v xs)) H; rw [inV_ok hx f1 k2 f2]; exact q⟩
    · have k1 := w.dp hy (by rw [e1]; exact f2)
      rw [e1] at k1
      have k2 := w.dp hx (by rw [look_pr (eqOk_pr f1)]; exact f1)
      rw [look_pr (eqOk_pr f1)] at k2
      unfold eqOk at f1 f2
      rw [Bool.and_eq_true] at f1 f2
      refine op_inD hu pins s σ H _ _ ov uv Q I rv ru ⟨_, D.pys ds, k2, k1, f1.2, f2.2, ?_⟩
      rw [D.pys_eq, List.any_map]
      exact q
  · rename_i ds e1
    obtain ⟨⟨f1, f2⟩, h⟩ := h
    rw [Bool.false_xor] at h
    have q := lk_at h w (.bl _)
    obtain ⟨p, xs, rfl, k1, k2⟩ := w.seeT hy e1
    exact op_in_seq pins s σ H _ _ ov uv Q I rv ru ⟨p, xs, rfl, .inr (SqT.of k1), flat_ok hx f1, flats_ok k2 f2, by show Q (.bl (inV v xs)) H; rw [inV_ok hx f1 k2 f2]; exact q⟩
  · rename_i kvs e1
    obtain ⟨k, h1, h⟩ := h
    rw [Bool.false_xor] at h
    have q := lk_at h w (.bl _)
    obtain ⟨p, kv, rfl, k1, k2, k3⟩ := w.seeD hy e1
    obtain rfl := keyOf_kV hx h1
    obtain rfl : uv = Value.ref p := ru
    have e2 : (valV kv k).isSome = (valD kvs k).isSome := by
      cases e : valD kvs k with
      | none => rw [(val_ok k2 k3).2 e]; rfl
      | some d =>
        obtain ⟨r, e3, _⟩ := (val_ok k2 k3).1 d e
        rw [e3]; rfl
    exact L2.d_in (by omega) I (.inl ⟨kv, k, k1, rfl, rfl⟩) rv fun s3 I3 => ⟨.bl _, H, I3, rfl, by rw [e2]; exact q⟩
  · rename_i z e1
    obtain ⟨c, rfl, h⟩ := h
    rw [Bool.false_xor] at h
    have q := lk_at h w (.bl _)
    cases hx
    cases seeS hy e1
    exact op_in_sign pins s σ H _ _ ov uv Q I rv ru ⟨c, z, rfl, rfl, q⟩
  · rename_i kvs e1
    obtain ⟨k, h1, h⟩ := h
    rw [Bool.false_xor] at h
    have q := lk_at h w (.bl _)
    obtain ⟨p, kv, rfl, k1, k2, k3⟩ := w.seeDT hy e1
    obtain ⟨b, rfl, hb⟩ := keyT_tup hx h1
    obtain rfl : uv = Value.ref p := ru
    have e2 : (valV kv k).isSome = (valD kvs k).isSome := by
      cases e : valD kvs k with
      | none => rw [(val_ok k2 k3).2 e]; rfl
      | some d =>
        obtain ⟨r, e3, _⟩ := (val_ok k2 k3).1 d e
        rw [e3]; rfl
    exact L2.d_in (by omega) I (.inr ⟨kv, k, b, k1, rfl, w.sub _ _ hb, rfl⟩) rv fun s3 I3 => ⟨.bl _, H, I3, rfl, by rw [e2]; exact q⟩
  · rename_i ss e1
    obtain ⟨⟨f1, f2⟩, h⟩ := h
    rw [Bool.false_xor] at h
    have q := lk_at h w (.bl _)
    obtain ⟨p, o, rfl, k1, _⟩ := w.seeX hy e1
    have k2 := hasL_txs (K := X.K) (g := g) ss
    exact op_in_seq pins s σ H _ _ ov uv Q I rv ru ⟨p, ss.map V.str, rfl, .inr (.inl (.inr ⟨_, k1⟩)), flat_ok hx f1, flats_ok k2 f2, by show Q (.bl (inV v (ss.map V.str))) H; rw [inV_ok hx f1 k2 f2]; exact q⟩
  · exact h.elim
theorem d_notIn (hu : X.A.units + 65 < cLine) : DO2 X (compareOp .NotIn) (rdIn true) := by
  refine ⟨rdIn.mono, fun pins s σ H v u ov uv Q I rv ru ⟨g, M, x, y, w, hx, hy, h⟩ => ?_⟩
  unfold rdIn at h
  split at h
  · rename_i ds e1
    obtain ⟨h1, h⟩ := h
    rw [Bool.true_xor] at h
    have q := lk_at h w (.bl _)
    rcases h1 with ⟨f1, f2⟩ | ⟨f1, f2⟩
    · obtain ⟨p, xs, rfl, k1, k2⟩ := w.seeL hy e1
      exact op_notIn_seq pins s σ H _ _ ov uv Q I rv ru ⟨p, xs, rfl, .inl (SqL.of k1), flat_ok hx f1, flats_ok k2 f2, by show Q (.bl (!inV v xs)) H; rw [inV_ok hx f1 k2 f2]; exact q⟩
    · have k1 := w.dp hy (by rw [e1]; exact f2)
      rw [e1] at k1
      have k2 := w.dp hx (by rw [look_pr (eqOk_pr f1)]; exact f1)
      rw [look_pr (eqOk_pr f1)] at k2
      unfold eqOk at f1 f2
      rw [Bool.and_eq_true] at f1 f2
      refine op_notInD hu pins s σ H _ _ ov uv Q I rv ru ⟨_, D.pys ds, k2, k1, f1.2, f2.2, ?_⟩
      rw [D.pys_eq, List.any_map]
      exact q
  · rename_i ds e1
    obtain ⟨⟨f1, f2⟩, h⟩ := h
    rw [Bool.true_xor] at h
    have q := lk_at h w (.bl _)
    obtain ⟨p, xs, rfl, k1, k2⟩ := w.seeT hy e1
    exact op_notIn_seq pins s σ H _ _ ov uv Q I rv ru ⟨p, xs, rfl, .inr (SqT.of k1), flat_ok hx f1, flats_ok k2 f2, by show Q (.bl (!inV v xs)) H; rw [inV_ok hx f1 k2 f2]; exact q⟩
  · rename_i kvs e1
    obtain ⟨k, h1, h⟩ := h
    rw [Bool.true_xor] at h
    have q := lk_at h w (.bl _)
    obtain ⟨p, kv, rfl, k1, k2, k3⟩ := w.seeD hy e1
    obtain rfl := keyOf_kV hx h1
    obtain rfl : uv = Value.ref p := ru
    have e2 : (valV kv k).isSome = (valD kvs k).isSome := by
      cases e : valD kvs k with
      | none => rw [(val_ok k2 k3).2 e]; rfl
      | some d =>
        obtain ⟨r, e3, _⟩ := (val_ok k2 k3).1 d e
        rw [e3]; rfl
    exact L2.d_notIn (by omega) I (.inl ⟨kv, k, k1, rfl, rfl⟩) rv fun s3 I3 => ⟨.bl _, H, I3, rfl, by rw [e2]; exact q⟩
  · rename_i z e1
    obtain ⟨c, rfl, h⟩ := h
    rw [Bool.true_xor] at h
    have q := lk_at h w (.bl _)
    cases hx
    cases seeS hy e1
    exact op_notIn_sign pins s σ H _ _ ov uv Q I rv ru ⟨c, z, rfl, rfl, q⟩
  · rename_i kvs e1
    obtain ⟨k, h1, h⟩ := h
    rw [Bool.true_xor] at h
    have q := lk_at h w (.bl _)
    obtain ⟨p, kv, rfl, k1, k2, k3⟩ := w.seeDT hy e1
    obtain ⟨b, rfl, hb⟩ := keyT_tup hx h1
    obtain rfl : uv = Value.ref p := ru
    have e2 : (valV kv k).isSome = (valD kvs k).isSome := by
      cases e : valD kvs k with
      | none => rw [(val_ok k2 k3).2 e]; rfl
      | some d =>
        obtain ⟨r, e3, _⟩ := (val_ok k2 k3).1 d e
        rw [e3]; rfl
    exact L2.d_notIn (by omega) I (.inr ⟨kv, k, b, k1, rfl, w.sub _ _ hb, rfl⟩) rv fun s3 I3 => ⟨.bl _, H, I3, rfl, by rw [e2]; exact q⟩
  · rename_i ss e1
    obtain ⟨⟨f1, f2⟩, h⟩ := h
    rw [Bool.true_xor] at h
    have q := lk_at h w (.bl _)
    obtain ⟨p, o, rfl, k1, _⟩ := w.seeX hy e1
    have k2 := hasL_txs (K := X.K) (g := g) ss
    exact op_notIn_seq pins s σ H _ _ ov uv Q I rv ru ⟨p, ss.map V.str, rfl, .inr (.inl (.inr ⟨_, k1⟩)), flat_ok hx f1, flats_ok k2 f2, by show Q (.bl (!inV v (ss.map V.str))) H; rw [inV_ok hx f1 k2 f2]; exact q⟩
  · exact h.elim
def seqD : D → Option (List D)
  | .lst ds => some ds
  | .tup ds => some ds
  | .dct ds => some (ds.map fun p => kD p.1)
  | .tux ss => some (ss.map .str)
  | _ => none
def rdList (ds : List D) (M : Mp) (Q : KD) : Prop := ∃ x ys, ds = [x] ∧ seqD (look M x) = some ys ∧ Q (.lst ys) M
def rdListM (ds : List D) (M : Mp) (Q : KD) : Prop := ∃ x ys, ds = [x] ∧ seqD (look M x) = some ys ∧ ∀ p, M p = none → Q (.ref p) (mupd M p (some (.lst ys)))
theorem list_run (hc : X.calm = true) {pins : List (Addr × Obj)} {s : Shared} {σ : L2.St} {H : Hp} {v : V} {us : List Value} {Q : VK} {g : Gh} {M : Mp} {x : D} {ys : List D} (I : Inv X pins σ H s) (rv : Vals [v] us) (w : WR X.K g M H) (hv : Has X.K g v x) (h : seqD (look M x) = some ys)
    (q : ∀ vs l, H l = none → HasL X.K g vs ys → Q (.ref l) (upd H l (.lst vs))) : wpAny (model X.prog X.w) X.A (call (.type "list") us) (EP X pins σ Q) X.xe s := by
  unfold seqD at h
  split at h
  · rename_i ds e1
    cases h
    obtain ⟨p, xs, rfl, k1, k2⟩ := w.seeL hv e1
    exact call_list_of pins s σ H _ us Q I rv ⟨p, xs, rfl, .inl (SqL.of k1), fun l hl => q _ l hl k2⟩
  · rename_i ds e1
    cases h
    obtain ⟨p, xs, rfl, k1, k2⟩ := w.seeT hv e1
    exact call_list_of pins s σ H _ us Q I rv ⟨p, xs, rfl, .inr (SqT.of k1), fun l hl => q _ l hl k2⟩
  · rename_i ds e1
    cases h
    obtain ⟨p, kv, rfl, k1, k2, k3⟩ := w.seeD hv e1
    refine call_listD hc pins s σ H _ us Q I rv ⟨p, kv, rfl, k1, fun l hl => q _ l hl ?_⟩
    have : ∀ ks : List Key, HasL X.K g (ks.map kV) (ks.map kD) := fun ks => by
      induction ks with
      | nil => exact .nil
      | cons k ks ih => exact .cons (has_kD k) ih
    have e3 : kv.map (fun kv => kV kv.1) = (ds.map (·.1)).map kV := by rw [k2, List.map_map]; rfl
    have e4 : ds.map (fun p => kD p.1) = (ds.map (·.1)).map kD := by rw [List.map_map]; rfl
    rw [e3, e4]
    exact this _
  · rename_i ss e1
    cases h
    obtain ⟨p, o, rfl, k1, _⟩ := w.seeX hv e1
    exact call_list_of pins s σ H _ us Q I rv ⟨p, _, rfl, .inr (.inl (.inr ⟨_, k1⟩)), fun l hl => q _ l hl (hasL_txs ss)⟩
  · cases h
theorem d_list (hc : X.calm = true) : DON X (.type "list") rdList := by
  refine ⟨fun ds M Q Q' k ⟨x, ys, h1, h2, h3⟩ => ⟨x, ys, h1, h2, k _ _ h3⟩, fun pins s σ H vs us Q I rv ⟨g, M, ds, w, hx, x, ys, h1, h2, h3⟩ => ?_⟩
  subst h1
  obtain ⟨v, rfl, hv⟩ := has1 hx
  exact list_run hc I rv w hv h2 fun vs l hl hh => lk_new h3 w hl (has_lst hh (w.hsn hl))
theorem d_listM (hc : X.calm = true) : DON X (.type "list") rdListM := by
  refine ⟨fun ds M Q Q' k ⟨x, ys, h1, h2, h3⟩ => ⟨x, ys, h1, h2, fun p hp => k _ _ (h3 p hp)⟩, fun pins s σ H vs us Q I rv ⟨g, M, ds, w, hx, x, ys, h1, h2, h3⟩ => ?_⟩
  subst h1
  obtain ⟨v, rfl, hv⟩ := has1 hx
  exact list_run hc I rv w hv h2 fun vs l hl hh => h3 l (w.mtn hl) _ g _ (.refl g) (w.newM hl hh) (.ref l)
def rdTuple (ds : List D) (M : Mp) (Q : KD) : Prop := ∃ x, ds = [x] ∧ match look M x with
  | .lst ds => Q (.tup ds) M
  | .tup ds => Q (.tup ds) M
  | _ => False
theorem d_tuple : DON X (.type "tuple") rdTuple := by
  refine ⟨fun ds M Q Q' k ⟨x, h1, h2⟩ => ⟨x, h1, ?_⟩, fun pins s σ H vs us Q I rv ⟨g, M, ds, w, hx, x, h1, h⟩ => ?_⟩
  · split at h2
    · exact k _ _ h2
    · exact k _ _ h2
    · exact h2.elim
  · subst h1
    obtain ⟨v, rfl, hv⟩ := has1 hx
    split at h
    · rename_i ds e1
      obtain ⟨p, xs, rfl, k1, k2⟩ := w.seeL hv e1
      exact call_tuple_of pins s σ H _ us Q I rv ⟨p, xs, rfl, .inl ⟨SqL.of k1, fun l hl => lk_new h w hl (has_tup k2 (w.hsn hl))⟩⟩
    · rename_i ds e1
      obtain ⟨p, xs, rfl, k1, k2⟩ := w.seeT hv e1
      have q1 : Has X.K g (.ref p) (.tup ds) := by
        cases hv with
        | tup k1 k2 => cases e1; exact .tup k1 k2
        | ref _ => rcases look_ref (M := M) (a := p) with ⟨_, q⟩ | ⟨_, q⟩ | ⟨_, q⟩ | q <;> (rw [q] at e1; cases e1)
        | _ => cases e1
      exact call_tuple_of pins s σ H _ us Q I rv ⟨p, xs, rfl, .inr ⟨SqT.of k1, lk_at h w q1⟩⟩
    · exact h.elim
def rdInt (ds : List D) (M : Mp) (Q : KD) : Prop := match ds with
  | [.int i] => Q (.int i) M
  | [.bl b] => Q (.int (if b then 1 else 0)) M
  | _ => False
theorem d_int : DON X (.type "int") rdInt := by
  refine ⟨fun ds M Q Q' k h => ?_, fun pins s σ H vs us Q I rv ⟨g, M, ds, w, hx, h⟩ => ?_⟩
  · unfold rdInt at h ⊢
    split at h
    · exact k _ _ h
    · exact k _ _ h
    · exact h.elim
  · unfold rdInt at h
    split at h
    · obtain ⟨v, rfl, hv⟩ := has1 hx
      cases hv
      exact call_int1 pins s σ H _ us Q I rv (.inl ⟨_, rfl, lk_at h w (.int _)⟩)
    · obtain ⟨v, rfl, hv⟩ := has1 hx
      cases hv
      exact call_int1 pins s σ H _ us Q I rv (.inr ⟨_, rfl, lk_at h w (.int _)⟩)
    · exact h.elim
def rdMin (ds : List D) (M : Mp) (Q : KD) : Prop := match ds with
  | [.int i, .int j] => Q (.int (if j < i then j else i)) M
  | _ => False
theorem d_min (hc : X.calm = true) : DON X (.builtin "min") rdMin := by
  refine ⟨fun ds M Q Q' k h => ?_, fun pins s σ H vs us Q I rv ⟨g, M, ds, w, hx, h⟩ => ?_⟩
  · unfold rdMin at h ⊢
    split at h
    · exact k _ _ h
    · exact h.elim
  · unfold rdMin at h
    split at h
    · obtain ⟨v, u, rfl, hv, hu⟩ := has2 hx
      cases hv
      cases hu
      exact call_min2 hc pins s σ H _ us Q I rv ⟨_, _, rfl, lk_at h w (.int _)⟩
    · exact h.elim
def blsD : List D → Option (List Bool)
  | [] => some []
  | .bl b :: r => (blsD r).map (b :: ·)
  | _ => none
def intsD : List D → Option (List Int)
  | [] => some []
  | .int b :: r => (intsD r).map (b :: ·)
  | _ => none
def strsD : List D → Option (List Str)
  | [] => some []
  | .str b :: r => (strsD r).map (b :: ·)
  | _ => none
theorem blsD_map : ∀ bs : List Bool, blsD (bs.map D.bl) = some bs
  | [] => rfl
  | b :: bs => by rw [List.map_cons, blsD, blsD_map bs]; rfl
theorem strsD_map : ∀ bs : List Str, strsD (bs.map D.str) = some bs
  | [] => rfl
  | b :: bs => by rw [List.map_cons, strsD, strsD_map bs]; rfl
theorem blsD_eq : ∀ {ds : List D} {bs : List Bool}, blsD ds = some bs → ds = bs.map D.bl
  | [], bs, h => by simp [blsD] at h; subst h; rfl
  | d :: ds, bs, h => by
    cases d <;> simp only [blsD, Option.map_eq_some_iff] at h <;> first | (cases h; done) | skip
    obtain ⟨cs, h1, rfl⟩ := h
    rw [blsD_eq h1]; rfl
theorem strsD_eq : ∀ {ds : List D} {bs : List Str}, strsD ds = some bs → ds = bs.map D.str
  | [], bs, h => by simp [strsD] at h; subst h; rfl
  | d :: ds, bs, h => by
    cases d <;> simp only [strsD, Option.map_eq_some_iff] at h <;> first | (cases h; done) | skip
    obtain ⟨cs, h1, rfl⟩ := h
    rw [strsD_eq h1]; rfl
theorem has_bls {K : PySem.W.Frag} {g : Gh} : ∀ {vs : List V} {bs : List Bool}, HasL K g vs (bs.map D.bl) → vs = bs.map V.bl
  | _, [], h => by cases h; rfl
  | _, b :: bs, h => by cases h with | cons a t => cases a; rw [has_bls t]; rfl
theorem has_strs {K : PySem.W.Frag} {g : Gh} : ∀ {vs : List V} {bs : List Str}, HasL K g vs (bs.map D.str) → vs = bs.map V.str
  | _, [], h => by cases h; rfl
  | _, b :: bs, h => by cases h with | cons a t => cases a; rw [has_strs t]; rfl
theorem hasL_strs {K : PySem.W.Frag} {g : Gh} : ∀ (bs : List Str), HasL K g (bs.map V.str) (bs.map D.str)
  | [] => .nil
  | b :: bs => .cons (.str b) (hasL_strs bs)
def rdAll (ds : List D) (M : Mp) (Q : KD) : Prop := ∃ x ys bs, ds = [x] ∧ look M x = .lst ys ∧ blsD ys = some bs ∧ Q (.bl (bs.all id)) M
def rdSum (ds : List D) (M : Mp) (Q : KD) : Prop := ∃ x ys ns, ds = [x] ∧ look M x = .lst ys ∧ intsD ys = some ns ∧ Q (.int ns.sum) M
theorem d_all (hc : X.calm = true) : DON X (.builtin "all") rdAll := by
  refine ⟨fun ds M Q Q' k ⟨x, ys, bs, h1, h2, h3, h4⟩ => ⟨x, ys, bs, h1, h2, h3, k _ _ h4⟩, fun pins s σ H vs us Q I rv ⟨g, M, ds, w, hx, x, ys, bs, h1, h2, h3, h4⟩ => ?_⟩
  subst h1
  obtain ⟨v, rfl, hv⟩ := has1 hx
  obtain ⟨p, xs, rfl, k1, k2⟩ := w.seeL hv h2
  obtain rfl := blsD_eq h3
  obtain rfl := has_bls k2
  exact cr_all hc pins s σ H _ us Q I rv ⟨p, bs, rfl, SqL.of k1, lk_at h4 w (.bl _)⟩
end
end Q
set_option Elab.async false
set_option linter.all false
set_option maxRecDepth 100000
set_option maxHeartbeats 4000000
namespace Q
open PySem PySem.Spec PyProof.Rows L2 My
theorem slt_irrefl (a : Str) : slt a a = false := by unfold slt; exact decide_eq_false (List.lt_irrefl _)
theorem slt_trans {a b c : Str} (h : slt a b = true) (k : slt b c = true) : slt a c = true := by
  unfold slt at *
  exact decide_eq_true (List.lt_trans (of_decide_eq_true h) (of_decide_eq_true k))
theorem slt_antisymm {a b : Str} (h : slt a b = false) (k : slt b a = false) : a = b := by
  unfold slt at *
  have h := of_decide_eq_false h
  have k := of_decide_eq_false k
  have : a.cps.toList = b.cps.toList := List.le_antisymm k h
  cases a; cases b
  congr
  exact Array.toList_inj.mp this
/-- a before b, or b itself -/
def sle (a b : Str) : Bool := !slt b a
theorem sle_antisymm {a b : Str} (h : sle a b = true) (k : sle b a = true) : a = b := by
  unfold sle at h k
  exact slt_antisymm (by simpa using k) (by simpa using h)
theorem slt_asymm {a b : Str} (h : slt a b = true) : slt b a = false := by
  cases q : slt b a with
  | false => rfl
  | true => have := slt_trans h q; rw [slt_irrefl] at this; cases this
theorem sle_total (a b : Str) : (sle a b || sle b a) = true := by
  unfold sle
  cases q : slt b a with
  | false => rfl
  | true => rw [slt_asymm q]; rfl
theorem sle_trans {a b c : Str} (h : sle a b = true) (k : sle b c = true) : sle a c = true := by
  unfold sle at *
  cases q : slt c a with
  | false => rfl
  | true =>
    exfalso
    cases q1 : slt a b with
    | true =>
      have := slt_trans q q1
      rw [this] at k; cases k
    | false =>
      have e : b = a := slt_antisymm (by simpa using h) q1
      subst e
      rw [q] at k; cases k
def ssort (xs : List Str) : List Str := xs.mergeSort sle
theorem ssort_perm (xs : List Str) : (ssort xs).Perm xs := List.mergeSort_perm xs sle
theorem ssort_sorted (xs : List Str) : (ssort xs).Pairwise (fun a b => sle a b = true) :=
  List.pairwise_mergeSort (le := sle) (fun a b c h k => sle_trans h k) (fun a b => sle_total a b) xs
theorem sorted_uniq : ∀ {xs ys : List Str}, xs.Perm ys → xs.Pairwise (fun a b => sle a b = true) → ys.Pairwise (fun a b => sle a b = true) → xs = ys
  | [], ys, p, _, _ => (List.Perm.eq_nil p.symm).symm
  | x :: xs, [], p, _, _ => absurd p.length_eq (by simp)
  | x :: xs, y :: ys, p, hx, hy => by
    obtain ⟨h1, h2⟩ := List.pairwise_cons.mp hx
    obtain ⟨k1, k2⟩ := List.pairwise_cons.mp hy
    have e : x = y := by
      rcases List.mem_cons.mp (p.mem_iff.mp List.mem_cons_self) with e | hm
      · exact e
      · rcases List.mem_cons.mp (p.mem_iff.mpr (List.mem_cons_self (a := y) (l := ys))) with e | hn
        · exact e.symm
        · exact sle_antisymm (h1 y hn) (k1 x hm)
    subst e
    rw [sorted_uniq p.cons_inv h2 k2]
theorem risingS_pw : ∀ (xs : List Str) (p : Str), risingS p xs = true → (p :: xs).Pairwise (fun a b => sle a b = true)
  | [], p, _ => List.pairwise_singleton _ _
  | x :: xs, p, h => by
    unfold risingS at h
    rw [Bool.and_eq_true] at h
    have ih := risingS_pw xs x h.2
    have hp : sle p x = true := by
      unfold sle slt
      rw [lt_meets]
      exact h.1
    refine List.pairwise_cons.mpr ⟨fun y hy => ?_, ih⟩
    rcases List.mem_cons.mp hy with rfl | hy
    · exact hp
    · exact sle_trans hp ((List.pairwise_cons.mp ih).1 y hy)
theorem sortedS_pw : ∀ {xs : List Str}, sortedS xs = true → xs.Pairwise (fun a b => sle a b = true)
  | [], _ => List.Pairwise.nil
  | x :: xs, h => risingS_pw xs x h
theorem ssort_uniq {xs ys : List Str} (p : ys.Perm xs) (h : sortedS ys = true) : ys = ssort xs :=
  sorted_uniq (p.trans (ssort_perm xs).symm) (sortedS_pw h) (ssort_sorted xs)
theorem ssort_of_perm {xs ys : List Str} (p : ys.Perm xs) : ssort ys = ssort xs :=
  sorted_uniq ((ssort_perm ys).trans (p.trans (ssort_perm xs).symm)) (ssort_sorted ys) (ssort_sorted xs)
theorem mem_ssort {x : Str} {xs : List Str} : x ∈ ssort xs ↔ x ∈ xs := (ssort_perm xs).mem_iff
theorem length_ssort (xs : List Str) : (ssort xs).length = xs.length := (ssort_perm xs).length_eq
/-- each once -/
def ddp : List Str → List Str
  | [] => []
  | x :: xs => if x ∈ xs then ddp xs else x :: ddp xs
theorem mem_ddp {x : Str} : ∀ {xs : List Str}, x ∈ ddp xs ↔ x ∈ xs
  | [] => Iff.rfl
  | y :: ys => by
    unfold ddp
    by_cases h : y ∈ ys
    · rw [if_pos h, mem_ddp, List.mem_cons]
      exact ⟨.inr, fun q => q.elim (fun e => e ▸ h) id⟩
    · rw [if_neg h, List.mem_cons, List.mem_cons, mem_ddp]
theorem nodup_ddp : ∀ (xs : List Str), (ddp xs).Nodup
  | [] => List.Pairwise.nil
  | y :: ys => by
    unfold ddp
    by_cases h : y ∈ ys
    · rw [if_pos h]; exact nodup_ddp ys
    · rw [if_neg h]
      exact List.nodup_cons.mpr ⟨fun q => h (mem_ddp.mp q), nodup_ddp ys⟩
theorem ddp_nodup : ∀ {xs : List Str}, xs.Nodup → ddp xs = xs
  | [], _ => rfl
  | y :: ys, h => by
    obtain ⟨h1, h2⟩ := List.nodup_cons.mp h
    unfold ddp
    rw [if_neg h1, ddp_nodup h2]
theorem length_ddp_le : ∀ (xs : List Str), (ddp xs).length ≤ xs.length
  | [] => Nat.le_refl _
  | y :: ys => by
    unfold ddp
    have ih := length_ddp_le ys
    by_cases h : y ∈ ys
    · rw [if_pos h, List.length_cons]; omega
    · rw [if_neg h, List.length_cons, List.length_cons]; omega
theorem length_ddp_eq : ∀ {xs : List Str}, (ddp xs).length = xs.length → xs.Nodup
  | [], _ => List.Pairwise.nil
  | y :: ys, e => by
    unfold ddp at e
    have ih := length_ddp_le ys
    by_cases h : y ∈ ys
    · rw [if_pos h, List.length_cons] at e; omega
    · rw [if_neg h, List.length_cons, List.length_cons] at e
      exact List.nodup_cons.mpr ⟨h, length_ddp_eq (by omega)⟩
theorem perm_of_nodup {xs ys : List Str} (hx : xs.Nodup) (hy : ys.Nodup) (h : ∀ k, k ∈ xs ↔ k ∈ ys) : xs.Perm ys := by
  rw [List.perm_ext_iff_of_nodup hx hy]
  exact h
def sset (xs : List Str) : List Str := ssort (ddp xs)
theorem mem_sset {x : Str} {xs : List Str} : x ∈ sset xs ↔ x ∈ xs := mem_ssort.trans mem_ddp
theorem nodup_sset (xs : List Str) : (sset xs).Nodup := (ssort_perm _).nodup_iff.mpr (nodup_ddp xs)
end Q
set_option Elab.async false
set_option linter.all false
set_option maxRecDepth 100000
set_option maxHeartbeats 4000000
namespace My
open PySem PySem.Spec PyProof.Rows L2
/-- an entry of a set of texts -/
def TxE (w : World) (x : Str) (e : Int × Value) : Prop := ∃ t, e = (hashStr w x, .str x t)
/-- the entries of the texts xs, in this order -/
inductive TxEs (w : World) : List Str → List (Int × Value) → Prop
  | nil : TxEs w [] []
  | cons {x : Str} {xs : List Str} {e : Int × Value} {es : List (Int × Value)} : TxE w x e → TxEs w xs es → TxEs w (x :: xs) (e :: es)
theorem TxEs.length {w : World} : ∀ {xs : List Str} {es : List (Int × Value)}, TxEs w xs es → xs.length = es.length
  | _, _, .nil => rfl
  | _, _, .cons _ t => congrArg Nat.succ (TxEs.length t)
theorem TxEs.of_perm {w : World} {es es' : List (Int × Value)} (p : es'.Perm es) : ∀ {xs : List Str}, TxEs w xs es → ∃ ys, ys.Perm xs ∧ TxEs w ys es' := by
  induction p with
  | nil => exact fun h => ⟨_, List.Perm.refl _, h⟩
  | cons e p ih =>
    intro xs h
    cases h with
    | cons h t =>
      obtain ⟨ys, q, r⟩ := ih t
      exact ⟨_ :: ys, q.cons _, .cons h r⟩
  | swap a b l =>
    intro xs h
    cases h with
    | cons h t =>
      cases t with
      | cons h2 t => exact ⟨_ :: _ :: _, List.Perm.swap _ _ _, .cons h2 (.cons h t)⟩
  | trans p q i1 i2 =>
    intro xs h
    obtain ⟨ys, q1, r1⟩ := i2 h
    obtain ⟨zs, q2, r2⟩ := i1 r1
    exact ⟨zs, q2.trans q1, r2⟩
/-- the set of texts at a: its members by the order of its table; the table rises and can be walked -/
def SetX (w : World) (h : Heap) (a : Addr) (xs : List Str) : Prop :=
  ∃ o es ep t, h.get? a = some o ∧ o.ExactSet ∧ o.data = .set es ep t ∧ TxEs w xs es.toList ∧ xs.Nodup ∧ es.size < scanBound ∧ t.fits es.size = true ∧ Ris t.place.toList ∧ (w.params.followText "set-order" = true ∨ t.led = true)
section
variable {P : Program} {w : World} {h h' : Heap} {a : Addr} {xs : List Str}
theorem SetX.at (R : SetX w h a xs) (k : ∀ o, h.get? a = some o → h'.get? a = some o) : SetX w h' a xs := by
  obtain ⟨o, es, ep, t, ho, r⟩ := R
  exact ⟨o, es, ep, t, k o ho, r⟩
theorem TxEs.elems : ∀ {xs : List Str} {es : List (Int × Value)}, TxEs w xs es → ElemsOf (strKind P w) es
  | _, _, .nil => fun e he => nomatch he
  | _, _, .cons (x := x) h t => fun e he => by
    rcases List.mem_cons.mp he with rfl | he
    · obtain ⟨tk, rfl⟩ := h
      exact ⟨⟨x, by show (x == x) = true; exact beq_self_eq_true x, rfl⟩, rfl⟩
    · exact TxEs.elems t e he
theorem TxEs.has : ∀ {xs : List Str} {es : List (Int × Value)}, TxEs w xs es → ∀ k : Str, k ∈ xs ↔ ∃ e ∈ es, (strKind P w).is k e.2 = true
  | _, _, .nil, k => by simp
  | _, _, .cons (x := x) h t, k => by
    obtain ⟨tk, rfl⟩ := h
    have ih := TxEs.has t k
    have e : (strKind P w).is k (Value.str x tk) = true ↔ k = x := by
      show ((x == k) = true) ↔ k = x
      rw [beq_iff_eq]
      exact eq_comm
    rw [List.mem_cons, ih]
    constructor
    · rintro (rfl | ⟨e', he, q⟩)
      · exact ⟨_, List.mem_cons_self, e.mpr rfl⟩
      · exact ⟨e', List.mem_cons_of_mem _ he, q⟩
    · rintro ⟨e', he, q⟩
      rcases List.mem_cons.mp he with rfl | he
      · exact .inl (e.mp q)
      · exact .inr ⟨e', he, q⟩
end
section
variable {P : Program} {w : World} {A : Around} {E : Value → Shared → Prop} {s : Shared} {a : Addr} {xs : List Str}
/-- the end of an add: the entries are stored, and laid anew where the table is too full -/
theorem setX_tail {g : Bool → Sem Unit} (hg : ∀ (b : Bool) (s₁ : Shared) (Q' : Unit → Shared → Prop), Q' () s₁ → wpAny (model P w) A (g b) Q' E s₁)
    {o : Obj} {es es1 : Array (Int × Value)} {ep : Nat} {t t2 : SetTable} (ho : s.heap.get? a = some o) (hex : o.ExactSet) (hd : o.data = .set es ep t)
    {ys : List Str} (g1 : TxEs w ys es1.toList) (nd : ys.Nodup) (hb1 : es1.size < scanBound) (hf2 : t2.fits es1.size = true) (hr : Ris t2.place.toList) (hl : w.params.followText "set-order" = true ∨ t2.led = true) {wasDummy : Bool} {R : Option Bool → Shared → Prop}
    (hR : ∀ h' zs, Heap.SameBut a s.heap h' → zs.Perm ys → SetX w h' a zs → R (some true) { s with heap := h' }) :
    wpAny (model P w) A (do
        storeSet a es1 t2
        if (!wasDummy && t2.tooFull) = true then do
            g (relayAll t2 es1 (SetTable.grown es1.size)).2.2
            storeSet a (relayAll t2 es1 (SetTable.grown es1.size)).1 (relayAll t2 es1 (SetTable.grown es1.size)).2.1
            pure (some true)
          else pure (some true)) R E s := by
  refine wpAny_bind (wpAny_storeSet_of ho hd ?_ (fits_of_scanBound hb1))
  have ho1 := store_at (es' := es1) (t' := t2) ho hd
  have sb1 := Heap.SameBut.update s.heap a (Obj.putSet es1 t2)
  split
  · obtain ⟨zs, pz, gz⟩ := TxEs.of_perm (relayAll_perm t2 es1 (SetTable.grown es1.size)) g1
    have pl := (relayAll_perm t2 es1 (SetTable.grown es1.size)).length_eq
    rw [Array.length_toList, Array.length_toList] at pl
    refine wpAny_bind (hg _ _ _ ?_)
    refine wpAny_bind (wpAny_storeSet_of ho1 rfl ?_ (fits_of_scanBound (by rw [pl]; exact hb1)))
    refine wpAny_pure (hR _ zs (sb1.trans (Heap.SameBut.update _ a _)) pz ?_)
    exact ⟨_, _, _, _, store_at ho1 rfl, hex, rfl, gz, pz.nodup_iff.mpr nd, by rw [pl]; exact hb1, relayAll_fits t2 es1 _, relayAll_ris t2 es1 _, hl.imp id fun z => by rw [relayAll_led]; exact z⟩
  · exact wpAny_pure (hR _ ys sb1 (List.Perm.refl _) ⟨_, es1, _, t2, ho1, hex, rfl, g1, nd, hb1, hf2, hr, hl⟩)
/-- a text is added -/
theorem setX_add {k : Str} {tk : Tok} {Q : Bool → Shared → Prop} (R : SetX w s.heap a xs) (room : xs.length + 1 < scanBound)
    (hold : k ∈ xs → Q false s) (hnew : k ∉ xs → ∀ h' zs, Heap.SameBut a s.heap h' → zs.Perm (k :: xs) → SetX w h' a zs → Q true { s with heap := h' }) :
    wpAny (model P w) A (setAddHashed a (.str k tk) ((strKind P w).hash k)) Q E s := by
  obtain ⟨o, es, ep, t, ho, hex, hd, g, nd, hb, hf, hr, hl⟩ := R
  have hkey : (strKind P w).is k (.str k tk) = true := by show (k == k) = true; exact beq_self_eq_true k
  have hsc : (Value.str k tk).scannable = true := rfl
  have hel : ElemsOf (strKind P w) es.toList := g.elems
  unfold setAddHashed setAddHashedIn
  refine wpAny_holding (wpAny_bind (wpAny_setState_of ho hd hf ?_))
  dsimp only
  rw [byScan_of hsc hb hel]
  simp only [↓reduceIte]
  unfold setAddByScan
  refine wpAny_bind (wpAny_bind (wpAny_rule (wpAny_bind (wpAny_setScan_of hkey ho hd hf hel ?_))))
  cases hfi : List.findIdx? (fun e => (strKind P w).is k e.2) es.toList with
  | some j =>
    obtain ⟨hj, pj, _⟩ := List.findIdx?_eq_some_iff_getElem.mp hfi
    exact wpAny_pure (wpAny_pure (hold ((g.has (P := P) k).mpr ⟨es.toList[j], List.getElem_mem hj, pj⟩)))
  | none =>
    have hk : k ∉ xs := fun z => by
      obtain ⟨e, he, q⟩ := (g.has (P := P) k).mp z
      exact absurd q (by rw [List.findIdx?_eq_none_iff.mp hfi e he]; decide)
    have hq := hnew hk
    have hgw : ∀ (b : Bool) {s₁ : Shared} {Q' : Unit → Shared → Prop}, Q' () s₁ → wpAny (model P w) A (match b with | true => rule "set.scan.the-table-gave-way" | false => pure ()) Q' E s₁ :=
      fun b s₁ Q' q => by cases b <;> first | exact wpAny_pure q | exact wpAny_rule q
    have pm := layNew_perm t es ((strKind P w).hash k) (.str k tk)
    have hf1 := layNew_fits t es ((strKind P w).hash k) (.str k tk)
    have hr1 := layNew_ris t es ((strKind P w).hash k) (.str k tk) hr
    have hl1 := layNew_led t es ((strKind P w).hash k) (.str k tk)
    generalize layNew t es ((strKind P w).hash k) (.str k tk) = Z at pm hf1 hr1 hl1 ⊢
    obtain ⟨es1, t1, wasDummy, gave⟩ := Z
    dsimp only at pm hf1 hr1 hl1 ⊢
    rw [Array.toList_push] at pm
    obtain ⟨ys, py, gy⟩ := TxEs.of_perm (pm.trans (List.perm_append_singleton _ _)) (TxEs.cons (x := k) ⟨tk, rfl⟩ g)
    have hsz : es1.size = xs.length + 1 := by rw [← Array.length_toList, ← gy.length, py.length_eq, List.length_cons]
    have ndy : ys.Nodup := py.nodup_iff.mpr (List.nodup_cons.mpr ⟨hk, nd⟩)
    have hled : w.params.followText "set-order" = true ∨ t1.led = true := hl.imp id fun z => by rw [hl1]; exact z
    have hb1 : es1.size < scanBound := by rw [hsz]; exact room
    refine wpAny_bind (hgw _ ?_)
    split
    · refine wpAny_bind ?_
      rw [hashByValue_scannable 8 hsc]
      refine wpAny_pure (setX_tail ?_ ho hex hd gy ndy hb1 ?_ ?_ ?_ ?_)
      · intro b s₁ Q' q
        cases b <;> first | exact wpAny_pure q | exact wpAny_rule q
      · first | (split <;> first | exact hf1 | exact SetTable.fits_plain_off hf1) | exact hf1
      · first | (split <;> exact hr1) | exact hr1
      · first | (split <;> exact hled) | exact hled
      · intro h' zs sb pz r
        exact wpAny_pure (hq h' zs sb (pz.trans py) r)
    · refine wpAny_bind (wpAny_pure ?_)
      simp only [↓reduceIte]
      refine setX_tail ?_ ho hex hd gy ndy hb1 hf1 hr1 hled ?_
      · intro b s₁ Q' q
        cases b <;> first | exact wpAny_pure q | exact wpAny_rule q
      · intro h' zs sb pz r
        exact wpAny_pure (hq h' zs sb (pz.trans py) r)
end
section
variable {P : Program} {w : World} {A : Around} {E : Value → Shared → Prop} {s : Shared}
/-- s.update of what is walked: texts -/
theorem setX_update {I : Addr} {fp wr : List Addr} {G : Array GenState → Array GenState → Prop} {n : Nat} {Pv : Nat → Value → Prop} {St : Nat → Shared → Prop} {R : Result → Shared → Prop}
    (W : WalksS P w A.in1 I fp wr G n Pv St) (S : Addr) (hSf : S ∉ fp) (ks : List Str) (hn : n = ks.length) (hb : ks.length + 1 < scanBound) (hval : ∀ i v, Pv i v → ∃ k t, ks[i]? = some k ∧ v = .str k t) :
    ∀ (m i : Nat) (s : Shared) (zs : List Str), n - i = m → i ≤ n → St i s → SetX w s.heap S zs → zs.length ≤ i → (∀ k, k ∈ zs ↔ k ∈ ks.take i) →
      (∀ s' ys, Moved (S :: wr) G s s' → SetX w s'.heap S ys → ys.length ≤ n → (∀ k, k ∈ ys ↔ k ∈ ks) → R (.ok (.ret .none)) s') →
      codeAny (model P w) A (.builtin "set.update.loop" ⟨[.ref S, .ref I], []⟩) R s := by
  have hSw : S ∉ wr := fun h => hSf (W.sub _ h)
  have hsub : ∀ b ∈ wr, b ∈ S :: wr := fun b hb => List.mem_cons_of_mem _ hb
  intro m
  induction m with
  | zero =>
    intro i s zs hm hi hst hS hl hz hR
    obtain rfl : i = n := by omega
    refine codeAny_builtin F.entry_set_update_loop ?_
    rw [Around.under_plainId F.plain_set_update_loop _]
    refine wpAny_bind (W.done s _ _ hst fun s' mv => wpAny_pure ?_)
    rw [List.take_of_length_le (by omega)] at hz
    exact hR s' zs (mv.mono hsub) (hS.at fun o e => mv.heap S o hSw e) hl hz
  | succ m ih =>
    intro i s zs hm hi hst hS hl hz hR
    have hlt : i < n := by omega
    refine codeAny_builtin F.entry_set_update_loop ?_
    rw [Around.under_plainId F.plain_set_update_loop _]
    refine wpAny_bind (W.item i s _ _ hlt hst fun v s' hP hst' mv => ?_)
    obtain ⟨k, t, hk, rfl⟩ := hval i v hP
    have hS' : SetX w s'.heap S zs := hS.at fun o e => mv.heap S o hSw e
    show wpAny _ A.in1 (holding [Value.str k t] (setAdd S (.str k t)) >>= _) _ _ s'
    refine wpAny_bind (wpAny_holding ?_)
    unfold setAdd
    refine wpAny_holding (wpAny_bind ((strKind P w).pyHash (k := k) (show (k == k) = true from beq_self_eq_true k) ?_))
    have tk : ks.take (i + 1) = ks.take i ++ [k] := by rw [List.take_add_one, hk]; rfl
    have nx : ∀ (h' : Heap) (ys : List Str), Heap.SameBut S s'.heap h' → SetX w h' S ys → ys.length ≤ i + 1 → (∀ q, q ∈ ys ↔ q ∈ ks.take (i + 1)) → codeAny (model P w) A (.builtin "set.update.loop" ⟨[.ref S, .ref I], []⟩) R { s' with heap := h', toks := s'.toks + 1 } := fun h' ys sb hy hl2 hm2 => by
      refine ih (i + 1) _ ys (by omega) hlt (W.frame _ s' _ _ hst' (Nat.le_succ _) fun b hb o e => ?_) hy hl2 hm2 fun s'' us mv2 hu hlu hmu => ?_
      · rw [sb.2 b (fun z : b = S => hSf (z ▸ hb))]
        exact e
      · refine hR s'' us (Moved.trans W.gtrans ((mv.mono hsub).then_heap (Nat.le_succ _) fun b o hb e => ?_) mv2) hu hlu hmu
        rw [sb.2 b (fun z : b = S => hb (by rw [z]; exact List.mem_cons_self))]
        exact e
    refine setX_add (s := { s' with toks := s'.toks + 1 }) hS' (by omega) (fun hin => ?_) (fun hno h' ys sb py hy => ?_)
    · refine wpAny_pure ⟨plainId_quiet F.plain_set_update_loop _, nx s'.heap zs (Heap.SameBut.refl S s'.heap) hS' (by omega) fun q => ?_⟩
      rw [tk, List.mem_append, List.mem_singleton, ← hz q]
      exact ⟨.inl, fun z => z.elim id fun e => e ▸ hin⟩
    · refine wpAny_pure ⟨plainId_quiet F.plain_set_update_loop _, nx h' ys sb hy (by rw [py.length_eq, List.length_cons]; omega) fun q => ?_⟩
      rw [tk, List.mem_append, List.mem_singleton, ← hz q, py.mem_iff, List.mem_cons]
      exact Or.comm
end
end My
set_option Elab.async false
set_option linter.all false
set_option maxRecDepth 100000
set_option maxHeartbeats 4000000
namespace My
open PySem PySem.Spec PyProof.Rows L2
abbrev newSet (w : World) : Obj := { cls := .type "set", dict := none, data := .set #[] 0 (.fresh 0 0 (!w.params.followText "set-order")) }
section
variable {P : Program} {w : World}
/-- the items of the sequence at l are walked by an iterator -/
structure SeqW (P : Program) (w : World) (h : Heap) (l : Addr) (items : Array Value) (T : String) (it : Obj) (ol : Obj) (St : Addr → Nat → Heap → Prop) : Prop where
  at_ : h.get? l = some ol
  cls : ol.cls = .type T
  s1 : isSubtype (.type T) (.type "set") = pure false
  s2 : isSubtype (.type T) (.type "frozenset") = pure false
  ne : (Value.type T == Value.type "dict") = false
  iter : ∀ {A : Around} {E : Value → Shared → Prop} {s : Shared} {Q : Value → Shared → Prop}, s.heap.get? l = some ol → Q (.ref s.heap.objs.size) { s with heap := s.heap.push it } → wpAny (model P w) A (pyIter (.ref l)) Q E s
  walk : ∀ {A : Around} (hh : A.handled = none) (I : Addr), l ≠ I → Walks P w A I [I, l] [I] items.size (fun i v => items[i]? = some v) (St I)
  nf : it.isFreed = false
  zero : ∀ (I : Addr) (h : Heap), h.get? I = some it → h.get? l = some ol → St I 0 h
theorem seqW_list {h : Heap} {l : Addr} {items : Array Value} (hl : h.IsList l items) : ∃ it ol St, SeqW P w h l items "list" it ol St := by
  obtain ⟨ol, h1, h2, n, h3⟩ := hl
  exact ⟨{ cls := .type "list_iterator", data := .fields #[.ref l, .int 0 0] }, ol, fun I i h => h.IsListIter I l i ∧ h.IsList l items, h1, h2, F.sub_list_set, F.sub_list_frozenset, by decide, fun e q => wpAny_pyIter_list ⟨_, e, h2, n, h3⟩ q, fun hh I hne => Walks.list hh I l hne items, rfl, fun I h e1 e2 => ⟨⟨_, e1, rfl, rfl⟩, ⟨_, e2, h2, n, h3⟩⟩⟩
theorem seqW_tuple {h : Heap} {l : Addr} {items : Array Value} (hl : h.IsTuple l items) : ∃ it ol St, SeqW P w h l items "tuple" it ol St := by
  obtain ⟨ol, h1, h2, n, h3⟩ := hl
  exact ⟨{ cls := .type "tuple_iterator", data := .fields #[.ref l, .int 0 0] }, ol, fun I i h => h.IsTupleIter I l i ∧ h.IsTuple l items, h1, h2, F.sub_tuple_set, F.sub_tuple_frozenset, by decide, fun e q => wpAny_pyIter_tuple ⟨_, e, h2, n, h3⟩ q, fun hh I hne => Walks.tuple hh I l hne items, rfl, fun I h e1 e2 => ⟨⟨_, e1, rfl, rfl⟩, ⟨_, e2, h2, n, h3⟩⟩⟩
/-- what the loop of set.update leaves of the items of h0 in a new set: Z -/
def LoopSet (P : Program) (w : World) (A : Around) (h0 : Heap) (items : Array Value) (Z : Heap → Addr → Prop) : Prop :=
  ∀ {I : Addr} {fp wr : List Addr} {G : Array GenState → Array GenState → Prop} {St : Nat → Shared → Prop} {R : Result → Shared → Prop} (W : WalksS P w A.in1 I fp wr G items.size (fun i v => items[i]? = some v) St) (S : Addr) (s : Shared),
    S ∉ fp → h0.get? S = none → (∀ b ∈ wr, h0.get? b = none) → St 0 s → s.heap.get? S = some (newSet w) → (∀ b o, h0.get? b = some o → s.heap.get? b = some o) →
    (∀ s', Moved (S :: wr) G s s' → Z s'.heap S → R (.ok (.ret .none)) s') → codeAny (model P w) A (.builtin "set.update.loop" ⟨[.ref S, .ref I], []⟩) R s
variable {A : Around} {E : Value → Shared → Prop} {s : Shared}
theorem call_set_seq {l : Addr} {items : Array Value} {T : String} {it ol : Obj} {St : Addr → Nat → Heap → Prop} (hw : SeqW P w s.heap l items T it ol St) {Z : Heap → Addr → Prop} (hh : A.handled = none) (loop : LoopSet P w A.in1.in1 s.heap items Z) {Q : Value → Shared → Prop}
    (h : ∀ (h' : Heap) (tk : Nat), Z h' s.heap.objs.size → (∀ b o, s.heap.get? b = some o → h'.get? b = some o) → Q (.ref s.heap.objs.size) { s with heap := h', toks := tk }) :
    wpAny (model P w) A (call (.type "set") [.ref l]) Q E s := by
  obtain ⟨cm, tl, hmro⟩ := F.called_set.mro
  have hmade := F.called_set.made
  have hsub := F.called_set.sub
  refine wpAny_call (codeAny_of_tree ?_)
  show wpAny _ _ (callAny (.type "set") _) _ _ _
  refine wpAny_pure ⟨Code.quiet_builtin _ (by decide +kernel), codeAny_builtin F.entry_type_call ?_⟩
  rw [Around.under_plain (weight_type_call_type "set" [.ref l] []) rfl]
  have h1 := F.called_set.notType
  have h2 := F.called_set.canCreate
  have hct := F.typeCall_set_1 (.ref l)
  repeat (any_goals (first | assumption | wp_step))
  refine codeAny_mono (code_set_led1 (.ref l) (E := E) (Q₁ := fun obj s₁ => obj = .ref s.heap.objs.size ∧ s₁ = { s with heap := s.heap.push (newSet w) }) ⟨rfl, rfl⟩) fun r s₁ hr => ?_
  cases r with
  | error er => exact hr
  | ok fl =>
    cases fl with
    | ret obj =>
      obtain ⟨rfl, rfl⟩ := hr
      have hS : (s.heap.push (newSet w)).get? s.heap.objs.size = some (newSet w) := Heap.get?_push_size _ rfl
      have hT : Shared.TypeIs { s with heap := s.heap.push (newSet w) } (.ref s.heap.objs.size) "set" := ⟨_, hS, rfl⟩
      have hli := F.called_set.init.lookup
      have hbi := F.called_set.init.bind (.ref s.heap.objs.size)
      repeat (any_goals (first | assumption | wp_step))
      refine codeAny_mono (codeAny_call_builtin (R := wants (fun r s₂ => r = .none ∧ ∃ h' tk, s₂ = { s with heap := h', toks := tk } ∧ Z h' s.heap.objs.size ∧
          (∀ b o, s.heap.get? b = some o → h'.get? b = some o)) E) F.called_set.init.plain F.entry_set_init (check_set_init_1 hT ?_)) fun r₂ s₂ hr₂ => ?_
      · obtain ⟨hol, hcl, hsls, hslf, hne, hiter, hwalk, hnf, hzero⟩ := hw
        obtain ⟨ocls, odict, odata, oslots⟩ := ol
        simp only at hcl
        subst hcl
        have hol' : (s.heap.push (newSet w)).get? l = some { cls := .type T, dict := odict, data := odata, slots := oslots } := Heap.get?_push_of_some _ hol
        have hlS : l < s.heap.objs.size := Heap.lt_size hol
        have hz1 : (s.heap.push (newSet w)).objs.size = s.heap.objs.size + 1 := Heap.size_push ..
        have hh3 : A.in1.in1.in1.handled = none := by simp [hh]
        unfold Builtin.«set.__init__» noKeywords Builtin.Frozenset.updateFrom
        generalize hPI : pyIter = PI
        wp_walk
        subst hPI
        refine hiter hol' ?_
        refine wpAny_bind (wpAny_runValue ?_)
        have hneI : l ≠ (s.heap.push (newSet w)).objs.size := by rw [hz1]; exact Nat.ne_of_lt (Nat.lt_succ_of_lt hlS)
        have hSf : s.heap.objs.size ∉ [(s.heap.push (newSet w)).objs.size, l] := by
          rw [hz1]
          simp only [List.mem_cons, List.not_mem_nil, or_false, not_or]
          exact ⟨Nat.ne_of_lt (Nat.lt_succ_self _), Nat.ne_of_gt hlS⟩
        have none_of : ∀ b, s.heap.objs.size ≤ b → s.heap.get? b = none := fun b hb => by
          cases q : s.heap.get? b with
          | none => rfl
          | some o => exact absurd (Nat.lt_of_lt_of_le (Heap.lt_size q) hb) (Nat.lt_irrefl _)
        refine loop ((hwalk hh3 _ hneI).toS) s.heap.objs.size _ hSf (none_of _ (Nat.le_refl _)) (fun b hb => none_of b (by rw [List.mem_singleton.mp hb, hz1]; exact Nat.le_succ _)) (hzero _ _ (Heap.get?_push_size _ hnf) (Heap.get?_push_of_some _ hol')) (Heap.get?_push_of_some _ hS) (fun b o e => Heap.get?_push_of_some _ (Heap.get?_push_of_some _ e)) fun s' hm hZ => ?_
        obtain ⟨h', g2, d', tk', os'⟩ := s'
        obtain rfl : g2 = s.gens := hm.gens
        obtain rfl : d' = s.drawn := hm.drawn
        obtain rfl : os' = s.os := hm.os
        refine wpAny_pure ?_
        show wpAny _ _ (ret Value.none) _ _ _
        refine wpAny_pure ⟨rfl, h', tk', rfl, hZ, fun b o e => ?_⟩
        have hb0 : b < s.heap.objs.size := Heap.lt_size e
        exact hm.heap b o (by rw [hz1]; simp only [List.mem_cons, List.not_mem_nil, or_false, not_or]; exact ⟨Nat.ne_of_lt hb0, Nat.ne_of_lt (Nat.lt_succ_of_lt hb0)⟩) (Heap.get?_push_of_some _ (Heap.get?_push_of_some _ e))
      · cases r₂ with
        | error er => exact hr₂
        | ok fl₂ =>
          cases fl₂ with
          | ret rv =>
            obtain ⟨rfl, h', tk, rfl, hZ, hk'⟩ := hr₂
            repeat (any_goals (first | assumption | wp_step))
            exact h _ _ hZ hk'
          | _ => exact hr₂.elim
    | _ => exact hr.elim
end
end My
set_option Elab.async false
set_option linter.all false
set_option maxRecDepth 100000
set_option maxHeartbeats 4000000
namespace My
open PySem PySem.Spec PyProof.Rows L2
theorem setX_nil {w : World} {h : Heap} {a : Addr} (ho : h.get? a = some (newSet w)) : SetX w h a [] :=
  ⟨_, #[], 0, _, ho, ⟨rfl, rfl, rfl⟩, rfl, .nil, List.Pairwise.nil, by decide, by rfl, List.Pairwise.nil, by
    show _ ∨ (!w.params.followText "set-order") = true
    cases w.params.followText "set-order"
    · exact .inr rfl
    · exact .inl rfl⟩
section
variable {P : Program} {w : World} {A : Around} {E : Value → Shared → Prop} {s : Shared}
theorem loopX {h0 : Heap} {items : Array Value} {ks : List Str} (hsz : items.size = ks.length) (hit : ∀ (i : Nat) (v : Value), items[i]? = some v → ∃ k t, ks[i]? = some k ∧ v = .str k t) (hb : ks.length + 1 < scanBound) :
    LoopSet P w A h0 items fun h S => ∃ ys, SetX w h S ys ∧ ys.length ≤ ks.length ∧ ∀ k, k ∈ ys ↔ k ∈ ks := by
  intro I fp wr G St R W S s hSf hS0 hw0 st hS old fin
  exact setX_update W S hSf ks hsz hb hit (items.size - 0) 0 s [] (by omega) (Nat.zero_le _) st (setX_nil hS) (Nat.le_refl _) (fun k => by simp) fun s' ys mv hy hl hm => fin s' mv ⟨ys, hy, by omega, hm⟩
theorem call_setX_list {l : Addr} {items : Array Value} (ks : List Str) {Q : Value → Shared → Prop} (hh : A.handled = none) (hl : s.heap.IsList l items) (hsz : items.size = ks.length) (hit : ∀ (i : Nat) (v : Value), items[i]? = some v → ∃ k t, ks[i]? = some k ∧ v = .str k t)
    (hb : ks.length + 1 < scanBound) (h : ∀ (h' : Heap) (tk : Nat) (ys : List Str), SetX w h' s.heap.objs.size ys → ys.length ≤ ks.length → (∀ k, k ∈ ys ↔ k ∈ ks) → (∀ b o, s.heap.get? b = some o → h'.get? b = some o) → Q (.ref s.heap.objs.size) { s with heap := h', toks := tk }) :
    wpAny (model P w) A (call (.type "set") [.ref l]) Q E s := by
  obtain ⟨it, ol, St, hw⟩ := seqW_list (P := P) (w := w) hl
  exact call_set_seq (Z := fun h S => ∃ ys, SetX w h S ys ∧ ys.length ≤ ks.length ∧ ∀ k, k ∈ ys ↔ k ∈ ks) hw hh (loopX hsz hit hb) fun h' tk ⟨ys, a, b, c⟩ k => h h' tk ys a b c k
theorem call_setX_tuple {l : Addr} {items : Array Value} (ks : List Str) {Q : Value → Shared → Prop} (hh : A.handled = none) (hl : s.heap.IsTuple l items) (hsz : items.size = ks.length) (hit : ∀ (i : Nat) (v : Value), items[i]? = some v → ∃ k t, ks[i]? = some k ∧ v = .str k t)
    (hb : ks.length + 1 < scanBound) (h : ∀ (h' : Heap) (tk : Nat) (ys : List Str), SetX w h' s.heap.objs.size ys → ys.length ≤ ks.length → (∀ k, k ∈ ys ↔ k ∈ ks) → (∀ b o, s.heap.get? b = some o → h'.get? b = some o) → Q (.ref s.heap.objs.size) { s with heap := h', toks := tk }) :
    wpAny (model P w) A (call (.type "set") [.ref l]) Q E s := by
  obtain ⟨it, ol, St, hw⟩ := seqW_tuple (P := P) (w := w) hl
  exact call_set_seq (Z := fun h S => ∃ ys, SetX w h S ys ∧ ys.length ≤ ks.length ∧ ∀ k, k ∈ ys ↔ k ∈ ks) hw hh (loopX hsz hit hb) fun h' tk ⟨ys, a, b, c⟩ k => h h' tk ys a b c k
end
end My
set_option Elab.async false
set_option linter.all false
set_option maxRecDepth 100000
set_option maxHeartbeats 4000000
namespace My
open PySem PySem.Spec PyProof.Rows L2
section
variable {P : Program} {w : World} {A : Around} {E : Value → Shared → Prop} {s : Shared} {a : Addr} {xs : List Str}
theorem TxEs.strs : ∀ {xs : List Str} {es : List (Int × Value)}, TxEs w xs es → StrsAre (es.map (·.2)) xs
  | _, _, .nil => .nil
  | _, _, .cons (x := x) h t => by
    obtain ⟨tk, rfl⟩ := h
    exact .cons x tk (TxEs.strs t)
theorem strs_perm {vs us : List Value} (p : vs.Perm us) : ∀ {xs : List Str}, StrsAre us xs → ∃ ys, ys.Perm xs ∧ StrsAre vs ys := by
  induction p with
  | nil => exact fun h => ⟨_, List.Perm.refl _, h⟩
  | cons e p ih =>
    intro xs h
    cases h with
    | cons x t h =>
      obtain ⟨ys, q, r⟩ := ih h
      exact ⟨_ :: ys, q.cons _, .cons x t r⟩
  | swap a b l =>
    intro xs h
    cases h with
    | cons x t h =>
      cases h with
      | cons y u h => exact ⟨_ :: _ :: _, List.Perm.swap _ _ _, .cons y u (.cons x t h)⟩
  | trans p q i1 i2 =>
    intro xs h
    obtain ⟨ys, q1, r1⟩ := i2 h
    obtain ⟨zs, q2, r2⟩ := i1 r1
    exact ⟨zs, q2.trans q1, r2⟩
theorem sorted_setX {Q : Value → Shared → Prop} (R : SetX w s.heap a xs) (hh : A.handled = none)
    (hQ : ∀ s' p (out : Array Value) (c : Nat) (ys : List Str), (∀ b o, s.heap.get? b = some o → s'.heap.get? b = some o) → s'.gens = s.gens → s'.os = s.os → s.heap.objs.size ≤ p →
      s'.heap.get? p = some (seqObj "list" out c) → StrsAre out.toList ys → ys.Perm xs → sortedS ys = true → Q (.ref p) s') :
    wpAny (model P w) A (call (.builtin "sorted") [.ref a]) Q E s := by
  obtain ⟨o, es, ep, t, ho, hex, hd, g, nd, hb, hf, hr, hl⟩ := R
  refine Calls.call_function_entry kind_sorted plain_sorted entry_sorted (args_sorted1 _) ?_
  unfold Builtin.«sorted»
  refine wpAny_bind (m := checkCount "sorted" 1 1 _) (wpAny_pure ?_)
  refine wpAny_bind (collect_set (A := A.in1) hh ⟨o, ho, hex.1, hd⟩ hf hb hr hl fun s1 vs k1 hz g1 o1 pm => ?_)
  have hsz : vs.length ≤ sizeLine := by rw [pm.length_eq, List.length_map, Array.length_toList]; exact fits_of_scanBound hb
  obtain ⟨ys, py, hS⟩ := strs_perm pm g.strs
  refine wpAny_bind (wpAny_newList ?_ hsz)
  have hoL : (s1.heap.push (seqObj "list" vs.toArray 0)).get? s1.heap.objs.size = some (seqObj "list" vs.toArray 0) := Heap.get?_push_size _ rfl
  refine wpAny_bind (wpAny_holding (wpAny_call_entry slot_list_sort ⟨_, hoL, rfl⟩ entry_list_sort (list_sort_treeKAny strKind_oneLt hoL hS.keysOf (fun v₁ v₂ rest e => keyKind_strs (by rw [← e]; exact hS)) hsz fun st' hp hs => ⟨_, rfl, ?_⟩) (args_list_sort _)))
  obtain ⟨ss', a1, a2, a3⟩ := sorted_out_str hS hp hs
  obtain ⟨c, hc⟩ := sortedHeap_at (vs := vs) (out := (arrOf st').map (·.2)) hoL
  refine wpAny_pure ⟨_, rfl, hQ _ s1.heap.objs.size _ c ss' (fun b u e => ?_) g1 o1 hz hc a1 (a2.trans py) a3⟩
  have q := k1 b u e
  have hlt := Heap.lt_size q
  show (sortedHeap (s1.heap.push (seqObj "list" vs.toArray 0)) s1.heap.objs.size vs ((arrOf st').map (·.2))).get? b = some u
  rw [sortedHeap_old (Nat.ne_of_lt hlt) (by rw [size_push']; exact Nat.lt_succ_of_lt hlt)]
  exact Heap.get?_push_of_some _ q
theorem len_setX {Q : Value → Shared → Prop} (R : SetX w s.heap a xs) (h : ∀ t k, Q (.int xs.length t) { s with toks := k }) : wpAny (model P w) A (call (.builtin "len") [.ref a]) Q E s := by
  obtain ⟨o, es, ep, t, ho, hex, hd, g, nd, hb, hf, hr, hl⟩ := R
  have e : es.size = xs.length := by rw [g.length, Array.length_toList]
  refine call_len_set ho hex hd hf (by have := fits_of_scanBound hb; rw [sizeLine_eq] at this; omega) ?_
  rw [e]
  exact h _ _
end
end My
set_option Elab.async false
set_option linter.all false
set_option maxRecDepth 100000
set_option maxHeartbeats 4000000
namespace Q
open PySem PySem.Spec PyProof.Rows L2 My
section
variable {prog : Program} {w : World} {A : Around} {E : Value → Shared → Prop} {s : Shared}
theorem collect_tup {l : Addr} {vs : List Value} {Q : List Value → Shared → Prop} (hl : s.heap.IsTuple l vs.toArray)
    (h : Q vs { s with heap := (s.heap.push (seqObj "list" #[] 0)).update s.heap.objs.size (Obj.mapSeq (· ++ vs.toArray)) }) (hsz : vs.length ≤ sizeLine) :
    wpAny (model prog w) A (collect (.ref l)) Q E s := by
  obtain ⟨o, ho, hc, n, hd⟩ := id hl
  unfold collect
  refine wpAny_bind (wpAny_runValue (codeAny_builtin entry_proto_collect' ?_))
  show wpAny _ _ (do again (.builtin "list.__iadd__" ⟨[← newList [], .ref l], []⟩)) _ _ s
  refine wpAny_bind (wpAny_newList (wpAny_pure ⟨Code.quiet_builtin _ (by decide +kernel), codeAny_builtin entry_list_iadd' ?_⟩))
  show wpAny _ _ (Builtin.List.listExtendWith (.ref s.heap.objs.size) (.ref l) (.ref s.heap.objs.size)) _ _ { s with heap := s.heap.push (seqObj "list" #[] 0) }
  unfold Builtin.List.listExtendWith
  have ho' : (s.heap.push (seqObj "list" #[] 0)).get? l = some o := Heap.get?_push_of_some _ ho
  refine wpAny_bind (wpAny_typeOf (T := "tuple") ⟨o, ho', hc⟩ ?_)
  have ht : (Value.type "tuple" == Value.type "tuple") = true := by rfl
  rw [if_pos (by rw [ht]; simp)]
  refine wpAny_bind (listItems_at ho' hd ?_)
  refine wpAny_bind (listItems_at (xs := #[]) (n := 0) (Heap.get?_push_size _ rfl) rfl ?_)
  rw [if_neg (by simp)]
  refine wpAny_bind (listUpdate_at (xs := #[]) (n := 0) (Heap.get?_push_size _ rfl) rfl ?_ (Nat.zero_le _) (by show (#[] ++ vs.toArray).size ≤ sizeLine + 1; simp only [Array.size_append, List.size_toArray, List.length_nil]; omega))
  refine wpAny_pure ?_
  show wpAny (model prog w) A (do
      let o ← load s.heap.objs.size
      match o.data with
      | .seq xs _ => pure xs.toList
      | _ => unsupported "internal:collect") Q E { s with heap := (s.heap.push (seqObj "list" #[] 0)).update s.heap.objs.size (Obj.mapSeq (· ++ vs.toArray)) }
  refine wpAny_bind (wpAny_load (get?_update_seq (Heap.get?_push_size _ rfl) _) ?_)
  show wpAny _ _ (pure ((#[] : Array Value) ++ vs.toArray).toList) Q E _
  rw [show ((#[] : Array Value) ++ vs.toArray).toList = vs by simp]
  exact wpAny_pure h
theorem sorted_strsT {l : Addr} {vs : List Value} {ss : List Str} {Q : Value → Shared → Prop} (hl : s.heap.IsTuple l vs.toArray) (hS : StrsAre vs ss) (hL : vs.length ≤ sizeLine)
    (h : ∀ (out : Array Value) (ss' : List Str), StrsAre out.toList ss' → ss'.Perm ss → sortedS ss' = true → Q (.ref (s.heap.objs.size + 1)) { s with heap := sortedAll s.heap vs out }) :
    wpAny (model prog w) A (call (.builtin "sorted") [.ref l]) Q E s := by
  refine Calls.call_function_entry kind_sorted plain_sorted entry_sorted (args_sorted1 _) ?_
  unfold Builtin.«sorted»
  refine wpAny_bind (m := checkCount "sorted" 1 1 _) (wpAny_pure ?_)
  refine wpAny_bind (collect_tup hl ?_ hL)
  refine wpAny_bind (wpAny_newList ?_ hL)
  have hsz : ((s.heap.push (seqObj "list" #[] 0)).update s.heap.objs.size (Obj.mapSeq (· ++ vs.toArray))).objs.size = s.heap.objs.size + 1 := by
    rw [Heap.size_update, size_push']
  have hoL : (((s.heap.push (seqObj "list" #[] 0)).update s.heap.objs.size (Obj.mapSeq (· ++ vs.toArray))).push (seqObj "list" vs.toArray 0)).get? (s.heap.objs.size + 1) = some (seqObj "list" vs.toArray 0) := by
    rw [← hsz]; exact Heap.get?_push_size _ rfl
  show wpAny _ _ _ _ _ { s with heap := ((s.heap.push (seqObj "list" #[] 0)).update s.heap.objs.size (Obj.mapSeq (· ++ vs.toArray))).push (seqObj "list" vs.toArray 0) }
  rw [hsz]
  refine wpAny_bind (wpAny_holding (wpAny_call_entry slot_list_sort ⟨_, hoL, rfl⟩ entry_list_sort (list_sort_treeKAny strKind_oneLt hoL hS.keysOf (fun v₁ v₂ rest e => keyKind_strs (by rw [← e]; exact hS)) hL fun st' hp hs => ⟨_, rfl, ?_⟩) (args_list_sort _)))
  obtain ⟨ss', h1, h2, h3⟩ := sorted_out_str hS hp hs
  exact wpAny_pure ⟨_, rfl, h _ ss' h1 h2 h3⟩
end
section
variable {X : Cx} {g0 : Gh} {a b c e o : Expr} {es : List Expr} {wa wb wc : WE} {w : WA} {pos p p2 q2 : Pos} {x : Str}
theorem keys_strs : ∀ {kds : List (Key × D)} {ss : List Str}, kds.map (fun p => kD p.1) = ss.map D.str → kds.map (·.1) = ss.map Sum.inr
  | [], [], _ => rfl
  | [], _ :: _, h => nomatch h
  | _ :: _, [], h => nomatch h
  | (k, d) :: kds, y :: ss, h => by
    simp only [List.map_cons, List.cons.injEq] at h ⊢
    refine ⟨?_, keys_strs h.2⟩
    cases k with
    | inl i => exact absurd h.1 (by simp [kD])
    | inr z => have := h.1; simp [kD] at this; rw [this]
/-- sorted(x): texts -/
def rdSorted (ds : List D) (M : Mp) (Q : KD) : Prop := ∃ x ys ss, ds = [x] ∧ seqD (look M x) = some ys ∧ strsD ys = some ss ∧ ss.length < 64 ∧ Q (.lst ((ssort ss).map .str)) M
theorem d_sorted (hc : X.calm = true) : DON X (.builtin "sorted") rdSorted := by
  refine ⟨fun ds M Q Q' k ⟨x, ys, ss, h1, h2, h3, h4, h5⟩ => ⟨x, ys, ss, h1, h2, h3, h4, k _ _ h5⟩, fun pins s σ H vs us Q I rv ⟨g, M, ds, w, hx, x, ys, ss, h1, h2, h3, h4, h5⟩ => ?_⟩
  subst h1
  obtain ⟨v, rfl, hv⟩ := has1 hx
  obtain rfl := strsD_eq h3
  unfold seqD at h2
  split at h2
  · rename_i ds e1
    injection h2 with h2
    subst h2
    obtain ⟨p, xs, rfl, k1, k2⟩ := w.seeL hv e1
    obtain rfl := has_strs k2
    refine cr_sortedS pins s σ H _ us Q I rv ⟨p, ss, rfl, SqL.of k1, h4, fun zs l pm so hl => ?_⟩
    rw [ssort_uniq pm so]
    exact lk_new h5 w hl (has_lst (hasL_strs _) (w.hsn hl))
  · rename_i ds e1
    injection h2 with h2
    subst h2
    obtain ⟨p, xs, rfl, k1, k2⟩ := w.seeT hv e1
    obtain rfl := has_strs k2
    obtain ⟨u, rfl, ru⟩ := vals1 rv
    obtain rfl : u = Value.ref p := ru
    obtain ⟨its, r, pl, hz⟩ := I.tuple (SqT.of k1)
    refine sorted_strsT (vs := its) pl r.strs (by rw [← r.length]; exact hz) fun out zs a1 a2 a3 => ?_
    obtain ⟨ep, he'⟩ := PyProof.Rows.sortedAll_at s.heap its out
    have hn : H (s.heap.objs.size + 1) = none := I.hok.fresh (Nat.le_succ _)
    have hlen : (zs.map V.str).length ≤ sizeLine := by rw [List.length_map, a2.length_eq]; exact small64 h4
    refine ⟨.ref _, upd H (s.heap.objs.size + 1) (.lst (zs.map V.str)), I.laid (t' := s.toks) (fun _ _ => PyProof.Rows.sortedAll_old) (Nat.le_succ _) ⟨hlen, out.toList, ep, vals_of_strs a1, he'⟩, rfl, ?_⟩
    rw [ssort_uniq a2 a3]
    exact lk_new h5 w hn (has_lst (hasL_strs _) (w.hsn hn))
  · rename_i kds e1
    obtain ⟨p, kv, rfl, k1, k2, k3⟩ := w.seeD hv e1
    have hk : kv.map (·.1) = ss.map Sum.inr := by
      rw [← k2]
      exact keys_strs (Option.some.inj h2)
    refine call_sortedD hc pins s σ H _ us Q I rv ⟨p, kv, ss, rfl, k1, hk, h4, fun zs l pm so hl => ?_⟩
    rw [ssort_uniq pm so]
    exact lk_new h5 w hl (has_lst (hasL_strs _) (w.hsn hl))
  · rename_i sx e1
    injection h2 with h2
    obtain rfl := (List.map_inj_right fun a b e => D.str.inj e).mp h2
    obtain ⟨p, o, rfl, k1, _⟩ := w.seeX hv e1
    obtain ⟨u, rfl, ru⟩ := vals1 rv
    obtain rfl : u = Value.ref p := ru
    obtain ⟨its, r, pl, hz⟩ := I.tuple (.inl (.inr ⟨_, k1⟩))
    refine sorted_strsT (vs := its) pl r.strs (by rw [← r.length]; exact hz) fun out zs a1 a2 a3 => ?_
    obtain ⟨ep, he'⟩ := PyProof.Rows.sortedAll_at s.heap its out
    have hn : H (s.heap.objs.size + 1) = none := I.hok.fresh (Nat.le_succ _)
    have hlen : (zs.map V.str).length ≤ sizeLine := by rw [List.length_map, a2.length_eq]; exact small64 h4
    refine ⟨.ref _, upd H (s.heap.objs.size + 1) (.lst (zs.map V.str)), I.laid (t' := s.toks) (fun _ _ => PyProof.Rows.sortedAll_old) (Nat.le_succ _) ⟨hlen, out.toList, ep, vals_of_strs a1, he'⟩, rfl, ?_⟩
    rw [ssort_uniq a2 a3]
    exact lk_new h5 w hn (has_lst (hasL_strs _) (w.hsn hn))
  · cases h2
def rdSet (k : List Str → KD → Mp → Prop) (x : D) (M : Mp) (Q : KD) : Prop := match look M x with
  | .lst ds => ∃ ss, strsD ds = some ss ∧ ss.length < 1000 ∧ k ss Q M
  | .tup ds => ∃ ss, strsD ds = some ss ∧ ss.length < 1000 ∧ k ss Q M
  | .tux ss => ss.length < 1000 ∧ k ss Q M
  | _ => False
theorem strs_get : ∀ {vs : List V} {us : List Value}, Vals vs us → ∀ ss : List Str, vs = ss.map V.str → ∀ (i : Nat) (v : Value), us[i]? = some v → ∃ k t, ss[i]? = some k ∧ v = .str k t
  | _, _, .nil, ss, e, i, v, h => by simp at h
  | _, _, .cons r t, [], e, _, _, _ => nomatch e
  | _, _, .cons r t, y :: ss, e, 0, v, h => by
    simp at h
    cases e
    subst h
    obtain ⟨tk, rfl⟩ := r
    exact ⟨y, tk, rfl, rfl⟩
  | _, _, .cons r t, y :: ss, e, i + 1, v, h => by
    cases e
    obtain ⟨k, tk, h1, h2⟩ := strs_get t ss rfl i v (by simpa using h)
    exact ⟨k, tk, by simpa using h1, h2⟩
theorem set_run (hc : X.calm = true) {pins : List (Addr × Obj)} {s : Shared} {σ : L2.St} {H : Hp} {v : V} {u : Value} {Qf : Value → Shared → Prop} {g : Gh} {M : Mp} {x : D} {k : List Str → KD → Mp → Prop} {Q : KD} (I : Inv X pins σ H s) (rv : RelV v u) (w : WR X.K g M H) (hv : Has X.K g v x) (h : rdSet k x M Q)
    (q : ∀ (ss ys : List Str) (h' : Heap) (tk : Nat), k ss Q M → ss.length < 1000 → ys.Perm (ddp ss) → SetX X.w h' s.heap.objs.size ys → Inv X pins σ H { s with heap := h', toks := tk } → Qf (.ref s.heap.objs.size) { s with heap := h', toks := tk }) :
    wpAny (model X.prog X.w) X.A (call (.type "set") [u]) Qf X.xe s := by
  unfold rdSet at h
  have perm : ∀ {ss ys : List Str} {h' : Heap}, SetX X.w h' s.heap.objs.size ys → (∀ k, k ∈ ys ↔ k ∈ ss) → ys.Perm (ddp ss) := fun hs hm => by
    obtain ⟨_, _, _, _, _, _, _, _, nd, _⟩ := hs
    exact perm_of_nodup nd (nodup_ddp _) fun k => (hm k).trans mem_ddp.symm
  have sb : ∀ {n : Nat}, n < 1000 → n + 1 < scanBound := fun h => by unfold scanBound; omega
  split at h
  · rename_i ds e1
    obtain ⟨ss, h1, h2, h3⟩ := h
    obtain rfl := strsD_eq h1
    obtain ⟨p, xs, rfl, k1, k2⟩ := w.seeL hv e1
    obtain rfl := has_strs k2
    obtain rfl : u = Value.ref p := rv
    obtain ⟨its, r, pl, hz⟩ := I.list (SqL.of k1)
    have hl := r.length
    rw [List.length_map] at hl
    refine call_setX_list ss (I.ok.hd hc) pl.isList (by rw [List.size_toArray, hl]) (fun i v hi => strs_get r ss rfl i v (by simpa using hi)) (sb h2) fun h' tk ys hs hly hm kp => ?_
    exact q ss ys h' tk h3 h2 (perm hs hm) hs (I.kept kp)
  · rename_i ds e1
    obtain ⟨ss, h1, h2, h3⟩ := h
    obtain rfl := strsD_eq h1
    obtain ⟨p, xs, rfl, k1, k2⟩ := w.seeT hv e1
    obtain rfl := has_strs k2
    obtain rfl : u = Value.ref p := rv
    obtain ⟨its, r, pl, hz⟩ := I.tuple (SqT.of k1)
    have hl := r.length
    rw [List.length_map] at hl
    refine call_setX_tuple ss (I.ok.hd hc) pl (by rw [List.size_toArray, hl]) (fun i v hi => strs_get r ss rfl i v (by simpa using hi)) (sb h2) fun h' tk ys hs hly hm kp => ?_
    exact q ss ys h' tk h3 h2 (perm hs hm) hs (I.kept kp)
  · rename_i ss e1
    obtain ⟨h2, h3⟩ := h
    obtain ⟨p, o, rfl, k1, _⟩ := w.seeX hv e1
    obtain rfl : u = Value.ref p := rv
    obtain ⟨its, r, pl, hz⟩ := I.tuple (.inl (.inr ⟨_, k1⟩))
    have hl := r.length
    rw [List.length_map] at hl
    refine call_setX_tuple ss (I.ok.hd hc) pl (by rw [List.size_toArray, hl]) (fun i v hi => strs_get r ss rfl i v (by simpa using hi)) (sb h2) fun h' tk ys hs hly hm kp => ?_
    exact q ss ys h' tk h3 h2 (perm hs hm) hs (I.kept kp)
  · exact h.elim
theorem rdSet.mono {k : List Str → KD → Mp → Prop} (hk : ∀ ss Q Q' M, (∀ d M', Q d M' → Q' d M') → k ss Q M → k ss Q' M) : Mono1 (rdSet k) := fun x M Q Q' hq h => by
  unfold rdSet at h ⊢
  split at h
  · obtain ⟨ss, h1, h2, h3⟩ := h; exact ⟨ss, h1, h2, hk _ _ _ _ hq h3⟩
  · obtain ⟨ss, h1, h2, h3⟩ := h; exact ⟨ss, h1, h2, hk _ _ _ _ hq h3⟩
  · obtain ⟨h2, h3⟩ := h; exact ⟨h2, hk _ _ _ _ hq h3⟩
  · exact h.elim
/-- len(set(x)) -/
abbrev rdLenSet : RD1 := rdSet fun ss Q M => Q (.int (ddp ss).length) M
/-- sorted(set(x)) -/
abbrev rdSortedSet : RD1 := rdSet fun ss Q M => Q (.lst ((sset ss).map .str)) M
theorem boot_set' : bootBuiltins "set" = some (.type "set") := by decide +kernel
theorem boot_sorted' : bootBuiltins "sorted" = some (.builtin "sorted") := by decide +kernel
theorem qe_lenSet (hc : X.calm = true) (hm : X.mg "len" = none) (hm2 : X.mg "set" = none) (ha : QE X g0 a wa) (hg : Gl X "len" := by rfl) (hg2 : Gl X "set" := by rfl)
    (na : starEach [a] X.env = (false, eval a X.env) :: starEach [] X.env := by rfl) : QE X g0 (.Call (.Name "len" p) [.Call (.Name "set" p2) [a] [] q2] [] pos) (wUn rdLenSet wa) := by
  have mo : Mono1 rdLenSet := rdSet.mono fun ss Q Q' M k h => k _ _ h
  refine ⟨fun z Q Q' k h => ha.mono _ _ _ (fun x z1 h1 => mo _ _ _ _ (fun d M q => k _ _ q) h1) h, ⟨fun pins s σ H Q I ⟨g, z, l0, r, h⟩ => ?_⟩⟩
  refine Call_ (ld_blt I hg hm boot_len ?_)
  refine PyProof.Rows.callWith_builtin1 (PyProof.Rows.args_cons ?_ rfl) rfl rfl
  refine Call_ (ld_blt I hg2 hm2 boot_set' ?_)
  refine PyProof.Rows.callWith_type1 (PyProof.Rows.args_cons (thn (ha.run.run pins s σ H (fun v H1 => ∃ g1 z1 d, g.le g1 ∧ RR X.K g1 z1 σ H1 ∧ Has X.K g1 v d ∧ rdLenSet d z1.M fun r M => ∀ v g' H', g.le g' → RR X.K g' ⟨z1.ρ, M⟩ σ H' → Has X.K g' v r → Q v H') I ⟨g, z, l0, r, ha.mono _ _ _ (fun d z1 h1 v g1 H1 e1 r1 a1 => ⟨g1, z1, d, e1, r1, a1, h1⟩) h⟩) fun v s1 ⟨x, H1, I1, r1, g1, z1, d, e1, rr1, a1, h1⟩ => PyProof.Rows.args_nil ?_) na) na rfl
  refine set_run hc I1 r1 rr1.wr a1 h1 fun ss ys h' tk q hl pm hs I2 => PyProof.Rows.args_nil (len_setX hs fun t k => ⟨.int ys.length, H1, I2.tok _, ⟨_, rfl⟩, ?_⟩)
  rw [pm.length_eq]
  exact q (.int _) g1 H1 e1 ⟨rr1.wr, rr1.sl⟩ (.int _)
theorem qe_sortedSet (hc : X.calm = true) (hm : X.mg "sorted" = none) (hm2 : X.mg "set" = none) (ha : QE X g0 a wa) (hg : Gl X "sorted" := by rfl) (hg2 : Gl X "set" := by rfl)
    (na : starEach [a] X.env = (false, eval a X.env) :: starEach [] X.env := by rfl) : QE X g0 (.Call (.Name "sorted" p) [.Call (.Name "set" p2) [a] [] q2] [] pos) (wUn rdSortedSet wa) := by
  have mo : Mono1 rdSortedSet := rdSet.mono fun ss Q Q' M k h => k _ _ h
  refine ⟨fun z Q Q' k h => ha.mono _ _ _ (fun x z1 h1 => mo _ _ _ _ (fun d M q => k _ _ q) h1) h, ⟨fun pins s σ H Q I ⟨g, z, l0, r, h⟩ => ?_⟩⟩
  refine Call_ (ld_blt I hg hm boot_sorted' ?_)
  refine PyProof.Rows.callWith_builtin1 (PyProof.Rows.args_cons ?_ rfl) rfl rfl
  refine Call_ (ld_blt I hg2 hm2 boot_set' ?_)
  refine PyProof.Rows.callWith_type1 (PyProof.Rows.args_cons (thn (ha.run.run pins s σ H (fun v H1 => ∃ g1 z1 d, g.le g1 ∧ RR X.K g1 z1 σ H1 ∧ Has X.K g1 v d ∧ rdSortedSet d z1.M fun r M => ∀ v g' H', g.le g' → RR X.K g' ⟨z1.ρ, M⟩ σ H' → Has X.K g' v r → Q v H') I ⟨g, z, l0, r, ha.mono _ _ _ (fun d z1 h1 v g1 H1 e1 r1 a1 => ⟨g1, z1, d, e1, r1, a1, h1⟩) h⟩) fun v s1 ⟨x, H1, I1, r1, g1, z1, d, e1, rr1, a1, h1⟩ => PyProof.Rows.args_nil ?_) na) na rfl
  refine set_run hc I1 r1 rr1.wr a1 h1 fun ss ys h' tk q hl pm hs I2 => PyProof.Rows.args_nil (sorted_setX hs (I1.ok.hd hc) fun s' l out ep zs kp hgn ho hp hget hst pz so => ?_)
  have e : zs = sset ss := by
    rw [ssort_uniq pz so]
    exact ssort_of_perm pm
  subst e
  have hn : H1 l = none := I2.hok.fresh hp
  have hlen : ((sset ss).map V.str).length ≤ sizeLine := by
    rw [List.length_map, pz.length_eq, pm.length_eq]
    have := length_ddp_le ss
    rw [sizeLine_eq]
    omega
  have J : Inv X pins σ (upd H1 l (.lst ((sset ss).map V.str))) { ({ s1 with heap := h', toks := tk } : Shared) with heap := s'.heap, gens := s'.gens, drawn := s'.drawn, toks := s'.toks } :=
    I2.call (ch := []) (Un.laid kp hp hn) (I2.hok.laid kp hp ⟨hlen, out.toList, ep, vals_of_strs hst, hget⟩) (by rw [hgn]; exact I1.bare) (fun _ z => nomatch z)
  have e : s' = { s1 with heap := s'.heap, gens := s'.gens, drawn := s'.drawn, toks := s'.toks } := by
    cases s'
    cases s1
    cases ho
    rfl
  rw [e]
  have le := Gh.le_add (o := .lst ((sset ss).map V.str)) (rr1.wr.hsn hn)
  exact ⟨.ref l, _, J, rfl, q (.ref l) _ _ (e1.trans le) ⟨rr1.wr.new hn, rr1.sl.le le⟩ (has_lst (hasL_strs _) (rr1.wr.hsn hn))⟩
end
end Q
set_option Elab.async false
set_option linter.all false
set_option maxRecDepth 100000
set_option maxHeartbeats 4000000
namespace Q
open PySem PySem.Spec PyProof.Rows L2 My
def tyName (M : Mp) (d : D) : Option String := match look M d with
  | .str _ => some "str"
  | .lst _ => some "list"
  | .dct _ => some "dict"
  | _ => none
abbrev RDM := D → List D → Mp → KD → Prop
def rOfM (K : PySem.W.Frag) (rd : RDM) : V → List V → Hp → VK → Prop := fun v vs H Q => ∃ g M x ds, WR K g M H ∧ Has K g v x ∧ HasL K g vs ds ∧ rd x ds M (lk K g Q)
def MonoM (rd : RDM) : Prop := ∀ x ds M Q Q', (∀ d M', Q d M' → Q' d M') → rd x ds M Q → rd x ds M Q'
structure DM (X : Cx) (id : String) (rd : RDM) : Prop where
  mono : MonoM rd
  run : MtR X id (rOfM X.K rd)
section
variable {X : Cx} {g0 : Gh} {a b c e o : Expr} {es : List Expr} {we wa wb wc : WE} {w : WA} {pos p apos cpos : Pos} {x name : Str} {T id : String} {rd : RDM}
theorem WR.typeIs {pins : List (Addr × Obj)} {σ : L2.St} {H : Hp} {s : Shared} {g : Gh} {M : Mp} {v : V} {u : Value} {d : D} (I : Inv X pins σ H s) (r : RelV v u) (w : WR X.K g M H) (h : Has X.K g v d) (e : tyName M d = some T) :
    s.TypeIs u T ∧ ∀ a, u = .ref a → ∃ ob, s.heap.get? a = some ob ∧ ob.dict = none := by
  unfold tyName at e
  split at e
  · rename_i z e1
    cases e
    cases seeS h e1
    exact tyV_is (T := "str") I r rfl
  · rename_i ds e1
    cases e
    obtain ⟨p, xs, rfl, k1, k2⟩ := w.seeL h e1
    exact tyV_is (T := "list") I r (.inl ⟨rfl, xs, SqL.of k1⟩)
  · rename_i ds e1
    cases e
    obtain ⟨p, kv, rfl, k1, k2, k3⟩ := w.seeD h e1
    obtain rfl : u = Value.ref p := r
    obtain ⟨h1, h2, _⟩ := isD_at I (.inl ⟨kv, k1⟩)
    exact ⟨h1, h2⟩
  · cases e
def wBM (T : String) (rd : RDM) (wo : WE) (wa : WA) : WE := fun z Q => wo z fun d z1 => tyName z1.M d = some T ∧ wa z1 fun ds z2 => rd d ds z2.M fun r M => Q r ⟨z2.ρ, M⟩
def wBM0 (T : String) (rd : RDM) (wo : WE) : WE := fun z Q => wo z fun d z1 => tyName z1.M d = some T ∧ rd d [] z1.M fun r M => Q r ⟨z1.ρ, M⟩
theorem qe_bm (pa : PlainAttrs T) (slot : Slot T name id) (hty : typeOf (.builtin id) = pure (.type "method_descriptor")) (m : DM X id rd) (ho : QE X g0 o we) (ha : QA X g0 (e :: es) w)
    (hbase : attributeBase o name X.env (eval o X.env) = eval o X.env := by rfl)
    (hfew : ((backTo cpos (starEach (e :: es) X.env)).all (fun x => !x.1) && (backToKw cpos (keywordEach [] X.env)).all (fun x => x.1.isSome)
      && decide ((e :: es).length + ([] : List Keyword).length + (if ([] : List Keyword).isEmpty then 0 else 1) < 30)) = true := by rfl)
    (hline : (apos.endLine == cpos.line) = true := by rfl) (hs : starEach (e :: es) X.env = (false, eval e X.env) :: starEach es X.env := by rfl) (hplain : (backTo cpos (starEach es X.env)).any (·.1) = false := by rfl) :
    QE X g0 (.Call (.Attribute o name apos) (e :: es) [] cpos) (wBM T rd we w) := by
  refine ⟨fun z Q Q' k h => ho.mono _ _ _ (fun d z1 ⟨h1, h2⟩ => ⟨h1, ha.mono _ _ _ (fun ds z2 h3 => m.mono _ _ _ _ _ (fun r M q => k _ _ q) h3) h2⟩) h, ⟨fun pins s σ H Q I ⟨g, z, l0, r, h⟩ => ?_⟩⟩
  refine wpAny_Call_method_late hbase hfew hline rfl (thn (ho.run.run pins s σ H (fun v H1 => ∃ g1 z1 d, g.le g1 ∧ RR X.K g1 z1 σ H1 ∧ Has X.K g1 v d ∧ tyName z1.M d = some T ∧ w z1 fun ds z2 => rd d ds z2.M fun r M => ∀ v g' H', g.le g' → RR X.K g' ⟨z2.ρ, M⟩ σ H' → Has X.K g' v r → Q v H') I
    ⟨g, z, l0, r, ho.mono _ _ _ (fun d z1 h1 v g1 H1 e1 r1 a1 => ⟨g1, z1, d, e1, r1, a1, h1⟩) h⟩) fun v s1 ⟨x, H1, I1, r1, g1, z1, d, e1, rr1, a1, ty, h1⟩ => ?_)
  obtain ⟨t1, t2⟩ := rr1.wr.typeIs I1 r1 a1 ty
  refine ⟨T, id, pa, slot, hty, t1, t2, ?_⟩
  have hA := ha.run.run cpos pins s1 σ H1 (fun vs H2 => ∃ g2 z2 ds, g1.le g2 ∧ RR X.K g2 z2 σ H2 ∧ HasL X.K g2 vs ds ∧ rd d ds z2.M fun r M => ∀ v g' H', g.le g' → RR X.K g' ⟨z2.ρ, M⟩ σ H' → Has X.K g' v r → Q v H') I1
    ⟨g1, z1, l0.trans e1, rr1, ha.mono _ _ _ (fun ds z2 h2 vs g2 H2 e2 r2 a2 => ⟨g2, z2, ds, e2, r2, a2, h2⟩) h1⟩
  rw [hs] at hA ⊢
  refine Calls.callWith_builtin (by show (false || (backTo cpos (starEach es X.env)).any (·.1)) = false; rw [hplain] <;> rfl) (Calls.evalArgs_plain ?_)
  refine thn hA fun us s2 ⟨vs, H2, I2, r2, g2, z2, ds, e2, rr2, a2, h2⟩ => m.run pins s2 σ H2 x vs v us Q I2 r1 r2 ⟨g2, z2.M, d, ds, rr2.wr, a1.le e2, a2, m.mono _ _ _ _ _ (fun r M q v g3 H3 e3 w3 a3 => ?_) h2⟩
  exact q v g3 H3 ((e1.trans e2).trans e3) (rr2.le e3 w3) a3
theorem qe_bm0 (pa : PlainAttrs T) (slot : Slot T name id) (hty : typeOf (.builtin id) = pure (.type "method_descriptor")) (m : DM X id rd) (ho : QE X g0 o we)
    (hbase : attributeBase o name X.env (eval o X.env) = eval o X.env := by rfl) (hline : (apos.endLine == cpos.line) = true := by rfl) : QE X g0 (.Call (.Attribute o name apos) [] [] cpos) (wBM0 T rd we) := by
  refine ⟨fun z Q Q' k h => ho.mono _ _ _ (fun d z1 ⟨h1, h2⟩ => ⟨h1, m.mono _ _ _ _ _ (fun r M q => k _ _ q) h2⟩) h, ⟨fun pins s σ H Q I ⟨g, z, l0, r, h⟩ => ?_⟩⟩
  refine wpAny_Call_method0_late hbase hline (thn (ho.run.run pins s σ H (fun v H1 => ∃ g1 z1 d, g.le g1 ∧ RR X.K g1 z1 σ H1 ∧ Has X.K g1 v d ∧ tyName z1.M d = some T ∧ rd d [] z1.M fun r M => ∀ v g' H', g.le g' → RR X.K g' ⟨z1.ρ, M⟩ σ H' → Has X.K g' v r → Q v H') I
    ⟨g, z, l0, r, ho.mono _ _ _ (fun d z1 h1 v g1 H1 e1 r1 a1 => ⟨g1, z1, d, e1, r1, a1, h1⟩) h⟩) fun v s1 ⟨x, H1, I1, r1, g1, z1, d, e1, rr1, a1, ty, h1⟩ => ?_)
  obtain ⟨t1, t2⟩ := rr1.wr.typeIs I1 r1 a1 ty
  refine ⟨T, id, pa, slot, hty, t1, t2, Calls.callWith_builtin rfl (PySem.evalArgs_none (m.run pins s1 σ H1 x [] v [] Q I1 r1 .nil ⟨g1, z1.M, d, [], rr1.wr, a1, .nil, m.mono _ _ _ _ _ (fun r M q v g3 H3 e3 w3 a3 => ?_) h1⟩))⟩
  exact q v g3 H3 (e1.trans e3) (rr1.le e3 w3) a3
theorem WR.setL {K : PySem.W.Frag} {g : Gh} {M : Mp} {H : Hp} {p : Addr} {vs : List V} {ds ds' : List D} (w : WR K g M H) (h : M p = some (.lst ds)) (h' : HasL K g vs ds') : WR K g (mupd M p (some (.lst ds'))) (upd H p (.lst vs)) :=
  w.put h ⟨vs, upd_same, h'⟩
/-- x.append(y) and its like: x the list at p, what becomes of it -/
def rdMut (f : List D → List D → Option (List D × D)) (x : D) (as : List D) (M : Mp) (Q : KD) : Prop := ∃ p ds ds' r, x = .ref p ∧ M p = some (.lst ds) ∧ f ds as = some (ds', r) ∧ ds'.length ≤ sizeLine ∧ Q r (mupd M p (some (.lst ds')))
theorem rdMut.mono {f : List D → List D → Option (List D × D)} : MonoM (rdMut f) := fun x as M Q Q' k ⟨p, ds, ds', r, h1, h2, h3, h4, h5⟩ => ⟨p, ds, ds', r, h1, h2, h3, h4, k _ _ h5⟩
def fAppend (ds as : List D) : Option (List D × D) := match as with
  | [d] => some (ds ++ [d], .non)
  | _ => none
def fPop (ds as : List D) : Option (List D × D) := match as with
  | [] => (ds[ds.length - 1]?).map fun d => (ds.dropLast, d)
  | _ => none
def fInsert (ds as : List D) : Option (List D × D) := match as with
  | [.int i, d] => if 0 ≤ i ∧ i < 2 ^ 63 then some (ds.take i.toNat ++ [d] ++ ds.drop i.toNat, .non) else none
  | _ => none
theorem HasL.dropLast {K : PySem.W.Frag} {g : Gh} {vs : List V} {ds : List D} (h : HasL K g vs ds) : HasL K g vs.dropLast ds.dropLast := by
  rw [List.dropLast_eq_take, List.dropLast_eq_take, h.length]
  exact h.take _
theorem d_append : DM X "list.append" (rdMut fAppend) := by
  refine ⟨rdMut.mono, fun pins s σ H v vs ov us Q I rv rs ⟨g, M, x, as, w, hx, ha, p, ds, ds', r, h1, h2, h3, h4, h5⟩ => ?_⟩
  subst h1
  cases hx
  obtain ⟨xs, k1, k2⟩ := w.mt h2
  unfold fAppend at h3
  split at h3
  · rename_i d
    cases h3
    obtain ⟨u, rfl, hu⟩ := has1 ha
    refine mt_append pins s σ H _ _ ov us Q I rv rs ⟨p, xs, u, rfl, rfl, k1, ?_, h5 .non g _ (.refl g) (w.setL h2 (k2.append (.one hu))) .non⟩
    rw [k2.length]
    simp at h4
    omega
  · cases h3
theorem d_pop : DM X "list.pop" (rdMut fPop) := by
  refine ⟨rdMut.mono, fun pins s σ H v vs ov us Q I rv rs ⟨g, M, x, as, w, hx, ha, p, ds, ds', r, h1, h2, h3, h4, h5⟩ => ?_⟩
  subst h1
  cases hx
  obtain ⟨xs, k1, k2⟩ := w.mt h2
  unfold fPop at h3
  split at h3
  · cases ha
    obtain ⟨d, h6, h7⟩ := Option.map_eq_some_iff.mp h3
    cases h7
    obtain ⟨u, h8, h9⟩ := k2.get' h6
    refine mt_pop pins s σ H _ _ ov us Q I rv rs ⟨p, xs, u, rfl, rfl, k1, by rw [k2.length]; exact h8, h5 u g _ (.refl g) (w.setL h2 k2.dropLast) h9⟩
  · cases h3
theorem d_insert : DM X "list.insert" (rdMut fInsert) := by
  refine ⟨rdMut.mono, fun pins s σ H v vs ov us Q I rv rs ⟨g, M, x, as, w, hx, ha, p, ds, ds', r, h1, h2, h3, h4, h5⟩ => ?_⟩
  subst h1
  cases hx
  obtain ⟨xs, k1, k2⟩ := w.mt h2
  unfold fInsert at h3
  split at h3
  · rename_i i d
    split at h3
    · rename_i hi
      cases h3
      obtain ⟨u1, u2, rfl, hu1, hu2⟩ := has2 ha
      cases hu1
      refine mt_insert pins s σ H _ _ ov us Q I rv rs ⟨p, xs, i, u2, rfl, rfl, k1, ?_, hi.1, hi.2, h5 .non g _ (.refl g) (w.setL h2 (((k2.take _).append (.one hu2)).append (k2.drop _))) .non⟩
      rw [k2.length]
      simp only [List.length_append, List.length_take, List.length_drop, List.length_singleton] at h4
      omega
    · cases h3
  · cases h3
def rdSplit (x : D) (as : List D) (M : Mp) (Q : KD) : Prop := match x, as with
  | .str a, [.str b] => ((b.length == 0) = false ∧ a.length + 2 ≤ sizeLine) ∧ Q (.lst ((Txt.split a b).map .str)) M
  | _, _ => False
theorem d_split : DM X "str.split" rdSplit := by
  refine ⟨fun x as M Q Q' k h => ?_, fun pins s σ H v vs ov us Q I rv rs ⟨g, M, x, as, w, hx, ha, h⟩ => ?_⟩
  · unfold rdSplit at h ⊢
    split at h
    · exact ⟨h.1, k _ _ h.2⟩
    · exact h.elim
  · unfold rdSplit at h
    split at h
    · cases hx
      obtain ⟨u, rfl, hu⟩ := has1 ha
      cases hu
      exact mt_split pins s σ H _ _ ov us Q I rv rs ⟨_, _, rfl, rfl, h.1.1, h.1.2, fun l hl => lk_new h.2 w hl (has_lst (hasL_strs _) (w.hsn hl))⟩
    · exact h.elim
def rdJoin (x : D) (as : List D) (M : Mp) (Q : KD) : Prop := ∃ a y ys ss, x = .str a ∧ as = [y] ∧ look M y = .lst ys ∧ strsD ys = some ss ∧ (ss.map (·.length)).sum + ss.length * a.length ≤ 16777216 ∧ Q (.str (Txt.join a ss)) M
theorem d_join : DM X "str.join" rdJoin := by
  refine ⟨fun x as M Q Q' k ⟨a, y, ys, ss, h1, h2, h3, h4, h5, h6⟩ => ⟨a, y, ys, ss, h1, h2, h3, h4, h5, k _ _ h6⟩, fun pins s σ H v vs ov us Q I rv rs ⟨g, M, x, as, w, hx, ha, a, y, ys, ss, h1, h2, h3, h4, h5, h6⟩ => ?_⟩
  subst h1 h2
  cases hx
  obtain ⟨u, rfl, hu⟩ := has1 ha
  obtain ⟨q, zs, rfl, k3, k4⟩ := w.seeL hu h3
  obtain rfl := strsD_eq h4
  obtain rfl := has_strs k4
  exact mt_join pins s σ H _ _ ov us Q I rv rs ⟨a, q, ss, rfl, rfl, .inl (SqL.of k3), h5, lk_at h6 w (.str _)⟩
def gSet (wo wi : WE) : WG := fun d z Q => wo z fun x z1 => wi z1 fun y z2 => ∃ p, x = .ref p ∧ match z2.M p with
  | some (.lst ds) => ∃ i j, y = .int i ∧ ixN ds.length i = some j ∧ Q ⟨z2.ρ, mupd z2.M p (some (.lst (ds.set j d)))⟩
  | some (.dct kvs) => ∃ k, keyOf y = some k ∧ kvs.length < sizeLine ∧ Q ⟨z2.ρ, mupd z2.M p (some (.dct (putD kvs k d)))⟩
  | some (.dcT kvs) => ∃ k, keyT y = some k ∧ kvs.length < sizeLine ∧ Q ⟨z2.ρ, mupd z2.M p (some (.dcT (putD kvs k d)))⟩
  | _ => False
def rSetA (o i v : V) (H : Hp) (Q : Hp → Prop) : Prop := rSetL o i v H Q ∨ rSetD o i v H Q
theorem set_any (hu : X.A.units + 1 < cLine) : PSet X rSetA := by
  intro pins s σ H o i v ov iv u Q I ro ri rv h
  rcases h with h | h
  · exact set_list pins s σ H o i v ov iv u Q I ro ri rv h
  · exact set_dict hu pins s σ H o i v ov iv u Q I ro ri rv h
theorem qg_sub {i : Expr} {wi : WE} (hu : X.A.units + 1 < cLine) (ho : QE X g0 o we) (hi : QE X g0 i wi)
    (ha : ∀ v, assign (.Subscript o i pos) X.env v = (do
      let ov ← holding [v] (eval o X.env)
      let iv ← holding [v, ov] (eval i X.env)
      standAt pos
      holding [v, ov, iv] (setItem ov iv v)
      release [v, ov, iv] []) := by intro _; rfl) : QG X g0 (.Subscript o i pos) (gSet we wi) := by
  refine ⟨fun d z Q Q' k h => ho.mono _ _ _ (fun x z1 h1 => hi.mono _ _ _ (fun y z2 ⟨p, h2, h3⟩ => ⟨p, h2, by
    split at h3
    · obtain ⟨i, j, k1, k2, k3⟩ := h3; exact ⟨i, j, k1, k2, k _ k3⟩
    · obtain ⟨i, k1, k2, k3⟩ := h3; exact ⟨i, k1, k2, k _ k3⟩
    · obtain ⟨i, k1, k2, k3⟩ := h3; exact ⟨i, k1, k2, k _ k3⟩
    · exact h3.elim⟩) h1) h, (pg_sub ho.run hi.run (set_any hu) ha).imp fun v σ H Q ⟨g, z, d, l0, r, a, h⟩ => ?_⟩
  · refine ⟨g, z, l0, r, ho.mono _ _ _ (fun x z1 h1 v1 g1 H1 e1 r1 a1 => ⟨g1, z1, l0.trans e1, r1, hi.mono _ _ _ (fun y z2 ⟨p, h2, h3⟩ v2 g2 H2 e2 r2 a2 => ?_) h1⟩) h⟩
    subst h2
    cases a1
    split at h3
    · rename_i ds hm
      obtain ⟨i, j, rfl, k2, k3⟩ := h3
      cases a2
      obtain ⟨xs, m1, m2⟩ := r2.wr.mt hm
      refine .inl ⟨p, xs, i, j, rfl, rfl, m1, by rw [m2.length]; exact k2, k3 g2 σ _ (e1.trans e2) ⟨r2.wr.setL hm (m2.set ((a.le e1).le e2) j), r2.sl⟩⟩
    · rename_i kvs hm
      obtain ⟨k, k1, k2, k3⟩ := h3
      obtain ⟨kv, m1, m2, m3⟩ := r2.wr.mt hm
      obtain ⟨n1, n2⟩ := put_ok (k := k) ((a.le e1).le e2) m2 m3
      obtain rfl := keyOf_kV a2 k1
      have hl : kv.length = kvs.length := by have := congrArg List.length m2; simpa using this.symm
      exact .inr ⟨p, _, rfl, DPut.k m1 (by rw [hl]; exact k2), k3 g2 σ _ (e1.trans e2) ⟨r2.wr.put hm ⟨_, upd_same, n1, n2⟩, r2.sl⟩⟩
    · rename_i kvs hm
      obtain ⟨k, k1, k2, k3⟩ := h3
      obtain ⟨kv, m1, m2, m3⟩ := r2.wr.mt hm
      obtain ⟨n1, n2⟩ := put_ok (k := k) ((a.le e1).le e2) m2 m3
      obtain ⟨b, rfl, hb⟩ := keyT_tup a2 k1
      have hl : kv.length = kvs.length := by have := congrArg List.length m2; simpa using this.symm
      exact .inr ⟨p, _, rfl, DPut.t m1 (r2.wr.sub _ _ hb) (by rw [hl]; exact k2), k3 g2 σ _ (e1.trans e2) ⟨r2.wr.put hm ⟨_, upd_same, n1, n2⟩, r2.sl⟩⟩
    · exact h3.elim
end
end Q
set_option Elab.async false
set_option linter.all false
set_option maxRecDepth 100000
set_option maxHeartbeats 4000000
namespace My
open PySem PySem.Spec PyProof.Rows L2
section
variable {prog : Program} {w : World} {A : Around} {E : Value → Shared → Prop} {s : Shared}
theorem nextOf_tuple_item {it l : Addr} {i : Nat} {items} {x : Value} {Q : Value → Shared → Prop} (hit : s.heap.IsTupleIter it l i)
    (hl : s.heap.IsTuple l items) (hx : items[i]? = some x)
    (hQ : ∀ h', h'.IsTupleIter it l (i + 1) → Heap.SameBut it s.heap h' → Q x { s with heap := h' }) :
    wpAny (model prog w) A (Builtin.SmallTypes.nextOf (.ref it)) Q E s := by
  obtain ⟨o, ho, hc, hd⟩ := id hit
  obtain ⟨ol, hol, _, nl, hdl⟩ := hl
  unfold Builtin.SmallTypes.nextOf
  refine wpAny_bind (wpAny_callSpecial?_slot (name := Str.ofString "__next__") hit.typeIs slot_tupleiter_next
    (wpAny_call_entry slot_tupleiter_next hit.typeIs entry_tupleiter_next ?_ (args_tupleiter_next _)))
  show wpAny _ _ (field (.ref it) 0 >>= _) _ _ s
  refine wpAny_bind (wpAny_field ho hd (x := .ref l) rfl ?_)
  show wpAny _ _ (if (Value.ref l == Value.none) = true then _ else _) _ _ s
  rw [if_neg (show ¬ ((Value.ref l == Value.none) = true) from Bool.false_ne_true)]
  show wpAny _ _ (field (.ref it) 1 >>= _) _ _ s
  refine wpAny_bind (wpAny_field ho hd (x := .int i 0) rfl ?_)
  show wpAny _ _ (seqItems? (.ref l) >>= _) _ _ s
  refine wpAny_bind (wpAny_seqItems hol hdl ?_)
  simp only [Int.toNat_natCast, hx]
  refine wpAny_bind (wpAny_setField ho hd (by simp) (wpAny_pure ⟨x, rfl, wpAny_pure (hQ _ ?_ (Heap.SameBut.update ..))⟩))
  exact ⟨_, Heap.get?_update_self _ ho (Obj.isFreed_of_fields (Obj.data_mapFields hd _)), (Obj.cls_mapFields ..).trans hc, by
    rw [Obj.data_mapFields hd]; simp [rawInt]⟩
theorem nextOf_tuple_end {it l : Addr} {i : Nat} {items} {Q : Value → Shared → Prop} (hh : A.handled = none)
    (hit : s.heap.IsTupleIter it l i) (hl : s.heap.IsTuple l items) (hx : items[i]? = none)
    (hE : ∀ h' e, Heap.ExtBut it s.heap h' → (∃ o, h'.get? e = some o ∧ o.cls = .type "StopIteration") → E (.ref e) { s with heap := h' }) :
    wpAny (model prog w) A (Builtin.SmallTypes.nextOf (.ref it)) Q E s := by
  obtain ⟨o, ho, hc, hd⟩ := id hit
  obtain ⟨ol, hol, _, nl, hdl⟩ := hl
  unfold Builtin.SmallTypes.nextOf
  refine wpAny_bind (wpAny_callSpecial?_slot (name := Str.ofString "__next__") hit.typeIs slot_tupleiter_next
    (wpAny_call_entry slot_tupleiter_next hit.typeIs entry_tupleiter_next ?_ (args_tupleiter_next _)))
  show wpAny _ _ (field (.ref it) 0 >>= _) _ _ s
  refine wpAny_bind (wpAny_field ho hd (x := .ref l) rfl ?_)
  show wpAny _ _ (if (Value.ref l == Value.none) = true then _ else _) _ _ s
  rw [if_neg (show ¬ ((Value.ref l == Value.none) = true) from Bool.false_ne_true)]
  show wpAny _ _ (field (.ref it) 1 >>= _) _ _ s
  refine wpAny_bind (wpAny_field ho hd (x := .int i 0) rfl ?_)
  show wpAny _ _ (seqItems? (.ref l) >>= _) _ _ s
  refine wpAny_bind (wpAny_seqItems hol hdl ?_)
  simp only [Int.toNat_natCast, hx]
  refine wpAny_bind (wpAny_rule (wpAny_bind (wpAny_setField ho hd (by simp) ?_)))
  show wpAny _ _ (newExc (.type "StopIteration") [] >>= _) _ _ _
  refine wpAny_bind ?_
  simp only [newExc, newTuple]
  refine wpAny_bind (wpAny_newObj_type ?_ (by size_fits))
  refine wpAny_bind (m := firstArgMember _ _) (wpAny_of_eq (a := Value.none) (by first | rfl | (simp only [firstArgMember]; rfl)) ?_)
  refine wpAny_newObj_type ?_ (by size_fits)
  simp only [raiseNew]
  refine wpAny_bind (wpAny_handled ?_)
  first | rw [show A.in1.handled = none from hh] | rw [hh]
  refine wpAny_bind (wpAny_pure (wpAny_throw ?_))
  exact hE _ _ (((Heap.SameBut.update ..).extBut.push _).push _) ⟨_, Heap.get?_push_size _ rfl, rfl⟩
theorem drawsT (hh : A.handled = none) (it l : Addr) (hne : l ≠ it) (items : Array Value) :
    Draws prog w A it [it, l] items.size (fun i v => items[i]? = some v) (fun i h => h.IsTupleIter it l i ∧ h.IsTuple l items) where
  live := fun _ _ st => let ⟨o, ho, _⟩ := st.1; ⟨o, ho⟩
  frame := fun _ _ _ st hk => ⟨st.1.at fun o e => hk it (by simp) o e, let ⟨o, ho, r⟩ := st.2; ⟨o, hk l (by simp) o ho, r⟩⟩
  item := fun i s Q E hi st hQ => by
    refine nextOf_tuple_item st.1 st.2 (x := items[i]) (by simp [hi]) fun h' hit' hs' => ?_
    exact hQ _ h' s.toks (by simp [hi]) ⟨hit', let ⟨o, ho, r⟩ := st.2; ⟨o, (hs'.2 l hne).trans ho, r⟩⟩ hs'
  done := fun s Q E st hE => nextOf_tuple_end hh st.1 st.2 (by simp) hE
open AutoSeq1 (wpAny_loadPart')
theorem meets_enum_newT (l : Addr) (items : Array Value) (n : Nat) (dct : Option Addr) (sl : Array (Option Value)) :
    Meets (Builtin.«enumerate.__new__» ⟨[.type "enumerate", .ref l], []⟩) (fun _ R s => s.heap.get? l = some { cls := .type "tuple", dict := dct, data := .seq items n, slots := sl } ∧
      R (.ok (.ret (.ref (s.heap.push { cls := .type "tuple_iterator", data := .fields #[.ref l, .int 0 0] }).objs.size)))
        { s with heap := (s.heap.push { cls := .type "tuple_iterator", data := .fields #[.ref l, .int 0 0] }).push { cls := .type "enumerate", data := .fields #[.none, .bool false, .ref s.heap.objs.size, rawInt 0, .none, .none] } }) :=
  .of_wp fun prog w A R s h => by
    obtain ⟨hp, g, d, tk, os⟩ := s; obtain ⟨hl, h⟩ := h
    have hsub := sub_enumerate
    have hL : Heap.IsTuple (Shared.heap ⟨hp, g, d, tk, os⟩) l items := ⟨_, hl, rfl, n, rfl⟩
    wp_walk using wpAny_loadPart' hl
    refine wpAny_stack_any fun st => wpAny_pure ?_
    split
    · rename_i c _ _ _ _ _
      cases (c == Value.type "enumerate")
      · wp_walk using wpAny_loadPart' hl, wpAny_pyIter_tuple hL
        exact ⟨_, rfl, h⟩
      · wp_walk using wpAny_loadPart' hl, wpAny_pyIter_tuple hL
        exact ⟨_, rfl, h⟩
    · wp_walk using wpAny_loadPart' hl, wpAny_pyIter_tuple hL
      exact ⟨_, rfl, h⟩
theorem call_enum_tuple {l : Addr} {items : Array Value} {Q : Value → Shared → Prop} (hL : s.heap.IsTuple l items)
    (h : ∀ h', IsEnum h' (s.heap.objs.size + 1) s.heap.objs.size 0 .none → h'.IsTupleIter s.heap.objs.size l 0 → h'.objs.size = s.heap.objs.size + 2 →
      (∀ b o, s.heap.get? b = some o → h'.get? b = some o) → Q (.ref (s.heap.objs.size + 1)) { s with heap := h' }) :
    wpAny (model prog w) A (call (.type "enumerate") [.ref l]) Q E s := by
  obtain ⟨⟨c, dct, dt, sl⟩, hl, hc, n, hd⟩ := hL
  replace hc : c = .type "tuple" := hc
  replace hd : dt = .seq items n := hd
  subst hc hd
  refine callType_new F.called_enumerate (by decide) (F.typeCall_enumerate_1 _) (F.newCall_enumerate_1 _) (fun obj => F.args_object_init_2 obj _) F.entry_enumerate_new
    (meets_enum_newT l items n dct sl) ⟨hl, ?_⟩
  have hz : (s.heap.push { cls := .type "tuple_iterator", data := .fields #[.ref l, .int 0 0] }).objs.size = s.heap.objs.size + 1 := Heap.size_push ..
  show _ ∧ _
  rw [hz]
  have he : IsEnum ((s.heap.push { cls := .type "tuple_iterator", data := .fields #[.ref l, .int 0 0] }).push
      { cls := .type "enumerate", data := .fields #[.none, .bool false, .ref s.heap.objs.size, rawInt 0, .none, .none] }) (s.heap.objs.size + 1) s.heap.objs.size 0 .none := by
    have := Heap.get?_push_size (s.heap.push { cls := .type "tuple_iterator", data := .fields #[.ref l, .int 0 0] })
      (o := { cls := .type "enumerate", data := .fields #[.none, .bool false, .ref s.heap.objs.size, rawInt 0, .none, .none] }) rfl
    rw [hz] at this; exact this
  refine ⟨⟨_, he, rfl⟩, h _ he ⟨_, Heap.get?_push_of_some _ (Heap.get?_push_size _ rfl), rfl, rfl⟩ (by rw [Heap.size_push, hz]) fun b o x => Heap.get?_push_of_some _ (Heap.get?_push_of_some _ x)⟩
end
/-- the tuple at a, each item in a new pair -/
def IteT (K : PySem.W.Frag) (a : Addr) : It :=
  ⟨fun i H => ∃ (xs : List V) (x : V), SqT K H a xs ∧ xs[i]? = some x, fun i H v H' => ∃ T x, v = .ref T ∧ H T = none ∧ H' = upd H T (.tup [.int (i : Nat), x]) ∧ ∀ xs, SqT K H a xs → xs[i]? = some x, fun i H => ∃ xs : List V, SqT K H a xs ∧ xs.length ≤ i⟩
theorem turn_enumT {P : Program} {w : World} {K : PySem.W.Frag} {elts : List Expr} {kk : Nat} {tpos : Pos} (a e it : Addr) (hae : a ≠ e) (hai : a ≠ it) :
    Turn P w K (.Tuple elts kk tpos) (IteT K a) [e, it] e (fun i h => (∃ old, IsEnum h e it ((i : Nat) : Int) old) ∧ h.IsTupleIter it a i ∧ e ≠ it) where
  mem := by simp
  obj := fun i h st b hb => by
    obtain ⟨⟨old, he⟩, ⟨o, ho, hc, hd⟩, _⟩ := st
    have e' : b = e ∨ b = it := by simpa using hb
    rcases e' with z | z
    · rw [z]; exact ⟨_, he, fun v q => nomatch q⟩
    · rw [z]; exact ⟨o, ho, fun v q => by rw [hd] at q; cases q⟩
  keep := fun i h h' st k => let ⟨⟨old, he⟩, hi, hne⟩ := st; ⟨⟨old, k e (by simp) _ he⟩, hi.at fun o q => k it (by simp) o q, hne⟩
  item := by
    intro X hP hw hK hc i pins s σ H E I hf st hg
    subst hP hw hK
    obtain ⟨⟨old, he⟩, hit, hne⟩ := st
    obtain ⟨xs, x, hq, hx⟩ := hg
    obtain ⟨its, rv, p, hz⟩ := I.tuple hq
    obtain ⟨u, hu, ru⟩ := rv.get hx
    have hel : e < s.heap.objs.size := Heap.lt_size he
    have hil : it < s.heap.objs.size := by obtain ⟨_, q, _⟩ := hit; exact Heap.lt_size q
    have hlt : i < its.toArray.size := by
      have := (List.getElem?_eq_some_iff.mp hu).1
      simpa using this
    refine wpAny_pyNext_enum_itemD (drawsT (A := X.A.in1) (show X.A.in1.handled = none from I.ok.hd hc) it a hai its.toArray) he ⟨hit, p⟩ hlt hne (by simp only [List.mem_cons, List.not_mem_nil, or_false, not_or]; exact ⟨hne, Ne.symm hae⟩) fun x' h' tk hx' ho hst' hT hsz hk => ?_
    obtain rfl : u = x' := by
      have hx' : its.toArray[i]? = some x' := hx'
      rw [List.getElem?_toArray, hu] at hx'
      exact Option.some.inj hx'
    have hit' := hst'.1
    refine ⟨_, rfl, wpAny_letOwnedTupleGo_enum (s := { s with heap := h', toks := tk + 1 }) ho fun h'' he' sb => ?_⟩
    have hT2 : h''.get? s.heap.objs.size = some { cls := .type "tuple", data := .seq #[.int i tk, u] } := (sb.2 _ (Nat.ne_of_gt hel)).trans hT
    have new : ObjOk X.prog X.w (upd H s.heap.objs.size (.tup [.int (i : Nat), x])) h'' s.heap.objs.size (.tup [.int (i : Nat), x]) :=
      ⟨by show 2 ≤ sizeLine; decide, [.int i tk, u], .cons ⟨_, rfl⟩ (.cons ru .nil), ⟨_, hT2, rfl, _, rfl⟩⟩
    have I1 : Inv X pins σ (upd H s.heap.objs.size (.tup [.int (i : Nat), x])) { s with heap := h'', toks := tk + 1 } :=
      I.turnedNew (ch := [e, it]) (fun b ob hb q => (sb.2 b (fun z => hb (by simp [z]))).trans (hk b ob (fun z => hb (by simp [z])) (fun z => hb (by simp [z])) q)) hf (Nat.le_refl _) new
    refine ⟨.ref s.heap.objs.size, _, I1, rfl, ⟨_, x, rfl, I.hok.fresh (Nat.le_refl _), rfl, fun ys hy => by rw [I.tuple_inj hy hq]; exact hx⟩, ⟨⟨u, ?_⟩, hit'.at fun o q => (sb.2 it (Ne.symm hne)).trans q, hne⟩, fun b hb => ?_⟩
    · have e1 : ((i + 1 : Nat) : Int) = (i : Int) + 1 := by omega
      rw [e1]; exact he'
    · have hb' : b < s.heap.objs.size := by
        have e' : b = e ∨ b = it := by simpa using hb
        rcases e' with z | z
        · rw [z]; exact hel
        · rw [z]; exact hil
      rw [upd_ne (Nat.ne_of_lt hb')]
      exact (hf b hb).1
  done := by
    intro X hP hw hK hc i pins s σ H E I hf st hg
    subst hP hw hK
    obtain ⟨⟨old, he⟩, hit, hne⟩ := st
    obtain ⟨xs, hq, hx⟩ := hg
    obtain ⟨its, rv, p, hz⟩ := I.tuple hq
    obtain ⟨f0, f1, f2, f3, f4, f5⟩ := hf it (by simp)
    have hl := rv.length
    have hT : s.TypeIs (.ref e) "enumerate" := ⟨_, he, rfl⟩
    unfold pyNext
    refine wpAny_bind (wpAny_attempt (wpAny_callSpecial?_slot (name := Str.ofString "__next__") hT F.slot_enumerate_next
      (wpAny_call_entry F.slot_enumerate_next hT F.entry_enumerate_next ?_ (F.args_enumerate_next_1 _))))
    show wpAny _ _ (field (.ref e) 2 >>= _) _ _ _
    refine wpAny_bind (wpAny_field he rfl (x := .ref it) rfl ?_)
    refine wpAny_bind (nextOf_tuple_end (I.ok.hd hc) hit p (by simp; omega) fun h' x he' hx' => ?_)
    obtain ⟨o, ho, hc'⟩ := hx'
    refine wpAny_bind (wpAny_isInstance (T := "StopIteration") (b := true) ⟨o, ho, hc'⟩ isSubtype_stop ?_)
    exact wpAny_pure ⟨rfl, I.turned (t' := s.toks) (fun b o hb q => he' b o hb q) f0 f1 f3 f4 f5⟩
  self := fun A i s Q E st h => let ⟨⟨_, he⟩, _⟩ := st; wpAny_pyIter_enum he h
def iEnumA (K : PySem.W.Frag) (ta : TA) : TI := fun σ H R => ta σ H fun vs H1 => ∃ a xs, vs = [.ref a] ∧ ((SqL K H1 a xs ∧ R (Ite K a) H1) ∨ (SqT K H1 a xs ∧ R (IteT K a) H1))
theorem pi_enumA {X : Cx} {e : Expr} {ta : TA} {p pos tpos : Pos} {elts : List Expr} {kk : Nat} (hg : Gl X "enumerate") (hm : X.mg "enumerate" = none) (ha : PA X [e] ta) (hs : starEach [e] X.env = [(false, eval e X.env)] := by rfl) :
    PI X (.Tuple elts kk tpos) (.Call (.Name "enumerate" p) [e] [] pos) (iEnumA X.K ta) := by
  refine ⟨fun pins s σ H R I h => ?_⟩
  refine Call_ (ld_blt I hg hm boot_enumerate (PyProof.Rows.callWith_type1 (thn (ha.run pos pins s σ H _ I h) fun us s1 ⟨vs, H1, I1, r1, q1⟩ => ?_) hs rfl))
  obtain ⟨a, xs, ex, q⟩ := q1
  subst ex
  have fresh2 : ∀ b ∈ [s1.heap.objs.size + 1, s1.heap.objs.size], FpOk X pins H1 b := fun b hb => by
    have e' : b = s1.heap.objs.size + 1 ∨ b = s1.heap.objs.size := by simpa using hb
    have hle : s1.heap.objs.size ≤ b := by
      rcases e' with z | z
      · rw [z]; exact Nat.le_add_right _ _
      · rw [z]; exact Nat.le_refl _
    exact I1.fpOk hle (I1.hok.fresh hle)
  cases r1 with
  | cons r rr =>
    cases rr
    cases r
    rcases q with ⟨hq, q⟩ | ⟨hq, q⟩
    · obtain ⟨its, rv, p', hz⟩ := I1.list hq
      refine call_enumerate_list p'.isList fun h' he hit hsz hk => wpAny_pyIter_enum he ?_
      have I2 : Inv X pins σ H1 { s1 with heap := h' } := I1.kept (t' := s1.toks) hk
      exact ⟨s1.heap.objs.size + 1, [s1.heap.objs.size + 1, s1.heap.objs.size], _, _, H1, rfl, I2, turn_enum a (s1.heap.objs.size + 1) s1.heap.objs.size, ⟨⟨.none, he⟩, hit, Nat.succ_ne_self _⟩, fresh2, q⟩
    · obtain ⟨its, rv, p', hz⟩ := I1.tuple hq
      have hal : a < s1.heap.objs.size := p'.lt
      refine call_enum_tuple p' fun h' he hit hsz hk => wpAny_pyIter_enum he ?_
      have I2 : Inv X pins σ H1 { s1 with heap := h' } := I1.kept (t' := s1.toks) hk
      exact ⟨s1.heap.objs.size + 1, [s1.heap.objs.size + 1, s1.heap.objs.size], _, _, H1, rfl, I2, turn_enumT a (s1.heap.objs.size + 1) s1.heap.objs.size (Nat.ne_of_lt (Nat.lt_succ_of_lt hal)) (Nat.ne_of_lt hal), ⟨⟨.none, he⟩, hit, Nat.succ_ne_self _⟩, fresh2, q⟩
end My
set_option Elab.async false
set_option linter.all false
set_option maxRecDepth 100000
set_option maxHeartbeats 4000000
namespace Q
open PySem PySem.Spec PyProof.Rows L2 My
section
variable {K : PySem.W.Frag} {g : Gh}
theorem pair_new {M : Mp} {H : Hp} {T : Addr} {x y : V} {dx dy : D} {g' : Gh} (w : WR K g' M H) (hT : H T = none) (hx : Has K g' x dx) (hy : Has K g' y dy) :
    ∃ g'' d, g'.le g'' ∧ WR K g'' M (upd H T (.tup [x, y])) ∧ d = .tup [dx, dy] ∧ Has K g'' (.ref T) d :=
  ⟨_, _, Gh.le_add (w.hsn hT), w.new hT, rfl, has_tup (.cons hx (.one hy)) (w.hsn hT)⟩
/-- 0, x; 1, y; .. -/
def enumD (ds : List D) : List D := (List.range ds.length).zipWith (fun i d => .tup [.int (i : Nat), d]) ds
theorem enumD_get {ds : List D} {i : Nat} {d : D} (h : ds[i]? = some d) : (enumD ds)[i]? = some (.tup [.int (i : Nat), d]) := by
  unfold enumD
  have hi := (List.getElem?_eq_some_iff.mp h).1
  rw [List.getElem?_zipWith, List.getElem?_range hi, h]
theorem enumD_length (ds : List D) : (enumD ds).length = ds.length := by simp [enumD]
theorem wk_enum {a : Addr} {xs : List V} {ds : List D} (h1 : g.Hs a = some (.lst xs)) (h2 : HasL K g xs ds) : Wk K g (Ite K a) (enumD ds) := by
  have hl := h2.length
  have el := enumD_length ds
  refine ⟨fun i H M g' e w hi => ?_, fun H M g' e w => ⟨xs, SqL.of (w.sub _ _ (e.hs _ _ h1)), by rw [el, hl]; exact Nat.le_refl _⟩, fun i H x H' M g' e w hi y => ?_⟩
  · have hi' : i < xs.length := by omega
    exact ⟨xs, xs[i], SqL.of (w.sub _ _ (e.hs _ _ h1)), by simp [hi']⟩
  · obtain ⟨T, v, rfl, hT, rfl, hv⟩ := y
    obtain ⟨d, h3, h4⟩ := h2.get (hv xs (SqL.of (w.sub _ _ (e.hs _ _ h1))))
    obtain ⟨g'', d', k1, k2, rfl, k3⟩ := pair_new w hT (.int (i : Nat)) (h4.sub e)
    exact ⟨g'', _, k1, k2, enumD_get h3, k3⟩
theorem wk_enumT {a : Addr} {xs : List V} {ds : List D} (h1 : SqT K g.Hs a xs) (h2 : HasL K g xs ds) : Wk K g (IteT K a) (enumD ds) := by
  have hl := h2.length
  have el := enumD_length ds
  have st : ∀ {H M g'}, g.sub g' → WR K g' M H → SqT K H a xs := fun e w => sqT_same (Same.trans e.hs w.sub) h1
  refine ⟨fun i H M g' e w hi => ?_, fun H M g' e w => ⟨xs, st e w, by rw [el, hl]; exact Nat.le_refl _⟩, fun i H x H' M g' e w hi y => ?_⟩
  · have hi' : i < xs.length := by omega
    exact ⟨xs, xs[i], st e w, by simp [hi']⟩
  · obtain ⟨T, v, rfl, hT, rfl, hv⟩ := y
    obtain ⟨d, h3, h4⟩ := h2.get (hv xs (st e w))
    obtain ⟨g'', d', k1, k2, rfl, k3⟩ := pair_new w hT (.int (i : Nat)) (h4.sub e)
    exact ⟨g'', _, k1, k2, enumD_get h3, k3⟩
def zipD (ds es : List D) : List D := ds.zipWith (fun d e => .tup [d, e]) es
theorem zipD_get {ds es : List D} {i : Nat} {d e : D} (h : ds[i]? = some d) (k : es[i]? = some e) : (zipD ds es)[i]? = some (.tup [d, e]) := by
  unfold zipD
  rw [List.getElem?_zipWith, h, k]
theorem zipD_length (ds es : List D) : (zipD ds es).length = min ds.length es.length := by simp [zipD]
theorem wk_zip {a b : Addr} {xs ys : List V} {ds es : List D} (h1 : g.Hs a = some (.lst xs)) (h2 : HasL K g xs ds) (k1 : g.Hs b = some (.lst ys)) (k2 : HasL K g ys es) : Wk K g (Itz K a b) (zipD ds es) := by
  have hl := h2.length
  have kl := k2.length
  have el := zipD_length ds es
  have s1 : ∀ {H M g'}, g.sub g' → WR K g' M H → SqL K H a xs := fun e w => SqL.of (w.sub _ _ (e.hs _ _ h1))
  have s2 : ∀ {H M g'}, g.sub g' → WR K g' M H → SqL K H b ys := fun e w => SqL.of (w.sub _ _ (e.hs _ _ k1))
  refine ⟨fun i H M g' e w hi => ?_, fun H M g' e w => ⟨xs, ys, s1 e w, s2 e w, by omega⟩, fun i H x H' M g' e w hi y => ?_⟩
  · have hi' : i < xs.length := by omega
    have hi2 : i < ys.length := by omega
    exact ⟨xs, ys, xs[i], ys[i], s1 e w, s2 e w, by simp [hi'], by simp [hi2]⟩
  · obtain ⟨T, v, u, rfl, hT, rfl, hv, hu⟩ := y
    obtain ⟨d, h3, h4⟩ := h2.get (hv xs (s1 e w))
    obtain ⟨d2, h5, h6⟩ := k2.get (hu ys (s2 e w))
    obtain ⟨g'', d', q1, q2, rfl, q3⟩ := pair_new w hT (h4.sub e) (h6.sub e)
    exact ⟨g'', _, q1, q2, zipD_get h3 h5, q3⟩
theorem wk_zipT {a b : Addr} {xs ys : List V} {ds es : List D} (h1 : SqT K g.Hs a xs) (h2 : HasL K g xs ds) (k1 : SqT K g.Hs b ys) (k2 : HasL K g ys es) : Wk K g (RZ.ItzT K a b) (zipD ds es) := by
  have hl := h2.length
  have kl := k2.length
  have el := zipD_length ds es
  have s1 : ∀ {H M g'}, g.sub g' → WR K g' M H → SqT K H a xs := fun e w => sqT_same (Same.trans e.hs w.sub) h1
  have s2 : ∀ {H M g'}, g.sub g' → WR K g' M H → SqT K H b ys := fun e w => sqT_same (Same.trans e.hs w.sub) k1
  refine ⟨fun i H M g' e w hi => ?_, fun H M g' e w => ⟨xs, ys, s1 e w, s2 e w, by omega⟩, fun i H x H' M g' e w hi y => ?_⟩
  · have hi' : i < xs.length := by omega
    have hi2 : i < ys.length := by omega
    exact ⟨xs, ys, xs[i], ys[i], s1 e w, s2 e w, by simp [hi'], by simp [hi2]⟩
  · obtain ⟨T, v, u, rfl, hT, rfl, hv, hu⟩ := y
    obtain ⟨d, h3, h4⟩ := h2.get (hv xs (s1 e w))
    obtain ⟨d2, h5, h6⟩ := k2.get (hu ys (s2 e w))
    obtain ⟨g'', d', q1, q2, rfl, q3⟩ := pair_new w hT (h4.sub e) (h6.sub e)
    exact ⟨g'', _, q1, q2, zipD_get h3 h5, q3⟩
end
section
variable {X : Cx} {g0 : Gh} {tg e e2 a : Expr} {we wa : WE} {w : WA} {elts : List Expr} {kk : Nat} {tpos p pos : Pos}
def wEnum (w : WA) : WI := fun z Q => w z fun ds z1 => ∃ d ys, ds = [d] ∧ (d = .lst ys ∨ d = .tup ys) ∧ Q (enumD ys) z1
theorem qi_enum (hm : X.mg "enumerate" = none) (ha : QA X g0 [e] w) (hg : Gl X "enumerate" := by rfl) (hs : starEach [e] X.env = [(false, eval e X.env)] := by rfl) :
    QI X g0 (.Tuple elts kk tpos) (.Call (.Name "enumerate" p) [e] [] pos) (wEnum w) := by
  refine ⟨fun z Q Q' k h => ha.mono _ _ _ (fun ds z1 ⟨d, ys, h1, h2, h3⟩ => ⟨d, ys, h1, h2, k _ _ h3⟩) h, (pi_enumA hg hm ha.run hs).imp fun σ H R ⟨g, z, l0, r, h⟩ => ⟨g, z, l0, r, ha.mono _ _ _ (fun ds z1 ⟨d, ys, h1, h2, h3⟩ vs g1 H1 e1 r1 a1 => ?_) h⟩⟩
  subst h1
  obtain ⟨v, rfl, hv⟩ := has1 a1
  rcases h2 with rfl | rfl
  · obtain ⟨p, xs, rfl, k1, k2⟩ := hv.lst_inv
    exact ⟨p, xs, rfl, .inl ⟨SqL.of (r1.wr.sub _ _ k1), h3 _ g1 H1 e1 r1 (wk_enum k1 k2)⟩⟩
  · obtain ⟨p, xs, rfl, k1, k2⟩ := hv.tup_inv
    exact ⟨p, xs, rfl, .inr ⟨SqT.of (r1.wr.sub _ _ k1), h3 _ g1 H1 e1 r1 (wk_enumT (SqT.of k1) k2)⟩⟩
def wZip (w : WA) : WI := fun z Q => w z fun ds z1 => ∃ xs ys, (ds = [.lst xs, .lst ys] ∨ ds = [.tup xs, .tup ys] ∨ ∃ ss : List Str, ds = [.tux ss, .tup ys] ∧ xs = ss.map .str) ∧ Q (zipD xs ys) z1
theorem qi_zip (hm : X.mg "zip" = none) (ha : QA X g0 [e, e2] w) (hg : Gl X "zip" := by rfl) (hs : starEach [e, e2] X.env = (false, eval e X.env) :: starEach [e2] X.env := by rfl) (hpl : (backTo pos (starEach [e2] X.env)).any (·.1) = false := by rfl) :
    QI X g0 (.Tuple elts kk tpos) (.Call (.Name "zip" p) [e, e2] [] pos) (wZip w) := by
  refine ⟨fun z Q Q' k h => ha.mono _ _ _ (fun ds z1 ⟨xs, ys, h1, h3⟩ => ⟨xs, ys, h1, k _ _ h3⟩) h, (RZ.pi_zipA hg hm ha.run hs hpl).imp fun σ H R ⟨g, z, l0, r, h⟩ => ⟨g, z, l0, r, ha.mono _ _ _ (fun ds z1 ⟨xs, ys, h1, h3⟩ vs g1 H1 e1 r1 a1 => ?_) h⟩⟩
  rcases h1 with rfl | rfl | ⟨ss, rfl, rfl⟩
  · obtain ⟨v, u, rfl, hv, hu⟩ := has2 a1
    obtain ⟨p, xs, rfl, k1, k2⟩ := hv.lst_inv
    obtain ⟨q, ys, rfl, m1, m2⟩ := hu.lst_inv
    exact ⟨p, q, xs, ys, rfl, .inl ⟨SqL.of (r1.wr.sub _ _ k1), SqL.of (r1.wr.sub _ _ m1), h3 _ g1 H1 e1 r1 (wk_zip k1 k2 m1 m2)⟩⟩
  · obtain ⟨v, u, rfl, hv, hu⟩ := has2 a1
    obtain ⟨p, xs, rfl, k1, k2⟩ := hv.tup_inv
    obtain ⟨q, ys, rfl, m1, m2⟩ := hu.tup_inv
    exact ⟨p, q, xs, ys, rfl, .inr ⟨SqT.of (r1.wr.sub _ _ k1), SqT.of (r1.wr.sub _ _ m1), h3 _ g1 H1 e1 r1 (wk_zipT (SqT.of k1) k2 (SqT.of m1) m2)⟩⟩
  · obtain ⟨v, u, rfl, hv, hu⟩ := has2 a1
    obtain ⟨q, ys, rfl, m1, m2⟩ := hu.tup_inv
    cases hv with
    | tux h4 h5 => exact ⟨_, q, ss.map V.str, ys, rfl, .inr ⟨.inl (.inr ⟨_, r1.wr.sub _ _ h4⟩), SqT.of (r1.wr.sub _ _ m1), h3 _ g1 H1 e1 r1 (wk_zipT (.inl (.inr ⟨_, h4⟩)) (hasL_txs ss) (SqT.of m1) m2)⟩⟩
/-- a dict stands still from here on -/
def wFz (w : WE) : WE := fun z Q => w z fun d z1 => ∃ p kvs, d = .ref p ∧ z1.M p = some (.dct kvs) ∧ Q (.dct kvs) ⟨z1.ρ, mupd z1.M p none⟩
theorem WR.freezeD {K : PySem.W.Frag} {g : Gh} {M : Mp} {H : Hp} {p : Addr} {kvs : List (Key × D)} {kv : List (Key × V)} {o : Obj} (w : WR K g M H) (h : M p = some (.dct kvs)) (ho : H p = some (.dK kv)) :
    WR K (g.add p (.frz o (.dK kv))) (mupd M p none) (upd H p (.frz o (.dK kv))) := by
  obtain ⟨h1, h2, h3⟩ := w.muts p _ h
  refine w.drop.share h1 h2 mupd_same (fun B hB e => ?_) upd_same fun a u q h => by rw [upd_ne q]; exact h
  obtain ⟨_, _, _, h4, _⟩ := w.bag B hB
  rw [e, h4] at h
  cases h
theorem qe_fz (he : QE X g0 e we) : QE X g0 e (wFz we) := by
  refine ⟨fun z Q Q' k h => he.mono _ _ _ (fun d z1 ⟨p, kvs, h1, h2, h3⟩ => ⟨p, kvs, h1, h2, k _ _ h3⟩) h, ⟨fun pins s σ H Q I ⟨g, z, l0, r, h⟩ => ?_⟩⟩
  refine thn (he.run.run pins s σ H (fun v H1 => ∃ g1 z1 p kvs, g.le g1 ∧ RR X.K g1 z1 σ H1 ∧ v = .ref p ∧ z1.M p = some (.dct kvs) ∧ ∀ v g' H', g.le g' → RR X.K g' ⟨z1.ρ, mupd z1.M p none⟩ σ H' → Has X.K g' v (.dct kvs) → Q v H') I
    ⟨g, z, l0, r, he.mono _ _ _ (fun d z1 ⟨p, kvs, h1, h2, h3⟩ v g1 H1 e1 r1 a1 => ⟨g1, z1, p, kvs, e1, r1, by subst h1; cases a1; rfl, h2, h3⟩) h⟩) fun u s1 ⟨v, H1, I1, ru, g1, z1, p, kvs, e1, r1, hv, hm, q⟩ => ?_
  subst hv
  obtain ⟨kv, k1, k2, k3⟩ := r1.wr.mt hm
  obtain ⟨od, I2⟩ := I1.lock k1 trivial
  have hn := (r1.wr.muts _ _ hm).1
  have le := Gh.le_add (o := .frz od (.dK kv)) hn
  exact ⟨.ref p, _, I2, ru, q (.ref p) _ _ (e1.trans le) ⟨r1.wr.freezeD hm k1, r1.sl.le le⟩ (.dct Gh.add_same k2 (k3.le le))⟩
/-- the dict at a name stands still from here on -/
def wFrzD (i : Nat) : WE := fun z Q => ∃ a kvs, z.ρ[i]? = some (some (.ref a)) ∧ z.M a = some (.dct kvs) ∧ Q (.dct kvs) ⟨z.ρ.set i (some (.dct kvs)), mupd z.M a none⟩
/-- {} -/
def wDnew : WE := fun z Q => ∀ p, z.M p = none → Q (.ref p) ⟨z.ρ, mupd z.M p (some (.dct []))⟩
theorem WR.newD {K : PySem.W.Frag} {g : Gh} {M : Mp} {H : Hp} {p : Addr} {kv : List (Key × V)} {kvs : List (Key × D)} (w : WR K g M H) (hp : H p = none) (h : kvs.map (·.1) = kv.map (·.1)) (k : HasL K g (kv.map (·.2)) (kvs.map (·.2))) :
    WR K g (mupd M p (some (.dct kvs))) (upd H p (.dK kv)) :=
  w.open' (w.hsn hp) (w.frn hp) (fun B hB => w.nbag hp hB) ⟨kv, upd_same, h, k⟩ fun a u q hu => by rw [upd_ne q]; exact hu
theorem qe_dnew : QE X g0 (.Dict [] [] pos) wDnew := by
  refine ⟨fun z Q Q' k h p hp => k _ _ (h p hp), pe_dnewK.imp fun σ H Q ⟨g, z, l0, r, h⟩ p hp => ?_⟩
  exact h p (r.wr.mtn hp) _ g _ (.refl g) ⟨r.wr.newD hp rfl .nil, r.sl⟩ (.ref p)
def mergeD (kvs : List (Key × D)) (more : List (Key × D)) : List (Key × D) := more.foldl (fun acc kv => putD acc kv.1 kv.2) kvs
theorem merge_ok {K : PySem.W.Frag} {g : Gh} : ∀ {more : List (Key × D)} {mv : List (Key × V)} {kvs : List (Key × D)} {kv : List (Key × V)}, more.map (·.1) = mv.map (·.1) → HasL K g (mv.map (·.2)) (more.map (·.2)) →
    kvs.map (·.1) = kv.map (·.1) → HasL K g (kv.map (·.2)) (kvs.map (·.2)) → (mergeD kvs more).map (·.1) = (mergeK kv mv).map (·.1) ∧ HasL K g ((mergeK kv mv).map (·.2)) ((mergeD kvs more).map (·.2))
  | [], [], _, _, _, _, h, k => ⟨h, k⟩
  | [], _ :: _, _, _, h, _, _, _ => nomatch h
  | _ :: _, [], _, _, h, _, _, _ => nomatch h
  | (n, d) :: more, (n', v) :: mv, kvs, kv, h, a, h', a' => by
    simp only [List.map_cons, List.cons.injEq] at h
    obtain ⟨rfl, h⟩ := h
    simp only [List.map_cons] at a
    cases a with
    | cons a1 a2 =>
      obtain ⟨k1, k2⟩ := put_ok (k := n) a1 h' a'
      exact merge_ok (more := more) (mv := mv) (kvs := putD kvs n d) (kv := putK kv n v) h a2 k1 k2
def pairsD : List D → Option (List (Key × D))
  | [] => some []
  | .tup [k, d] :: r => match keyOf k, pairsD r with
    | some k, some r => some ((k, d) :: r)
    | _, _ => none
  | _ => none
/-- dict(a list of pairs), dict(a dict) -/
def rdDict (ds : List D) (M : Mp) (Q : KD) : Prop := ∃ x, ds = [x] ∧ match look M x with
  | .lst ds => ∃ kvs, pairsD ds = some kvs ∧ ∀ p, M p = none → Q (.ref p) (mupd M p (some (.dct (mergeD [] kvs))))
  | .dct kvs => ∀ p, M p = none → Q (.ref p) (mupd M p (some (.dct kvs)))
  | _ => False
theorem pairs_ok {K : PySem.W.Frag} {g : Gh} {H : Hp} (e : Same g.Hs H) : ∀ {vs : List V} {ds : List D} {kvs : List (Key × D)}, HasL K g vs ds → pairsD ds = some kvs →
    ∃ (ps : List Addr) (kv : List (Key × V)), vs = ps.map V.ref ∧ Paired (fun p kv => SqT K H p [kV kv.1, kv.2]) ps kv ∧ kvs.map (·.1) = kv.map (·.1) ∧ HasL K g (kv.map (·.2)) (kvs.map (·.2))
  | _, _, kvs, .nil, h => by
    simp only [pairsD, Option.some.injEq] at h
    subst h
    exact ⟨[], [], rfl, .nil, rfl, .nil⟩
  | _, _, kvs, .cons (d := d) (ds := ds) a b, h => by
    unfold pairsD at h
    split at h
    · rename_i e; cases e
    · rename_i k0 d0 r0 e
      injection e with e1 e2
      subst e1 e2
      split at h
      · rename_i k r h1 h2
        cases h
        obtain ⟨q, xs, rfl, k1, k2⟩ := a.tup_inv
        obtain ⟨v1, v2, rfl, hv1, hv2⟩ := has2 k2
        obtain ⟨ps, kv, rfl, p1, p2, p3⟩ := pairs_ok e b h2
        obtain rfl := keyOf_kV hv1 h1
        exact ⟨q :: ps, (k, v2) :: kv, rfl, .cons (SqT.of (e _ _ k1)) p1, by simp [p2], .cons hv2 p3⟩
      · cases h
    · cases h
theorem d_dict (hc : X.calm = true) : DON X (.type "dict") rdDict := by
  refine ⟨fun ds M Q Q' k ⟨x, h1, h2⟩ => ⟨x, h1, ?_⟩, fun pins s σ H vs us Q I rv ⟨g, M, ds, w, hx, x, h1, h⟩ => ?_⟩
  · split at h2
    · obtain ⟨kvs, h3, h4⟩ := h2; exact ⟨kvs, h3, fun p hp => k _ _ (h4 p hp)⟩
    · exact fun p hp => k _ _ (h2 p hp)
    · exact h2.elim
  · subst h1
    obtain ⟨v, rfl, hv⟩ := has1 hx
    split at h
    · rename_i ds e1
      obtain ⟨kvs, h3, h4⟩ := h
      obtain ⟨p, xs, rfl, k1, k2⟩ := w.seeL hv e1
      obtain ⟨ps, kv, rfl, p1, p2, p3⟩ := pairs_ok w.sub k2 h3
      obtain ⟨m1, m2⟩ := merge_ok (kvs := []) (kv := []) p2 p3 rfl .nil
      exact call_dictP hc pins s σ H _ us Q I rv ⟨p, ps, kv, rfl, SqL.of k1, p1, fun l hl => h4 l (w.mtn hl) _ g _ (.refl g) (w.newD hl m1 m2) (.ref l)⟩
    · rename_i kvs e1
      obtain ⟨p, kv, rfl, k1, k2, k3⟩ := w.seeD hv e1
      exact call_dictD pins s σ H _ us Q I rv ⟨p, kv, rfl, k1, fun l hl => h l (w.mtn hl) _ g _ (.refl g) (w.newD hl k2 k3) (.ref l)⟩
    · exact h.elim
end
end Q
set_option Elab.async false
set_option linter.all false
set_option maxRecDepth 100000
set_option maxHeartbeats 4000000
namespace Q
open PySem PySem.Spec PyProof.Rows L2 My
def dcGo (g : WG) (tt : WT) (tk tv : WE) (ρ : List (Option D)) (Q : List (Key × D) → Mp → Prop) : List D → List (Key × D) → Mp → Prop
  | [], acc, M => Q acc M
  | d :: ds, acc, M => g d ⟨ρ, M⟩ fun z2 => tt z2 fun b z3 => if b = true then tk z3 fun y z4 => tv z4 fun v z5 => ∃ k, keyOf y = some k ∧ dcGo g tt tk tv ρ Q ds (putD acc k v) z5.M else dcGo g tt tk tv ρ Q ds acc z3.M
theorem dcGo.mono {g : WG} {tt : WT} {tk tv : WE} {ρ : List (Option D)} {Q Q' : List (Key × D) → Mp → Prop} (hg : MonoG g) (ht : MonoT tt) (hk : MonoE tk) (he : MonoE tv) (k : ∀ ds M, Q ds M → Q' ds M) : ∀ ds acc M, dcGo g tt tk tv ρ Q ds acc M → dcGo g tt tk tv ρ Q' ds acc M
  | [], acc, M, h => k _ _ h
  | d :: ds, acc, M, h => hg _ _ _ _ (fun z2 h2 => ht _ _ _ (fun b z3 h3 => by
    cases b with
    | true => exact hk _ _ _ (fun y z4 h4 => he _ _ _ (fun v z5 ⟨k', e, h5⟩ => ⟨k', e, dcGo.mono hg ht hk he k ds _ _ h5⟩) h4) h3
    | false => exact dcGo.mono hg ht hk he k ds _ _ h3) h2) h
/-- the new dict may change -/
def wDc (wi : WI) (g : WG) (tt : WT) (tk tv : WE) (vs : List Nat) : WE := fun z Q => wi z fun ds z1 => ds.length ≤ sizeLine ∧ dcGo g tt tk tv (wipeD z1.ρ vs) (fun acc M => ∀ p, M p = none → Q (.ref p) ⟨z1.ρ, mupd M p (some (.dct acc))⟩) ds [] z1.M
theorem length_putD (kvs : List (Key × D)) (k : Key) (v : D) : (putD kvs k v).length ≤ kvs.length + 1 := by
  unfold putD
  split
  · rw [List.length_map]; omega
  · rw [List.length_append, List.length_singleton]; exact Nat.le_refl _
theorem dc_up {K : PySem.W.Frag} {g0 : Gh} {wi : WI} {gr : TG} {g : WG} {tt : WT} {tk tv : WE} {vs : List Nat} {σ : L2.St} {H : Hp} {Q : VK} (hi : MonoA wi) (hgm : MonoG g) (htm : MonoT tt) (hkm : MonoE tk) (hem : MonoE tv)
    (hgu : ∀ g1 v d z σ H Q, RR K g1 z σ H → Has K g1 v d → g d z (fun z' => ∀ g' σ' H', g1.le g' → RR K g' z' σ' H' → L2.wipe σ' vs = L2.wipe σ vs → Q σ' H') → gr v σ H Q)
    (h : upE K g0 (wDc wi g tt tk tv vs) σ H Q) : tDc (upI K g0 wi) gr (fun σ H Q => ∃ g0, upT K g0 tt σ H Q) (fun σ H Q => ∃ g0, upE K g0 tk σ H Q) (fun σ H Q => ∃ g0, upE K g0 tv σ H Q) vs σ H Q := by
  obtain ⟨g1, z, l0, r, h⟩ := h
  refine ⟨g1, z, l0, r, hi _ _ _ (fun ds z1 ⟨hl, h1⟩ J g2 H2 e2 r2 wk D hD => ?_) h⟩
  let Go := dcGo g tt tk tv (wipeD z1.ρ vs) (fun acc M => ∀ p, M p = none → ∀ v g' H', g1.le g' → RR K g' ⟨z1.ρ, mupd M p (some (.dct acc))⟩ σ H' → Has K g' v (.ref p) → Q v H')
  have h1 : Go ds [] z1.M := h1
  let Pv : Nat → Hp → Prop := fun i H => ∃ g3 M acc av, g2.le g3 ∧ WR K g3 M H ∧ Lone g3 M D ∧ H D = some (.dK av) ∧ acc.map (·.1) = av.map (·.1) ∧ HasL K g3 (av.map (·.2)) (acc.map (·.2)) ∧ acc.length ≤ i ∧ Go (ds.drop i) acc M
  have L0 := Lone.of r2.wr hD
  refine ⟨fun i m H => m = ds.length - i ∧ i ≤ ds.length ∧ Pv i H, ⟨ds.length, by simp, Nat.zero_le _, g2, z1.M, [], [], .refl _, r2.wr.lone L0, L0, upd_same, rfl, .nil, Nat.le_refl _, by simpa using h1⟩, ?_⟩
  rintro i m H3 ⟨rfl, hi3, g3, M, acc, av, e3, w3, L3, hD3, hk3, ha3, hl3, h3⟩
  have wf := w3.frame (o := .dK av) (H' := H3) L3.hs L3.fr L3.mt L3.bg hD3 fun _ _ _ q => q
  have sf : g2.sub (g3.fr D (.dK av)) := ⟨e3.hs, e3.bg⟩
  have hal : av.length = acc.length := by have := congrArg List.length hk3; simpa using this.symm
  by_cases hlt : i < ds.length
  · refine .inr ⟨wk.go i H3 M _ sf wf hlt, Pv (i + 1), fun H' p' => ⟨ds.length - (i + 1), by omega, rfl, hlt, p'⟩, fun x H4 y => ?_⟩
    obtain ⟨g4, d, e4, w4, hd, a4⟩ := wk.yld i H3 x H4 M _ sf wf hlt y
    rw [List.drop_eq_getElem_cons hlt] at h3
    have hd' : ds[i] = d := by
      rw [List.getElem?_eq_getElem hlt] at hd
      exact Option.some.inj hd
    rw [hd'] at h3
    have s34 : g2.sub g4 := ⟨Same.trans e3.hs e4.hs, fun B q => e4.bg B (e3.bg B q)⟩
    have r4 : RR K g4 ⟨wipeD z1.ρ vs, M⟩ (L2.wipe σ vs) H4 := ⟨w4, (r2.sl.wipe vs).sub s34⟩
    refine hgu g4 x d _ _ _ _ r4 a4 (hgm _ _ _ _ (fun z5 h5 g5 σ5 H5 e5 r5 q5 => ⟨by rw [q5, wipe_wipe], g5, g5, z5, .refl _, r5, htm _ _ _ (fun b z6 h6 g6 H6 e6 r6 => ?_) h5⟩) h3)
    have e46 := (e4.trans e5).trans e6
    cases b with
    | true =>
      refine ⟨g6, g6, z6, .refl _, r6, hkm _ _ _ (fun yd z7 h7 v7 g7 H7 e7 r7 a7 => ⟨g7, g7, z7, .refl _, r7, hem _ _ _ (fun vd z8 ⟨k, hk, h8⟩ v8 g8 H8 e8 r8 a8 => ?_) h7⟩) h6⟩
      obtain ⟨w9, e9, L9, hD9⟩ := Lone.back L3.fr ((e46.trans e7).trans e8) r8.wr
      have sb : g8.sub ⟨g8.Hs, g3.F, g8.bg⟩ := ⟨Same.refl _, fun _ q => q⟩
      obtain ⟨n1, n2⟩ := put_ok (k := k) (a8.sub sb) hk3 (ha3.le e9)
      refine ⟨av, k, keyOf_kV a7 hk, hD9, Nat.lt_of_lt_of_le (Nat.lt_of_le_of_lt (hal ▸ hl3) hlt) hl, ?_⟩
      exact ⟨_, z8.M, putD acc k vd, putK av k v8, e3.trans e9, w9.lone L9, L9, upd_same, n1, n2, Nat.le_trans (length_putD _ _ _) (Nat.succ_le_succ hl3), h8⟩
    | false =>
      obtain ⟨w8, e8, L8, hD8⟩ := Lone.back L3.fr e46 r6.wr
      exact ⟨_, z6.M, acc, av, e3.trans e8, w8, L8, hD8, hk3, ha3.le e8, Nat.le_succ_of_le hl3, h6⟩
  · have e : i = ds.length := by omega
    subst e
    rw [List.drop_length] at h3
    refine .inl ⟨wk.stop H3 M _ sf wf, ?_⟩
    have ws : WR K g3 (mupd M D (some (.dct acc))) H3 := w3.open' L3.hs L3.fr L3.bg ⟨av, hD3, hk3, ha3⟩ fun _ _ _ q => q
    exact h3 D L3.mt (.ref D) _ H3 (e2.trans e3) ⟨ws, r2.sl.le e3⟩ (.ref D)
section
variable {X : Cx} {g0 : Gh} {a b c e o tg iter kx vx : Expr} {es : List Expr} {we wa wb wc : WE} {w : WA} {pos p : Pos} {ifs : List Expr} {scope : Scope} {own : List (Str × Nat)} {wi : WI} {gr : TG} {g : WG} {tt : WT} {tk tv : WE}
theorem qe_dc (hc : X.calm = true) (hN : X.N.Nodup) (hi : QI X g0 tg iter wi) (ok : BlkOk X.N X.env.scope scope own)
    (hg : ∀ (s : Shared) (H : Hp) (C : Addr) (cl : List (Str × Addr)) (fp : List Addr), QGo (X.blk s H scope (compEnvC scope cl C X.env) fp) (own.map (·.2)) tg gr g)
    (ht : ∀ (s : Shared) (H : Hp) (C : Addr) (cl : List (Str × Addr)) (fp : List Addr) (g0 : Gh), QTs (X.blk s H scope (compEnvC scope cl C X.env) fp) g0 ifs tt)
    (hk : ∀ (s : Shared) (H : Hp) (C : Addr) (cl : List (Str × Addr)) (fp : List Addr) (g0 : Gh), QE (X.blk s H scope (compEnvC scope cl C X.env) fp) g0 kx tk)
    (he : ∀ (s : Shared) (H : Hp) (C : Addr) (cl : List (Str × Addr)) (fp : List Addr) (g0 : Gh), QE (X.blk s H scope (compEnvC scope cl C X.env) fp) g0 vx tv) (hs : ∀ x, foldedSetIterable iter X.env x = pure x := by intro _; rfl) :
    QE X g0 (.DictComp kx vx [⟨tg, iter, ifs, 0⟩] scope pos) (wDc wi g tt tk tv (own.map (·.2))) := by
  have gm := (hg X.s_0 X.H_0 0 [] []).mono
  have tm := (ht X.s_0 X.H_0 0 [] [] g0).mono
  have km := (hk X.s_0 X.H_0 0 [] [] g0).mono
  have em := (he X.s_0 X.H_0 0 [] [] g0).mono
  refine ⟨fun z Q Q' k h => hi.mono _ _ _ (fun ds z1 h1 => ⟨h1.1, dcGo.mono gm tm km em (fun acc M q p hp => k _ _ (q p hp)) _ _ _ h1.2⟩) h, (pe_dc (tt := fun σ H Q => ∃ g0, upT X.K g0 tt σ H Q) (tk := fun σ H Q => ∃ g0, upE X.K g0 tk σ H Q) (tv := fun σ H Q => ∃ g0, upE X.K g0 tv σ H Q) hc hN hi.run ok (fun s H C cl fp => (hg s H C cl fp).run) (fun s H C cl fp => PTs.any fun g0 => (ht s H C cl fp g0).run) (fun s H C cl fp => PE.any fun g0 => (hk s H C cl fp g0).run) (fun s H C cl fp => PE.any fun g0 => (he s H C cl fp g0).run) hs).imp fun σ H Q h => ?_⟩
  exact dc_up hi.mono gm tm km em (hg X.s_0 X.H_0 0 [] []).up h
def tyNm : D → Option String
  | .non => some "NoneType"
  | .bl _ => some "bool"
  | .int _ => some "int"
  | .str _ => some "str"
  | .lst _ => some "list"
  | .tup _ => some "tuple"
  | .dct _ => some "dict"
  | .tux _ => some "tuple"
  | _ => none
theorem WR.tyX {K : PySem.W.Frag} {g : Gh} {M : Mp} {H : Hp} {v : V} {d : D} {T : String} (w : WR K g M H) (h : Has K g v d) (e : tyNm (look M d) = some T) : TyX K H v (.type T) := by
  unfold tyNm at e
  split at e
  · rename_i e1; cases e; cases seeN h e1; exact .base .non
  · rename_i b e1; cases e; cases seeB h e1; exact .base (.bl b)
  · rename_i b e1; cases e; cases seeI h e1; exact .base (.int b)
  · rename_i b e1; cases e; cases seeS h e1; exact .base (.str b)
  · rename_i ds e1
    cases e
    obtain ⟨p, xs, rfl, k1, k2⟩ := w.seeL h e1
    exact .base (.lst k1)
  · rename_i ds e1
    cases e
    obtain ⟨p, xs, rfl, k1, k2⟩ := w.seeT h e1
    exact .base (.tup k1)
  · rename_i ds e1
    cases e
    obtain ⟨p, kv, rfl, k1, k2, k3⟩ := w.seeD h e1
    rcases k1 with k1 | ⟨o, k1⟩
    · exact .base (.dK k1)
    · exact .fDict k1
  · rename_i ss e1
    cases e
    obtain ⟨p, o, rfl, k1, _⟩ := w.seeX h e1
    exact .fTuple k1
  · cases e
def tysD : List D → Option (List String)
  | [] => some []
  | .ty n :: r => (tysD r).map (n :: ·)
  | _ => none
def kitBs (a : String) : List String → Option Bool
  | [] => some false
  | b :: r => match kitB a b with
    | some true => some true
    | some false => kitBs a r
    | none => none
theorem kitBs_ok {K : PySem.W.Frag} {a : String} : ∀ {bs : List String} {r : Bool}, kitBs a bs = some r → PySem.W.kitAny K (.type a) (bs.map Value.type) = some r
  | [], r, h => h
  | b :: bs, r, h => by
    unfold kitBs at h
    show (match PySem.W.kitOne K (.type a) (.type b) with | some true => some true | some false => PySem.W.kitAny K (.type a) (bs.map Value.type) | none => none) = some r
    split at h
    · rename_i q; rw [kit_ty (K := K) q]; exact h
    · rename_i q; rw [kit_ty (K := K) q]; exact kitBs_ok h
    · cases h
theorem tysD_ok {K : PySem.W.Frag} {g : Gh} : ∀ {ds : List D} {vs : List V} {ns : List String}, HasL K g vs ds → tysD ds = some ns → vs = ns.map V.ty ∧ Paired ClsV vs (ns.map Value.type)
  | [], _, ns, h, e => by cases h; cases e; exact ⟨rfl, .nil⟩
  | d :: ds, _, ns, h, e => by
    cases h with
    | cons a t =>
      cases d <;> simp only [tysD, Option.map_eq_some_iff] at e <;> first | (cases e; done) | skip
      obtain ⟨ms, h1, rfl⟩ := e
      cases a
      obtain ⟨i1, i2⟩ := tysD_ok t h1
      exact ⟨by rw [i1]; rfl, .cons (.ty _) i2⟩
def rdIsi (ds : List D) (M : Mp) (Q : KD) : Prop := ∃ x T, tyNm (look M x) = some T ∧ ((∃ n b, ds = [x, .ty n] ∧ kitB T n = some b ∧ Q (.bl b) M) ∨ ∃ cs ns b, ds = [x, .tup cs] ∧ tysD cs = some ns ∧ kitBs T ns = some b ∧ Q (.bl b) M)
theorem d_isi : DON X (.builtin "isinstance") rdIsi := by
  refine ⟨fun ds M Q Q' k ⟨x, T, h1, h2⟩ => ⟨x, T, h1, h2.elim (fun ⟨n, b, k1, k2, k3⟩ => .inl ⟨n, b, k1, k2, k _ _ k3⟩) fun ⟨cs, ns, b, k1, k2, k3, k4⟩ => .inr ⟨cs, ns, b, k1, k2, k3, k _ _ k4⟩⟩, fun pins s σ H vs us Q I rv ⟨g, M, ds, w, hx, x, T, h1, h⟩ => ?_⟩
  rcases h with ⟨n, b, rfl, k2, k3⟩ | ⟨cs, ns, b, rfl, k2, k3, k4⟩
  · obtain ⟨v, u, rfl, hv, hu⟩ := has2 hx
    cases hu
    exact call_isi pins s σ H _ us Q I rv ⟨v, .ty n, _, _, b, rfl, .ty n, w.tyX hv h1, kit_ty k2, lk_at k3 w (.bl _)⟩
  · obtain ⟨v, u, rfl, hv, hu⟩ := has2 hx
    obtain ⟨p, xs, rfl, m1, m2⟩ := hu.tup_inv
    obtain ⟨i1, i2⟩ := tysD_ok m2 k2
    exact call_isiT pins s σ H _ us Q I rv ⟨v, p, xs, _, _, b, rfl, w.sub _ _ m1, i2, w.tyX hv h1, kitBs_ok k3, lk_at k4 w (.bl _)⟩
def rdInO (C : Addr) (den : Den) (n : Bool) (x y : D) (M : Mp) (Q : KD) : Prop := ∃ fs, inst M y = some (C, fs) ∧ den [y, x] M fun r M' => ∃ b, r = .bl b ∧ Q (.bl (xor n b)) M'
theorem rdInO.mono {C : Addr} {den : Den} {n : Bool} (h : MonoD den) : Mono2 (rdInO C den n) := fun x y M Q Q' k ⟨fs, h1, h2⟩ => ⟨fs, h1, h _ _ _ _ (fun r M' ⟨b, e, q⟩ => ⟨b, e, k _ _ q⟩) h2⟩
theorem in_run {C f : Addr} {den : Den} {k : Nat} {fd : FuncData} {ps : List Str} {Qf : Bool → V} {pins : List (Addr × Obj)} {s : Shared} {σ : L2.St} {H : Hp} {Q : VK} {p : Addr} {dx : Addr} {fs : List (Str × V)} {v : V} {ov : Value} (hs : PySem.W.findIn X.K (.ref C) "__contains__" = some (some (.ref f))) (F : FnG X.prog X.w X.K X.mg X.base CX0 k f fd ps (spD X.K den)) (hr : Room k X.A) (hgd : X.A.guards = some []) (hb : Binds X.K fd ps [])
    (I : Inv X pins σ H s) (hi : H p = some (.ins C dx fs)) (rv : RelV v ov) (h : spD X.K den [.ref p, v] H (fun r H' => ∃ b, r = .bl b ∧ Q (Qf b) H') E0) :
    wpAny (model X.prog X.w) X.A (call (.ref f) [.ref p, ov]) (fun r s' => wpAny (model X.prog X.w) X.A (truthy r) (fun b s' => ∃ H', Inv X pins σ H' s' ∧ Q (Qf b) H') X.xe s') X.xe s := by
  refine thn (run_fnG (us := [.ref p, ov]) (vs := [.ref p, v]) (Q := fun r H' => ∃ b, r = .bl b ∧ Q (Qf b) H') F hr hgd hb .nil pass0 I (.cons rfl (.cons rv .nil)) h) fun r s1 ⟨u, H1, I1, ru, b, e, q⟩ => ?_
  subst e
  cases ru
  exact wpAny_truthy_bool ⟨H1, I1, q⟩
theorem inst_at {pins : List (Addr × Obj)} {s : Shared} {σ : L2.St} {H : Hp} {p C dx : Addr} {fs : List (Str × V)} (I : Inv X pins σ H s) (hi : H p = some (.ins C dx fs)) : ∃ od, PySem.W.InstAt s.heap p (PySem.W.instObj C dx) C (some od) := by
  obtain ⟨mA, O, _⟩ := ins_get I.hok hi
  obtain ⟨od, J, _⟩ := O.look
  exact ⟨od, J⟩
theorem d_notInO {C f : Addr} {den : Den} {k : Nat} {fd : FuncData} {ps : List Str} (hs : PySem.W.findIn X.K (.ref C) "__contains__" = some (some (.ref f))) (hf : PySem.W.isFn X.K (.ref f) = true) (F : FnG X.prog X.w X.K X.mg X.base CX0 k f fd ps (spD X.K den)) (hmo : MonoD den) (hr : Room k X.A) (hgd : X.A.guards = some []) (hb : Binds X.K fd ps []) :
    DO2 X (compareOp .NotIn) (rdInO C den true) := by
  refine ⟨rdInO.mono hmo, fun pins s σ H v u ov uv Q I rv ru ⟨g, M, x, y, w, hx, hy, fs, h1, h2⟩ => ?_⟩
  obtain ⟨p, dx, fvs, rfl, k1, k2, k3⟩ := w.seeO hy h1
  obtain rfl : uv = Value.ref p := ru
  obtain ⟨od, J⟩ := inst_at I k1
  obtain ⟨m, fr⟩ := I.fr
  refine PySem.W.notIn_K fr I.mod.kin J hs hf (wpAny_mono (in_run (Qf := fun b => V.bl (!b)) (Q := Q) hs F hr hgd hb I k1 rv ⟨g, M, _, w, .cons hy (.one hx), hmo _ _ _ _ (fun r M' ⟨b, e, q⟩ v' g' H' e' w' a' => ?_) h2⟩) (fun r s' z => wpAny_mono z (fun b s2 ⟨H', I', q⟩ => ⟨.bl (!b), H', I', rfl, q⟩) fun _ _ z => z) fun _ _ z => z)
  subst e
  exact ⟨b, has_bl a', by rw [Bool.true_xor] at q; exact q (.bl (!b)) g' H' e' w' (.bl (!b))⟩
def wRevS (we : WE) : WE := fun z Q => we z fun d z1 => ∃ ds, look z1.M d = .lst ds ∧ Q (.lst ds.reverse) z1
end
end Q
set_option Elab.async false
set_option linter.all false
set_option maxRecDepth 100000
set_option maxHeartbeats 4000000
namespace My
open PySem PySem.Spec PyProof.Rows L2
end My
namespace Q
open PySem PySem.Spec PyProof.Rows L2 My
section
variable {X : Cx} {g0 : Gh} {e : Expr} {we : WE} {pos : Pos}
def wRev2 (we : WE) : WE := fun z Q => we z fun d z1 => ∃ a b, look z1.M d = .tup [a, b] ∧ Q (.tup [b, a]) z1
end
end Q
set_option Elab.async false
set_option linter.all false
set_option maxRecDepth 100000
set_option maxHeartbeats 4000000
namespace My
open PySem PySem.Spec PyProof.Rows L2
end My
namespace Q
open PySem PySem.Spec PyProof.Rows L2 My
section
variable {X : Cx} {g0 : Gh} {e a b : Expr} {rest : List Expr} {we wa wb : WE} {pos : Pos}
def wRevT (we : WE) : WE := fun z Q => we z fun d z1 => ∃ ds, look z1.M d = .tup ds ∧ Q (.tup ds.reverse) z1
/-- the truth of None, a truth, an integer -/
def tvN : D → Option Bool
  | .non => some false
  | .bl b => some b
  | .int i => some (i != 0)
  | _ => none
def wOrN (wa wb : WE) : WE := fun z Q => wa z fun d z1 => ∃ k, tvN d = some k ∧ if k = true then Q d z1 else wb z1 Q
end
end Q
set_option Elab.async false
set_option linter.all false
set_option maxRecDepth 100000
set_option maxHeartbeats 4000000
namespace Q
open PySem PySem.Spec PyProof.Rows L2 My
def wLcM (wi : WI) (g : WG) (tt : WT) (te : WE) (vs : List Nat) : WE := fun z Q => wi z fun ds z1 => ds.length ≤ sizeLine ∧ lcGo g tt te (wipeD z1.ρ vs) (fun acc M => ∀ p, M p = none → Q (.ref p) ⟨z1.ρ, mupd M p (some (.lst acc))⟩) ds [] z1.M
theorem lcM_up {K : PySem.W.Frag} {g0 : Gh} {wi : WI} {gr : TG} {g : WG} {tt : WT} {te : WE} {vs : List Nat} {σ : L2.St} {H : Hp} {Q : VK} (hi : MonoA wi) (hgm : MonoG g) (htm : MonoT tt) (hem : MonoE te)
    (hgu : ∀ g1 v d z σ H Q, RR K g1 z σ H → Has K g1 v d → g d z (fun z' => ∀ g' σ' H', g1.le g' → RR K g' z' σ' H' → L2.wipe σ' vs = L2.wipe σ vs → Q σ' H') → gr v σ H Q)
    (h : upE K g0 (wLcM wi g tt te vs) σ H Q) : tLc (upI K g0 wi) gr (fun σ H Q => ∃ g0, upT K g0 tt σ H Q) (fun σ H Q => ∃ g0, upE K g0 te σ H Q) vs σ H Q := by
  obtain ⟨g1, z, l0, r, h⟩ := h
  refine ⟨g1, z, l0, r, hi _ _ _ (fun ds z1 ⟨hl, h1⟩ J g2 H2 e2 r2 wk D hD => ?_) h⟩
  let Go := lcGo g tt te (wipeD z1.ρ vs) (fun acc M => ∀ p, M p = none → ∀ v g' H', g1.le g' → RR K g' ⟨z1.ρ, mupd M p (some (.lst acc))⟩ σ H' → Has K g' v (.ref p) → Q v H')
  have h1 : Go ds [] z1.M := h1
  let Pv : Nat → Hp → Prop := fun i H => ∃ g3 M acc av, g2.le g3 ∧ WR K g3 M H ∧ Lone g3 M D ∧ H D = some (.lst av) ∧ HasL K g3 av acc ∧ acc.length ≤ i ∧ Go (ds.drop i) acc M
  have L0 := Lone.of r2.wr hD
  refine ⟨fun i m H => m = ds.length - i ∧ i ≤ ds.length ∧ Pv i H, ⟨ds.length, by simp, Nat.zero_le _, g2, z1.M, [], [], .refl _, r2.wr.lone L0, L0, upd_same, .nil, Nat.le_refl _, by simpa using h1⟩, ?_⟩
  rintro i m H3 ⟨rfl, hi3, g3, M, acc, av, e3, w3, L3, hD3, ha3, hl3, h3⟩
  have wf := w3.frame (o := .lst av) (H' := H3) L3.hs L3.fr L3.mt L3.bg hD3 fun _ _ _ q => q
  have sf : g2.sub (g3.fr D (.lst av)) := ⟨e3.hs, e3.bg⟩
  by_cases hlt : i < ds.length
  · refine .inr ⟨wk.go i H3 M _ sf wf hlt, Pv (i + 1), fun H' p' => ⟨ds.length - (i + 1), by omega, rfl, hlt, p'⟩, fun x H4 y => ?_⟩
    obtain ⟨g4, d, e4, w4, hd, a4⟩ := wk.yld i H3 x H4 M _ sf wf hlt y
    rw [List.drop_eq_getElem_cons hlt] at h3
    have hd' : ds[i] = d := by
      rw [List.getElem?_eq_getElem hlt] at hd
      exact Option.some.inj hd
    rw [hd'] at h3
    have s34 : g2.sub g4 := ⟨Same.trans e3.hs e4.hs, fun B q => e4.bg B (e3.bg B q)⟩
    have r4 : RR K g4 ⟨wipeD z1.ρ vs, M⟩ (L2.wipe σ vs) H4 := ⟨w4, (r2.sl.wipe vs).sub s34⟩
    refine hgu g4 x d _ _ _ _ r4 a4 (hgm _ _ _ _ (fun z5 h5 g5 σ5 H5 e5 r5 q5 => ⟨by rw [q5, wipe_wipe], g5, g5, z5, .refl _, r5, htm _ _ _ (fun b z6 h6 g6 H6 e6 r6 => ?_) h5⟩) h3)
    have e46 := (e4.trans e5).trans e6
    cases b with
    | true =>
      refine ⟨g6, g6, z6, .refl _, r6, hem _ _ _ (fun yd z7 h7 v7 g7 H7 e7 r7 a7 => ?_) h6⟩
      obtain ⟨w8, e8, L8, hD8⟩ := Lone.back L3.fr (e46.trans e7) r7.wr
      have sb : g7.sub ⟨g7.Hs, g3.F, g7.bg⟩ := ⟨Same.refl _, fun _ q => q⟩
      refine ⟨av, hD8, Nat.lt_of_lt_of_le (Nat.lt_of_le_of_lt (ha3.length ▸ hl3) hlt) hl, ?_⟩
      refine ⟨_, z7.M, acc ++ [yd], av ++ [v7], e3.trans e8, w8.lone L8, L8, upd_same, (ha3.le e8).append (.one (a7.sub sb)), ?_, h7⟩
      rw [List.length_append]
      exact Nat.succ_le_succ hl3
    | false =>
      obtain ⟨w8, e8, L8, hD8⟩ := Lone.back L3.fr e46 r6.wr
      exact ⟨_, z6.M, acc, av, e3.trans e8, w8, L8, hD8, ha3.le e8, Nat.le_succ_of_le hl3, h6⟩
  · have e : i = ds.length := by omega
    subst e
    rw [List.drop_length] at h3
    refine .inl ⟨wk.stop H3 M _ sf wf, ?_⟩
    have ws : WR K g3 (mupd M D (some (.lst acc))) H3 := w3.open' L3.hs L3.fr L3.bg ⟨av, hD3, ha3⟩ fun _ _ _ q => q
    exact h3 D L3.mt (.ref D) _ H3 (e2.trans e3) ⟨ws, r2.sl.le e3⟩ (.ref D)
section
variable {X : Cx} {g0 : Gh} {elt tg iter : Expr} {ifs : List Expr} {scope : Scope} {own : List (Str × Nat)} {pos : Pos} {wi : WI} {gr : TG} {g : WG} {tt : WT} {te : WE}
theorem wLcM.mono {vs : List Nat} (hi : MonoA wi) (hgm : MonoG g) (htm : MonoT tt) (hem : MonoE te) : MonoE (wLcM wi g tt te vs) := fun z Q Q' k h =>
  hi _ _ _ (fun ds z1 h1 => ⟨h1.1, lcGo.mono hgm htm hem (fun acc M q p hp => k _ _ (q p hp)) _ _ _ h1.2⟩) h
/-- name = [..] on one line -/
theorem qs_setLcM {i : Nat} {y : Str} {py spos : Pos} (hc : X.calm = true) (hN : X.N.Nodup) (hi : QI X g0 tg iter wi) (ok : BlkOk X.N X.env.scope scope own)
    (hg : ∀ (s : Shared) (H : Hp) (C : Addr) (cl : List (Str × Addr)) (fp : List Addr), QGo (X.blk s H scope (compEnvC scope cl C X.env) fp) (own.map (·.2)) tg gr g)
    (ht : ∀ (s : Shared) (H : Hp) (C : Addr) (cl : List (Str × Addr)) (fp : List Addr) (g0 : Gh), QTs (X.blk s H scope (compEnvC scope cl C X.env) fp) g0 ifs tt)
    (he : ∀ (s : Shared) (H : Hp) (C : Addr) (cl : List (Str × Addr)) (fp : List Addr) (g0 : Gh), QE (X.blk s H scope (compEnvC scope cl C X.env) fp) g0 elt te)
    (hy : X.N[i]? = some y := by rfl) (hyl : X.env.scope.names.lookup y = some .local := by rfl)
    (hsw : swapsWith (.ListComp elt [⟨tg, iter, ifs, 0⟩] scope pos) (some (.Name y py)) spos.line X.env = pure true := by exact sw_true rfl rfl rfl (by decide +kernel)) (hs : ∀ x, foldedSetIterable iter X.env x = pure x := by intro _; rfl) :
    QS X g0 (.Assign [.Name y py] (.ListComp elt [⟨tg, iter, ifs, 0⟩] scope pos) spos) (wAsg (wLcM wi g tt te (own.map (·.2))) (gN i)) := by
  have gm := (hg X.s_0 X.H_0 0 [] []).mono
  have tm := (ht X.s_0 X.H_0 0 [] [] g0).mono
  have em := (he X.s_0 X.H_0 0 [] [] g0).mono
  have lm : MonoE (wLcM wi g tt te (own.map (·.2))) := wLcM.mono hi.mono gm tm em
  refine ⟨wAsg.mono lm fun d z Q Q' k h => k _ h, (ps_setLc (tt := fun σ H Q => ∃ g0, upT X.K g0 tt σ H Q) (te := fun σ H Q => ∃ g0, upE X.K g0 te σ H Q) hc hN hy hyl hsw hi.run ok (fun s H C cl fp => (hg s H C cl fp).run) (fun s H C cl fp => PTs.any fun g0 => (ht s H C cl fp g0).run) (fun s H C cl fp => PE.any fun g0 => (he s H C cl fp g0).run) hs).imp fun D σ H ⟨g1, z, l0, r, h⟩ => ?_⟩
  refine lcM_up hi.mono gm tm em (hg X.s_0 X.H_0 0 [] []).up ⟨g1, z, l0, r, lm _ _ _ (fun d z1 h1 v g' H' e' r' a' => ?_) h⟩
  exact h1 g' _ H' e' ⟨r'.wr, r'.sl.set a' i⟩
end
section
variable {X : Cx} {g0 : Gh} {pos : Pos}
def wPar3 (i j l : Nat) (wa : WA) : WS := fun E z => wa z fun ds z1 => ∃ a b c, ds = [a, b, c] ∧ E.nx ⟨((z1.ρ.set i (some a)).set j (some b)).set l (some c), z1.M⟩
theorem qs_par3 {i j l : Nat} {x y u : Str} {a b c : Expr} {wa : WA} {px py pz pt : Pos} {kt k2 pt2} (hc : X.calm = true) (hN : X.N.Nodup) (ha : QA X g0 [a, b, c] wa) (hi : X.N[i]? = some x := by rfl) (hj : X.N[j]? = some y := by rfl) (hl : X.N[l]? = some u := by rfl) (hij : i ≠ j := by decide) (hil : i ≠ l := by decide) (hjl : j ≠ l := by decide)
    (hx : X.env.scope.names.lookup x = some .local := by rfl) (hy : X.env.scope.names.lookup y = some .local := by rfl) (hz : X.env.scope.names.lookup u = some .local := by rfl)
    (hw : swappedStores [.Tuple [.Name x px, .Name y py, .Name u pz] kt pt] (.Tuple [a, b, c] k2 pt2) X.env = pure (some [x, y, u]) := by rfl)
    (hs : swapsWithSole [.Tuple [.Name x px, .Name y py, .Name u pz] kt pt] (.Tuple [a, b, c] k2 pt2) pos.line X.env = pure false := by rfl) :
    QS X g0 (.Assign [.Tuple [.Name x px, .Name y py, .Name u pz] kt pt] (.Tuple [a, b, c] k2 pt2) pos) (wPar3 i j l wa) := by
  refine ⟨fun E E' z l h => ha.mono _ _ _ (fun ds z1 ⟨d, e, f, h1, h2⟩ => ⟨d, e, f, h1, l.nx _ h2⟩) h, (ps_par3 hc hN hi hj hl hij hil hjl hx hy hz ha.run hw hs).imp fun D σ H ⟨g, z, l0, r, h⟩ => ⟨g, z, l0, r, ha.mono _ _ _ (fun ds z1 ⟨d, e, f, h1, h2⟩ vs g' H' e' r' a' => ?_) h⟩⟩
  subst h1
  cases a' with
  | cons a1 a2 =>
    cases a2 with
    | cons a2 a3 =>
      cases a3 with
      | cons a3 a4 =>
        cases a4
        exact ⟨_, _, _, rfl, h2 g' _ H' e' ⟨r'.wr, ((r'.sl.set a1 i).set a2 j).set a3 l⟩⟩
def rUpd (v : V) (vs : List V) (H : Hp) (Q : VK) : Prop := ∃ a b kvs more, v = .ref a ∧ vs = [.ref b] ∧ a ≠ b ∧ H a = some (.dK kvs) ∧ Rd H b (.dK more) ∧ kvs.length + more.length ≤ sizeLine ∧ Q .non (upd H a (.dK (mergeK kvs more)))
theorem mt_update : MtR X "dict.update" rUpd := by
  intro pins s σ H v vs ov us Q I rv rs ⟨a, b, kvs, more, h1, h2, hab, hd, hb, hz, q⟩
  subst h1 h2
  cases (show ov = Value.ref a from rv)
  obtain rfl := Vals.ref1 rs
  obtain ⟨z, hd1, ws, rel, dd⟩ := dk_of I.hok hd
  obtain ⟨z2, hd2, ms, rel2, dd2⟩ := dk_rd I.hok hb
  refine call_meetsIn PySem.F.slot_dict_update dd.typeIs PySem.F.entry_dict_update (PySem.F.args_dict_update_2 _ _) (meets_dict_update (mixKind X.prog X.w) a b hab hd2) ⟨ws, ms, dd, dd2, by rw [← rel.length, ← rel2.length]; exact hz, fun h' d1 d2 hs => ?_⟩
  have he : ∃ q, h'.get? a = some q := let ⟨q, _, _, hq, _⟩ := d1; ⟨q, hq⟩
  exact ⟨.non, _, d_write (t' := s.toks) I (by rw [hd]; trivial) hs he (dk_new (Nat.le_trans (length_mergeK more kvs) hz) hd1 (rel2.merge rel) d1), rfl, q⟩
def rdUpd (x : D) (as : List D) (M : Mp) (Q : KD) : Prop := ∃ p kvs more, x = .ref p ∧ M p = some (.dct kvs) ∧ as = [.dct more] ∧ kvs.length + more.length ≤ sizeLine ∧ Q .non (mupd M p (some (.dct (mergeD kvs more))))
theorem d_update : DM X "dict.update" rdUpd := by
  refine ⟨fun x as M Q Q' k ⟨p, kvs, more, h1, h2, h3, h4, h5⟩ => ⟨p, kvs, more, h1, h2, h3, h4, k _ _ h5⟩, fun pins s σ H v vs ov us Q I rv rs ⟨g, M, x, as, w, hx, ha, p, kvs, more, h1, h2, h3, h4, h5⟩ => ?_⟩
  subst h1 h3
  cases hx
  obtain ⟨kv, k1, k2, k3⟩ := w.mt h2
  obtain ⟨u, rfl, hu⟩ := has1 ha
  cases hu with
  | @dct b o mv ds m1 m2 m3 =>
    obtain ⟨n1, n2⟩ := merge_ok m2 m3 k2 k3
    have e1 : kv.length = kvs.length := by have := congrArg List.length k2; simpa using this.symm
    have e2 : mv.length = more.length := by have := congrArg List.length m2; simpa using this.symm
    refine mt_update pins s σ H _ _ ov us Q I rv rs ⟨p, b, kv, mv, rfl, rfl, fun e => ?_, k1, .inr ⟨o, w.sub _ _ m1⟩, by rw [e1, e2]; exact h4, h5 .non g _ (.refl g) (w.put h2 ⟨_, upd_same, n1, n2⟩) .non⟩
    subst e
    rw [(w.muts _ _ h2).1] at m1
    cases m1
end
end Q
set_option Elab.async false
set_option linter.all false
set_option maxRecDepth 100000
set_option maxHeartbeats 4000000
namespace Q
open PySem PySem.Spec PyProof.Rows L2 My
section
variable {k : Nat} {A : Around}
theorem room200 (hr : Room k A) : A.units + 200 < cLine := by have := hr.un; omega
theorem room65 (hr : Room k A) : A.units + 65 < cLine := by have := hr.un; omega
theorem room64 (hr : Room k A) : A.units + 64 < cLine := by have := hr.un; omega
theorem room1 (hr : Room k A) : A.units + 1 < cLine := by have := hr.un; omega
end
theorem WR.bagPut {K : PySem.W.Frag} {g : Gh} {M : Mp} {H : Hp} {B : BI} {o : HO} (w : WR K g M H) (h : g.bg = some B) (hB : BagOk (upd H B.b o) B) : WR K g M (upd H B.b o) := by
  obtain ⟨h1, h2, h3, h4, h5⟩ := w.bag B h
  refine ⟨fun a u q => ?_, fun a u q => ?_, fun a mo q => ?_, fun B' q => ?_⟩
  · rw [upd_ne (fun e => by subst e; rw [h2] at q; cases q)]; exact w.sub _ _ q
  · obtain ⟨k1, k2⟩ := w.frm a u q
    exact ⟨by rw [upd_ne (fun e => by subst e; rw [h3] at q; cases q)]; exact k1, k2⟩
  · obtain ⟨k1, k2, k3⟩ := w.muts a mo q
    exact ⟨k1, k2, k3.same fun u hu => by rw [upd_ne (fun e => by subst e; rw [h4] at q; cases q)]; exact hu⟩
  · rw [h] at q
    cases q
    exact ⟨hB, h2, h3, h4, h5⟩
def denTake : Den := fun ds M Q => ∃ n : Int, ds = [.bag, .int n] ∧ 0 < n ∧ n < 2 ^ 60 ∧ ∀ v : Int, 0 ≤ v → v < n → Q (.int v) M
theorem mo_take : MonoD denTake := fun ds M Q Q' k ⟨n, h1, h2, h3, h4⟩ => ⟨n, h1, h2, h3, fun v a b => k _ _ (h4 v a b)⟩
theorem spD_take {K : PySem.W.Frag} {vs : List V} {H : Hp} {Q : VK} {E : XK} (h : spD K denTake vs H Q E) : spTake vs H Q E := by
  obtain ⟨g, M, ds, w, a, n, rfl, h0, h1, k⟩ := h
  obtain ⟨v, u, rfl, hv, hu⟩ := has2 a
  cases hu
  cases hv with
  | @bag B hB =>
    exact ⟨B, n, rfl, (w.bag B hB).1, h0, h1, fun v o a1 a2 hb => lk_at (k v a1 a2) (w.bagPut hB hb) (.int v)⟩
section
variable {P : Program} {w : World} {K : PySem.W.Frag} {mg : Str → Option Value} {base : Heap} {k : Nat} {f : Addr} {fd : FuncData} {ps N : List Str} {x qual : Str} {st : Stmt}
theorem take_ok (F : FnOk P w K mg base CX0 k f fd ps spTake) : FnG P w K mg base CX0 k f fd ps (spD K denTake) := .of (F.imp fun _ _ _ _ => spD_take)
/-- a def, a method, as the head tells them -/
structure Df (K : PySem.W.Frag) (x qual : Str) (st : Stmt) (ps : List Str) (f : Addr) (fd : FuncData) : Prop where
  F : Fun K x qual st f fd
  bd : Binds K fd ps []
structure Dg (K : PySem.W.Frag) (mg : Str → Option Value) (x : Str) (st : Stmt) (ps : List Str) (f : Addr) (fd : FuncData) : Prop extends Df K x x st ps f fd where
  mg : mg x = some (.ref f)
structure Told (K : PySem.W.Frag) (x qual : Str) (st : Stmt) (f : Addr) : Prop where
  ex : ∃ (oc : Value) (od an : Option Addr) (sl : Array (Option Value)) (kV dc pm cd ct : Value), K.lookup f = some ⟨oc, od, .func (PySem.W.fnOf x qual (defArgs st) (defBody st) (defScope st) .none kV dc pm an cd ct), sl⟩ ∧ PySem.W.codeIn K cd qual = true
  kp : PySem.W.keepIn K (.ref f) = true
theorem told {oc : Value} {od an : Option Addr} {sl : Array (Option Value)} {kV dc pm cd ct : Value}
    (l : K.lookup f = some ⟨oc, od, .func (PySem.W.fnOf x qual (defArgs st) (defBody st) (defScope st) .none kV dc pm an cd ct), sl⟩) (c : PySem.W.codeIn K cd qual = true) (k : PySem.W.keepIn K (.ref f) = true) : Told K x qual st f :=
  ⟨⟨oc, od, an, sl, kV, dc, pm, cd, ct, l, c⟩, k⟩
theorem Told.df (t : Told K x qual st f)
    (hb : ∀ (kV doc pm : Value) (an : Option Addr) (cdv ct : Value) (us : List Value), us.length = ps.length → bindArgs (PySem.W.fnOf x qual (defArgs st) (defBody st) (defScope st) .none kV doc pm an cdv ct) ⟨us, []⟩ = pure (ps.zip us)) :
    ∃ fd, Df K x qual st ps f fd := by
  obtain ⟨oc, od, an, sl, kV, dc, pm, cd, ct, l, c⟩ := t.ex
  have F := fun_mk (st := st) l c t.kp
  exact ⟨_, F, F.binds hb⟩
/-- law(_law_script): its promise -/
def spLaw (K : PySem.W.Frag) : Sp := fun vs H Q _ => ∃ (a : Addr) (ns : List Int), vs = [.ref a] ∧ SqL K H a (ns.map V.int) ∧ ns.length ≤ 63 ∧ ∀ H', Q (.bl true) H'
theorem _root_.L2.PSs.any {X : Cx} {e : List Stmt} {w : WS} (h : ∀ g0, PSs X e (upS X.K g0 w)) : PSs X e (fun D σ H => ∃ g0, upS X.K g0 w D σ H) := ⟨fun pins s σ H D I ⟨g0, q⟩ => (h g0).run pins s σ H D I q⟩
/-- with a new bag -/
theorem WR.ofBag {H : Hp} {B : BI} (h : BagOk H B) : WR K ⟨fun a => if a = B.L then some (.lst (B.cs.map V.int)) else none, fun _ => none, some B⟩ (fun _ => none) H := by
  obtain ⟨x, y, z, b⟩ := id h
  have ne : B.b ≠ B.L := fun e => by
    have h1 := b.at_
    have h2 := b.cells
    rw [← e, h1] at h2
    have h3 := congrArg (fun l => l[3]?) (HO.lst.inj (Option.some.inj h2))
    rw [List.getElem?_map] at h3
    cases q : B.cs[3]? with
    | none => rw [q] at h3; cases h3
    | some i => rw [q] at h3; cases h3
  refine ⟨fun a u q => ?_, fun a u q => (nomatch q), fun a mo q => (nomatch q), fun B' q => ?_⟩
  · by_cases e : a = B.L
    · subst e
      simp only [if_true] at q
      cases q
      exact b.cells
    · simp only [if_neg e] at q
      cases q
  · cases q
    exact ⟨h, if_neg ne, rfl, rfl, if_pos rfl⟩
theorem lawfn {wb : WS} {N' : List Str} {s1 : Stmt} {rest : List Stmt} (F : Fun K "law" "law" st f fd) (S : FnScope ("_law_script" :: "_law_bag_here" :: N') ["_law_script"] (defScope st)) (hst : defBody st = s1 :: rest)
    (h1 : ∀ (cdv : Value) (A : Around) (outer : List Env) (s : Shared) (H : Hp) (E : XK), Room k (A.deeper (envOfC "law" (defScope st) s.heap.objs.size f cdv)) → A.guards = some [] →
      PS (cxOf CX0 P w K mg base ("_law_script" :: "_law_bag_here" :: N') "law" (defScope st) f cdv A outer s H E).nox s1 (tAsg (tCall (spBag K) [] E0 (tCons (tVar 0) tNil)) (gName 1)))
    (hw : ∀ (cdv : Value) (A : Around) (outer : List Env) (s : Shared) (H : Hp) (E : XK) (g0 : Gh), Room k (A.deeper (envOfC "law" (defScope st) s.heap.objs.size f cdv)) → A.guards = some [] →
      QSs (cxOf CX0 P w K mg base ("_law_script" :: "_law_bag_here" :: N') "law" (defScope st) f cdv A outer s H E).nox g0 rest wb)
    (hd : wb (enD fun d _ => d = .bl true) ⟨none :: some .bag :: List.replicate N'.length none, fun _ => none⟩) :
    FnG P w K mg base CX0 (k + 1) f fd ["_law_script"] (spLaw K) := by
  refine okG F S (fun vs H Q E ⟨a, ns, e, _⟩ => by subst e; rfl) fun cdv A outer s H vs Q E hr hg ⟨a, ns, e, hS, hl, q⟩ => ?_
  subst e
  rw [hst]
  refine ⟨_, pss_cons (h1 cdv A outer s H E hr hg) (PSs.any fun g0 => (hw cdv A outer s H E g0 hr hg).run), ?_⟩
  refine ⟨_, rfl, a, ns, rfl, hS, hl, fun B H' sm hn hB => ?_⟩
  let G : Gh := ⟨fun a => if a = B.L then some (.lst (B.cs.map V.int)) else none, fun _ => none, some B⟩
  let z : Z := ⟨none :: some .bag :: List.replicate N'.length none, fun _ => none⟩
  have wr : WR K G z.M H' := WR.ofBag hB
  have rr : RR K G z ((L2.start ("_law_script" :: "_law_bag_here" :: N') [V.ref a]).set 1 (some (V.ref B.b))) H' := by
    refine ⟨wr, by simp [L2.start, z], fun i d hi => ?_⟩
    match i, hi with
    | 0, hi => cases hi
    | 1, hi =>
      cases hi
      exact ⟨_, rfl, .bag rfl⟩
    | i + 2, hi =>
      have hi : (List.replicate N'.length (none : Option D))[i]? = some (some d) := hi
      rw [List.getElem?_replicate] at hi
      split at hi <;> cases hi
  refine ⟨G, G, z, .refl _, rr, (hw cdv A outer s H E G hr hg).mono (enD fun d _ => d = .bl true) _ _ ⟨fun z h => (nomatch h), fun d M h v g' H2 e2 w2 a2 => ?_, fun z h => h.elim, fun z h => h.elim⟩ hd⟩
  subst h
  cases a2
  exact q _
end
end Q
set_option Elab.async false
set_option linter.all false
set_option maxRecDepth 100000
set_option maxHeartbeats 4000000
namespace Q
open PySem PySem.Spec PyProof.Rows L2 My
theorem mo_l_take : MonoD denTake := mo_take
theorem wLoop_ind {g : WG} {b : WS} {E : En} (I : List D → Z → Prop)
    (h : ∀ d ds (k : Z → Prop) z, I (d :: ds) z → (∀ z, I ds z → k z) → g d z fun z1 => b { E with nx := k, ct := k, bk := E.nx } z1) (h0 : ∀ z, I [] z → E.nx z) : ∀ ds z, I ds z → wLoop g b E ds z
  | [], z, i => h0 z i
  | d :: ds, z, i => h d ds _ z i fun z i => wLoop_ind I h h0 ds z i
theorem lcGo_ind {g : WG} {tt : WT} {te : WE} {ρ : List (Option D)} {Q : List D → Mp → Prop} (I : List D → List D → Mp → Prop)
    (h : ∀ d ds acc M (k : List D → Mp → Prop), I (d :: ds) acc M → (∀ acc M, I ds acc M → k acc M) → g d ⟨ρ, M⟩ fun z2 => tt z2 fun b z3 => if b = true then te z3 fun y z4 => k (acc ++ [y]) z4.M else k acc z3.M)
    (h0 : ∀ acc M, I [] acc M → Q acc M) : ∀ ds acc M, I ds acc M → lcGo g tt te ρ Q ds acc M
  | [], acc, M, i => h0 acc M i
  | d :: ds, acc, M, i => h d ds acc M _ i fun acc M i => lcGo_ind I h h0 ds acc M i
theorem dcGo_ind {g : WG} {tt : WT} {tk tv : WE} {ρ : List (Option D)} {Q : List (Key × D) → Mp → Prop} (I : List D → List (Key × D) → Mp → Prop)
    (h : ∀ d ds acc M (k : List (Key × D) → Mp → Prop), I (d :: ds) acc M → (∀ acc M, I ds acc M → k acc M) → g d ⟨ρ, M⟩ fun z2 => tt z2 fun b z3 => if b = true then tk z3 fun y z4 => tv z4 fun v z5 => ∃ ky, keyOf y = some ky ∧ k (putD acc ky v) z5.M else k acc z3.M)
    (h0 : ∀ acc M, I [] acc M → Q acc M) : ∀ ds acc M, I ds acc M → dcGo g tt tk tv ρ Q ds acc M
  | [], acc, M, i => h0 acc M i
  | d :: ds, acc, M, i => h d ds acc M _ i fun acc M i => dcGo_ind I h h0 ds acc M i
section
variable {M : Mp} {x y : D} {p : Addr} {ds es : List D} {kvs : List (Key × D)} {Q : KD} {i j : Int}
theorem lkL (h : M p = some (.lst ds)) : look M (.ref p) = .lst ds := look_ref_lst h
theorem lkS : look (mupd M p (some (.lst ds))) (.ref p) = .lst ds := look_ref_lst mupd_same
theorem lkD : look (mupd M p (some (.dct kvs))) (.ref p) = .dct kvs := look_ref_dct mupd_same
theorem len_l (h : look M x = .lst ds) (q : Q (.int ds.length) M) : rdLen [x] M Q := ⟨x, rfl, by rw [h]; exact q⟩
theorem len_d (h : look M x = .dct kvs) (q : Q (.int kvs.length) M) : rdLen [x] M Q := ⟨x, rfl, by rw [h]; exact q⟩
theorem ix_l (h : look M x = .lst ds) {d : D} (e : atI ds i = some d) (q : Q d M) : rdIx x (.int i) M Q := by unfold rdIx; rw [h]; exact ⟨i, d, rfl, e, q⟩
theorem ix_t (h : look M x = .tup ds) {d : D} (e : atI ds i = some d) (q : Q d M) : rdIx x (.int i) M Q := by unfold rdIx; rw [h]; exact ⟨i, d, rfl, e, q⟩
theorem ix_d (h : look M x = .dct kvs) {k : Key} {d : D} (ek : keyOf y = some k) (e : valD kvs k = some d) (q : Q d M) : rdIx x y M Q := by unfold rdIx; rw [h]; exact ⟨k, d, ek, e, q⟩
theorem ty_l (h : look M x = .lst ds) : tyName M x = some "list" := by unfold tyName; rw [h]
theorem ty_d (h : look M x = .dct kvs) : tyName M x = some "dict" := by unfold tyName; rw [h]
end
end Q
set_option Elab.async false
set_option linter.all false
set_option maxRecDepth 100000
set_option maxHeartbeats 4000000
namespace Q
open PySem PySem.Spec PyProof.Rows L2 My
/-- the second clause's turns -/
def lcIn (g : WG) (tt : WT) (te : WE) (ρ : List (Option D)) (Q : List D → Mp → Prop) : List D → List D → Mp → Prop
  | [], acc, M => Q acc M
  | d :: ds, acc, M => g d ⟨ρ, M⟩ fun z2 => tt z2 fun b z3 => if b = true then te z3 fun y z4 => acc.length < sizeLine ∧ lcIn g tt te ρ Q ds (acc ++ [y]) z4.M else lcIn g tt te ρ Q ds acc z3.M
theorem lcIn.mono {g : WG} {tt : WT} {te : WE} {ρ : List (Option D)} {Q Q' : List D → Mp → Prop} (hg : MonoG g) (ht : MonoT tt) (he : MonoE te) (k : ∀ ds M, Q ds M → Q' ds M) : ∀ ds acc M, lcIn g tt te ρ Q ds acc M → lcIn g tt te ρ Q' ds acc M
  | [], acc, M, h => k _ _ h
  | d :: ds, acc, M, h => hg _ _ _ _ (fun z2 h2 => ht _ _ _ (fun b z3 h3 => by
    cases b with
    | true => exact he _ _ _ (fun y z4 h4 => ⟨h4.1, lcIn.mono hg ht he k ds _ _ h4.2⟩) h3
    | false => exact lcIn.mono hg ht he k ds _ _ h3) h2) h
def lcOut (g : WG) (tt : WT) (wi : WI) (g1 : WG) (tt1 : WT) (te : WE) (vs1 : List Nat) (ρ : List (Option D)) (Q : List D → Mp → Prop) : List D → List D → Mp → Prop
  | [], acc, M => Q acc M
  | d :: ds, acc, M => g d ⟨ρ, M⟩ fun z2 => tt z2 fun b z3 => if b = true then wi z3 fun es z4 => lcIn g1 tt1 te (wipeD z4.ρ vs1) (fun acc M => lcOut g tt wi g1 tt1 te vs1 ρ Q ds acc M) es acc z4.M else lcOut g tt wi g1 tt1 te vs1 ρ Q ds acc z3.M
theorem lcOut.mono {g g1 : WG} {tt tt1 : WT} {wi : WI} {te : WE} {vs1 : List Nat} {ρ : List (Option D)} {Q Q' : List D → Mp → Prop} (hg : MonoG g) (ht : MonoT tt) (hi : MonoA wi) (hg1 : MonoG g1) (ht1 : MonoT tt1) (he : MonoE te) (k : ∀ ds M, Q ds M → Q' ds M) : ∀ ds acc M, lcOut g tt wi g1 tt1 te vs1 ρ Q ds acc M → lcOut g tt wi g1 tt1 te vs1 ρ Q' ds acc M
  | [], acc, M, h => k _ _ h
  | d :: ds, acc, M, h => hg _ _ _ _ (fun z2 h2 => ht _ _ _ (fun b z3 h3 => by
    cases b with
    | true => exact hi _ _ _ (fun es z4 h4 => lcIn.mono hg1 ht1 he (fun acc M q => lcOut.mono hg ht hi hg1 ht1 he k ds acc M q) _ _ _ h4) h3
    | false => exact lcOut.mono hg ht hi hg1 ht1 he k ds _ _ h3) h2) h
def wLc2 (wi : WI) (g : WG) (tt : WT) (wi1 : WI) (g1 : WG) (tt1 : WT) (te : WE) (vs vs1 : List Nat) : WE := fun z Q => wi z fun ds z1 => lcOut g tt wi1 g1 tt1 te vs1 (wipeD z1.ρ vs) (fun acc M => Q (.lst acc) ⟨z1.ρ, M⟩) ds [] z1.M
theorem _root_.L2.PI.any {X : Cx} {tg e : Expr} {w : WI} (h : ∀ g0, PI X tg e (upI X.K g0 w)) : PI X tg e (fun σ H Q => ∃ g0, upI X.K g0 w σ H Q) := ⟨fun pins s σ H Q I ⟨g0, q⟩ => (h g0).run pins s σ H Q I q⟩
section
variable {X : Cx} {g0 : Gh} {elt tg iter tg1 iter1 : Expr} {ifs ifs1 : List Expr} {scope : Scope} {own : List (Str × Nat)} {pos : Pos} {wi wi1 : WI} {gr gr1 : TG} {g g1 : WG} {tt tt1 : WT} {te : WE}
theorem wLc2.mono {vs vs1 : List Nat} (hi : MonoA wi) (hgm : MonoG g) (htm : MonoT tt) (hi1 : MonoA wi1) (hgm1 : MonoG g1) (htm1 : MonoT tt1) (hem : MonoE te) : MonoE (wLc2 wi g tt wi1 g1 tt1 te vs vs1) := fun z Q Q' k h =>
  hi _ _ _ (fun ds z1 h1 => lcOut.mono hgm htm hi1 hgm1 htm1 hem (fun acc M q => k _ _ q) _ _ _ h1) h
end
end Q
set_option Elab.async false
set_option linter.all false
set_option maxRecDepth 100000
set_option maxHeartbeats 4000000
namespace My
open PySem PySem.Spec PyProof.Rows L2
def addS (S : List Str) (y : Str) : List Str := if y ∈ S then S else y :: S
section
variable {prog : Program} {w : World} {A : Around} {R : Result → Shared → Prop} {s : Shared} {elt ta ia tb ib : Expr} {fa fb : List Expr} {sc : Scope} {pos : Pos} {it acc : Value} {env : Env}
abbrev Nt (prog : Program) (w : World) (A : Around) (env : Env) (R : Result → Shared → Prop) : Value → Shared → Prop := notedBy (model prog w) A env fun e s' => R (.error e) s'
end
end My
set_option Elab.async false
set_option linter.all false
set_option maxRecDepth 100000
set_option maxHeartbeats 4000000
namespace My
open PySem PySem.Spec PyProof.Rows L2
end My
set_option Elab.async false
set_option linter.all false
set_option maxRecDepth 100000
set_option maxHeartbeats 4000000
namespace Q
open PySem PySem.Spec PyProof.Rows L2 My
def scIn (g : WG) (tt : WT) (te : WE) (ρ : List (Option D)) (Q : List Str → Mp → Prop) : List D → List Str → Mp → Prop
  | [], acc, M => Q acc M
  | d :: ds, acc, M => g d ⟨ρ, M⟩ fun z2 => tt z2 fun b z3 => if b = true then te z3 fun y z4 => ∃ c, y = .str c ∧ acc.length < 1000 ∧ scIn g tt te ρ Q ds (acc ++ [c]) z4.M else scIn g tt te ρ Q ds acc z3.M
theorem scIn.mono {g : WG} {tt : WT} {te : WE} {ρ : List (Option D)} {Q Q' : List Str → Mp → Prop} (hg : MonoG g) (ht : MonoT tt) (he : MonoE te) (k : ∀ ds M, Q ds M → Q' ds M) : ∀ ds acc M, scIn g tt te ρ Q ds acc M → scIn g tt te ρ Q' ds acc M
  | [], acc, M, h => k _ _ h
  | d :: ds, acc, M, h => hg _ _ _ _ (fun z2 h2 => ht _ _ _ (fun b z3 h3 => by
    cases b with
    | true => exact he _ _ _ (fun y z4 ⟨c, e, l, h4⟩ => ⟨c, e, l, scIn.mono hg ht he k ds _ _ h4⟩) h3
    | false => exact scIn.mono hg ht he k ds _ _ h3) h2) h
def scOut (g : WG) (tt : WT) (wi : WI) (g1 : WG) (tt1 : WT) (te : WE) (vs1 : List Nat) (ρ : List (Option D)) (Q : List Str → Mp → Prop) : List D → List Str → Mp → Prop
  | [], acc, M => Q acc M
  | d :: ds, acc, M => g d ⟨ρ, M⟩ fun z2 => tt z2 fun b z3 => if b = true then wi z3 fun es z4 => scIn g1 tt1 te (wipeD z4.ρ vs1) (fun acc M => scOut g tt wi g1 tt1 te vs1 ρ Q ds acc M) es acc z4.M else scOut g tt wi g1 tt1 te vs1 ρ Q ds acc z3.M
theorem scOut.mono {g g1 : WG} {tt tt1 : WT} {wi : WI} {te : WE} {vs1 : List Nat} {ρ : List (Option D)} {Q Q' : List Str → Mp → Prop} (hg : MonoG g) (ht : MonoT tt) (hi : MonoA wi) (hg1 : MonoG g1) (ht1 : MonoT tt1) (he : MonoE te) (k : ∀ ds M, Q ds M → Q' ds M) : ∀ ds acc M, scOut g tt wi g1 tt1 te vs1 ρ Q ds acc M → scOut g tt wi g1 tt1 te vs1 ρ Q' ds acc M
  | [], acc, M, h => k _ _ h
  | d :: ds, acc, M, h => hg _ _ _ _ (fun z2 h2 => ht _ _ _ (fun b z3 h3 => by
    cases b with
    | true => exact hi _ _ _ (fun es z4 h4 => scIn.mono hg1 ht1 he (fun acc M q => scOut.mono hg ht hi hg1 ht1 he k ds acc M q) _ _ _ h4) h3
    | false => exact scOut.mono hg ht hi hg1 ht1 he k ds _ _ h3) h2) h
def wSS2 (wi : WI) (g : WG) (tt : WT) (wi1 : WI) (g1 : WG) (tt1 : WT) (te : WE) (vs vs1 : List Nat) : WE := fun z Q => wi z fun ds z1 => scOut g tt wi1 g1 tt1 te vs1 (wipeD z1.ρ vs) (fun acc M => acc.length ≤ 1000 ∧ Q (.lst ((sset acc).map .str)) ⟨z1.ρ, M⟩) ds [] z1.M
theorem wSS2.mono {wi wi1 : WI} {g g1 : WG} {tt tt1 : WT} {te : WE} {vs vs1 : List Nat} (hi : MonoA wi) (hgm : MonoG g) (htm : MonoT tt) (hi1 : MonoA wi1) (hgm1 : MonoG g1) (htm1 : MonoT tt1) (hem : MonoE te) : MonoE (wSS2 wi g tt wi1 g1 tt1 te vs vs1) := fun z Q Q' k h =>
  hi _ _ _ (fun ds z1 h1 => scOut.mono hgm htm hi1 hgm1 htm1 hem (fun acc M q => ⟨q.1, k _ _ q.2⟩) _ _ _ h1) h
/-- S: the members of acc -/
structure Mem (S acc : List Str) : Prop where
  nd : S.Nodup
  mem : ∀ k, k ∈ S ↔ k ∈ acc
  few : S.length ≤ acc.length
theorem Mem.nil : Mem [] [] := ⟨List.nodup_nil, fun _ => Iff.rfl, Nat.le_refl _⟩
theorem Mem.add {S acc : List Str} (h : Mem S acc) (c : Str) : Mem (addS S c) (acc ++ [c]) := by
  unfold addS
  split
  · rename_i q
    refine ⟨h.nd, fun k => ?_, by rw [List.length_append]; have := h.few; omega⟩
    rw [List.mem_append, List.mem_singleton, ← h.mem]
    exact ⟨.inl, fun z => z.elim id fun e => e ▸ q⟩
  · rename_i q
    refine ⟨List.nodup_cons.mpr ⟨q, h.nd⟩, fun k => ?_, by simp; exact h.few⟩
    rw [List.mem_append, List.mem_singleton, ← h.mem, List.mem_cons]
    exact Or.comm
theorem Mem.perm {S acc : List Str} (h : Mem S acc) : S.Perm (ddp acc) := perm_of_nodup h.nd (nodup_ddp _) fun k => (h.mem k).trans mem_ddp.symm
end Q
set_option Elab.async false
set_option linter.all false
set_option maxRecDepth 100000
set_option maxHeartbeats 4000000
namespace My
open PySem PySem.Spec PyProof.Rows L2
end My
set_option Elab.async false
set_option linter.all false
set_option maxRecDepth 100000
set_option maxHeartbeats 4000000
set_option Elab.async false
set_option linter.all false
set_option maxRecDepth 100000
set_option maxHeartbeats 4000000
namespace Q
open PySem PySem.Spec PyProof.Rows L2 My
def dle : D → D → Bool := PySem.W.dataLe false D.py
def dsort (ds : List D) : List D := ds.mergeSort dle
/-- what can be sorted -/
structure SrtOk (ys : List D) : Prop where
  pr : D.prs ys = true
  al : PySem.W.AllAlike (ys.map D.py)
  so : PySem.W.Sortable (ys.map D.py)
  dp : ∀ y ∈ ys, y.py.depth ≤ 50
def rdSortD (ds : List D) (M : Mp) (Q : KD) : Prop := ∃ x ys, ds = [x] ∧ look M x = .lst ys ∧ SrtOk ys ∧ Q (.lst (dsort ys)) M
theorem each_vals {α : Type} {R : Value → α → Prop} : ∀ {us : List Value} {bs : List α} {f : α → V}, PySem.W.EachIs R us bs → (∀ u b, R u b → RelV (f b) u) → Vals (bs.map f) us
  | _, _, _, .nil, _ => .nil
  | _, _, _, .cons h t, k => .cons (k _ _ h) (each_vals t k)
section
variable {X : Cx}
theorem each_of {pins : List (Addr × Obj)} {s : Shared} {σ : L2.St} {H : Hp} {g : Gh} {M : Mp} (hs : ∃ mm, X.base.Ns sysModules mm) (I : Inv X pins σ H s) (w : WR X.K g M H) : ∀ {xs : List V} {us : List Value} {ys : List D}, HasL X.K g xs ys → Vals xs us → D.prs ys = true →
    PySem.W.EachIs (fun u (b : V × D) => RelV b.1 u ∧ ∃ as, Reads s.heap u b.2.py as) us (xs.zip ys)
  | _, _, _, .nil, .nil, _ => .nil
  | _, _, _, .cons a b, .cons r t, h => by
    simp only [D.prs, Bool.and_eq_true] at h
    obtain ⟨as, q, _⟩ := Dx.reads I hs (Has.dx w.sub a h.1) r
    exact .cons ⟨r, as, q⟩ (each_of hs I w b t h.2)
theorem has_zip {K : PySem.W.Frag} {g : Gh} : ∀ {xs : List V} {ys : List D}, HasL K g xs ys → ∀ b ∈ xs.zip ys, Has K g b.1 b.2
  | _, _, .nil, _, h => nomatch h
  | _, _, .cons a t, b, h => by
    rcases List.mem_cons.mp h with rfl | h
    · exact a
    · exact has_zip t b h
theorem hasL_of {K : PySem.W.Frag} {g : Gh} : ∀ {bs : List (V × D)}, (∀ b ∈ bs, Has K g b.1 b.2) → HasL K g (bs.map (·.1)) (bs.map (·.2))
  | [], _ => .nil
  | b :: bs, h => .cons (h b List.mem_cons_self) (hasL_of fun c hc => h c (List.mem_cons_of_mem _ hc))
theorem each_map {α β γ : Type} {R : α → γ → Prop} {f : β → γ} : ∀ {as : List α} {bs : List β}, PySem.W.EachIs (fun a b => R a (f b)) as bs → PySem.W.EachIs R as (bs.map f)
  | _, _, .nil => .nil
  | _, _, .cons h t => .cons h (each_map t)
theorem d_sortD (hu : X.A.units + 200 < cLine) (hs : ∃ mm, X.base.Ns sysModules mm) : DON X (.builtin "sorted") rdSortD := by
  refine ⟨fun ds M Q Q' k ⟨x, ys, h1, h2, h3, h4⟩ => ⟨x, ys, h1, h2, h3, k _ _ h4⟩, fun pins s σ H vs us Q I rv ⟨g, M, ds, w, hx, x, ys, h1, h2, h3, h4⟩ => ?_⟩
  subst h1
  obtain ⟨v, rfl, hv⟩ := has1 hx
  obtain ⟨p, xs, rfl, k1, k2⟩ := w.seeL hv h2
  rw [Vals.ref1 rv]
  obtain ⟨its, r, pl, hz⟩ := I.list (SqL.of k1)
  have ev := each_of hs I w k2 r h3.pr
  have hl : xs.length = ys.length := k2.length
  have em : (xs.zip ys).map (·.2) = ys := List.map_snd_zip (by omega)
  have ep : ys.map D.py = (xs.zip ys).map fun b => b.2.py := by
    conv => lhs; rw [← em]
    rw [List.map_map]
    rfl
  have hL : its.length ≤ sizeLine := by rw [← r.length]; exact hz
  have reads : ∀ {h' : Heap}, (∀ b o, s.heap.get? b = some o → h'.get? b = some o) → PySem.W.EachIs (fun v d => ∃ as, Reads h' v d as) its (ys.map D.py) := fun {h'} kp => by
    rw [ep]
    exact each_map ((each_of hs (I.kept (t' := s.toks) kp) w k2 r h3.pr).mono fun u b q => q.2)
  refine PySem.W.sorted_vals pl.isList (PySem.W.SortsAt.data (reads fun b o e => PySem.W.sorting_copy_old e) h3.al h3.so fun d hd => ?_) hL ?_
  · obtain ⟨y, hy, rfl⟩ := List.mem_map.mp hd
    have := h3.dp y hy
    show X.A.units + 1 + 1 + _ < _
    omega
  · have ko : PySem.W.KeyedOut false ((xs.zip ys).map fun b => b.2.py) its (PySem.W.sortVals (PySem.W.dataKind (PySem.W.sortingHeap (PySem.W.copyHeap s.heap its) (s.heap.objs.size + 1) its) (ys.map D.py)) false its its) :=
      ⟨_, its, ep ▸ h3.al, by rw [← ep], by rw [← ep]; exact reads fun b o e => PySem.W.sorting_copy_old e⟩
    have eo := PySem.W.keyedOut_each (fun b : V × D => b.2.py) ko ev
    generalize PySem.W.sortVals (PySem.W.dataKind (PySem.W.sortingHeap (PySem.W.copyHeap s.heap its) (s.heap.objs.size + 1) its) (ys.map D.py)) false its its = out at eo ⊢
    generalize hbs : (xs.zip ys).mergeSort (PySem.W.dataLe false fun b : V × D => b.2.py) = bs at eo
    have pb : bs.Perm (xs.zip ys) := hbs ▸ List.mergeSort_perm _ _
    have es : bs.map (·.2) = dsort ys := by
      rw [← hbs]
      unfold dsort
      conv => rhs; rw [← em]
      refine List.map_mergeSort fun a _ b _ => ?_
      rfl
    have hh : HasL X.K g (bs.map (·.1)) (dsort ys) := by
      rw [← es]
      exact hasL_of fun b hb => has_zip k2 b (pb.mem_iff.mp hb)
    have rvo : Vals (bs.map (·.1)) out := each_vals eo fun u b q => q.1
    obtain ⟨ec, he⟩ := sortedAll_at s.heap its out.toArray
    have hn : H (s.heap.objs.size + 1) = none := I.hok.fresh (Nat.le_succ _)
    have hlen : (bs.map (·.1)).length ≤ sizeLine := by
      rw [List.length_map, pb.length_eq, List.length_zip]
      omega
    exact ⟨.ref _, upd H (s.heap.objs.size + 1) (.lst (bs.map (·.1))), I.laid (t' := s.toks) (fun _ _ => sortedAll_old) (Nat.le_succ _) ⟨hlen, out, ec, rvo, he⟩, rfl, lk_new h4 w hn (has_lst hh (w.hsn hn))⟩
end
end Q
set_option Elab.async false
set_option linter.all false
set_option maxRecDepth 100000
set_option maxHeartbeats 4000000
namespace Q
open PySem PySem.Spec PyProof.Rows L2 My
theorem cutD_from {ds : List D} {i : Int} (h : 0 ≤ i) : cutD ds (some i) none = ds.drop i.toNat := by
  unfold cutD HT.sIx
  simp only [if_neg (show ¬ i < 0 by omega)]
  rw [List.take_of_length_le (by simp)]
  by_cases q : i.toNat ≤ ds.length
  · rw [Nat.min_eq_left q]
  · rw [Nat.min_eq_right (by omega), List.drop_of_length_le (Nat.le_refl _), List.drop_of_length_le (by omega)]
theorem cutD_to {ds : List D} {i : Int} (h : 0 ≤ i) : cutD ds none (some i) = ds.take i.toNat := by
  unfold cutD HT.sIx
  simp only [if_neg (show ¬ i < 0 by omega), List.drop_zero, Nat.sub_zero]
  by_cases q : i.toNat ≤ ds.length
  · rw [Nat.min_eq_left q]
  · rw [Nat.min_eq_right (by omega), List.take_of_length_le (Nat.le_refl _), List.take_of_length_le (by omega)]
theorem cutS_from {z : Str} {i : Int} (h : 0 ≤ i) : cutS z (some i) none = ⟨(z.cps.toList.drop i.toNat).toArray⟩ := by
  have hl : z.cps.toList.length = z.length := by simp [Str.length]
  unfold cutS HT.sIx
  simp only [if_neg (show ¬ i < 0 by omega)]
  rw [List.take_of_length_le (by simp [hl])]
  by_cases q : i.toNat ≤ z.length
  · rw [Nat.min_eq_left q]
  · rw [Nat.min_eq_right (by omega), List.drop_of_length_le (by omega), List.drop_of_length_le (by omega)]
theorem cutS_to {z : Str} {i : Int} (h : 0 ≤ i) : cutS z none (some i) = ⟨(z.cps.toList.take i.toNat).toArray⟩ := by
  have hl : z.cps.toList.length = z.length := by simp [Str.length]
  unfold cutS HT.sIx
  simp only [if_neg (show ¬ i < 0 by omega), List.drop_zero, Nat.sub_zero]
  by_cases q : i.toNat ≤ z.length
  · rw [Nat.min_eq_left q]
  · rw [Nat.min_eq_right (by omega), List.take_of_length_le (by omega), List.take_of_length_le (by omega)]
theorem atI_at {α : Type} {l : List α} {v : Int} (h0 : 0 ≤ v) (h1 : v.toNat < l.length) : atI l v = some l[v.toNat] := by
  have := atI_nat (List.getElem?_eq_getElem h1)
  rwa [Int.toNat_of_nonneg h0] at this
def nameS (s : Str) : Bool := decide (1 ≤ s.length) && (decide (s.length ≤ 8) && s.cps.toList.all fun c => decide (97 ≤ c ∧ c < 123))
def Name (s : Str) : Prop := nameS s = true
theorem Name.of {cs : List Nat} (h1 : 1 ≤ cs.length) (h2 : cs.length ≤ 8) (h : ∀ c ∈ cs, 97 ≤ c ∧ c < 123) : Name ⟨cs.toArray⟩ := by
  unfold Name nameS
  simp only [Bool.and_eq_true, decide_eq_true_eq, List.all_eq_true]
  exact ⟨by simpa [Str.length] using h1, by simpa [Str.length] using h2, fun c hc => h c (by simpa using hc)⟩
theorem Name.len {s : Str} (h : Name s) : 1 ≤ s.length ∧ s.length ≤ 8 := by
  unfold Name nameS at h
  simp only [Bool.and_eq_true, decide_eq_true_eq] at h
  exact ⟨h.1, h.2.1⟩
theorem Name.let {s : Str} (h : Name s) : ∀ c ∈ s.cps.toList, 97 ≤ c ∧ c < 123 := by
  unfold Name nameS at h
  simp only [Bool.and_eq_true, decide_eq_true_eq, List.all_eq_true] at h
  exact h.2.2
def sts (ss : List Str) : List D := ss.map .str
theorem strsD_sts (ss : List Str) : strsD (sts ss) = some ss := strsD_map ss
theorem len_sts (ss : List Str) : (sts ss).length = ss.length := List.length_map ..
/-- some different names -/
structure Names (ss : List Str) : Prop where
  nd : ss.Nodup
  ok : ∀ s ∈ ss, Name s
theorem Names.take {ss : List Str} (h : Names ss) (n : Nat) : Names (ss.take n) := ⟨h.nd.sublist (List.take_sublist n ss), fun s hs => h.ok s (List.mem_of_mem_take hs)⟩
theorem Names.perm {ss ts : List Str} (h : Names ss) (p : ts.Perm ss) : Names ts := ⟨p.nodup_iff.mpr h.nd, fun s hs => h.ok s (p.mem_iff.mp hs)⟩
def lettersL : Str := "abcdefghijklmnopqrstuvwxyz"
theorem letters_at : ∀ j : Fin 26, lettersL.cps.toList[j.val]? = some (97 + j.val) := by decide +kernel
theorem letter_at {i : Int} (h0 : 0 ≤ i) (h1 : i < 26) : atI lettersL.cps.toList i = some (97 + i.toNat) := by
  have h2 : i.toNat < 26 := by omega
  have := atI_nat (letters_at ⟨i.toNat, h2⟩)
  rwa [Int.toNat_of_nonneg h0] at this
def wordsL : List Str := ["put", "take", "step", "back", "again", "log", "contents", "left", "live", "idle", "clean", "fewest", "count", "ring", "knot", "a", "b", "ab", "ba", "z"]
theorem words_split : Txt.split (("put take step back again log contents left live idle clean fewest count ring knot" : Str) ++ (" a b ab ba z" : Str)) " " = wordsL := by decide +kernel
theorem words_ok : Names wordsL := ⟨by decide +kernel, by
  have : wordsL.all nameS = true := by decide +kernel
  exact fun s hs => List.all_eq_true.mp this s hs⟩
theorem words_turn (t n : Nat) (ht : t ≤ 20) (hn : n ≤ 12) : Names ((wordsL.drop t ++ wordsL.take t).take n) ∧ ((wordsL.drop t ++ wordsL.take t).take n).length = n := by
  have p : (wordsL.drop t ++ wordsL.take t).Perm wordsL := by
    have := List.perm_append_comm (l₁ := wordsL.drop t) (l₂ := wordsL.take t)
    rwa [List.take_append_drop] at this
  refine ⟨(words_ok.perm p).take n, ?_⟩
  rw [List.length_take, p.length_eq]
  have : wordsL.length = 20 := rfl
  omega
/-- the letters told by way 1 and 2: the k-th -/
def letN (t k : Int) : Nat := 97 + ((t + 3 * k) % 26).toNat
theorem letN_inj {t : Int} {k l n : Nat} (hn : n ≤ 12) (hk : k < n) (hl : l < n) (h : letN t k = letN t l) : k = l := by
  unfold letN at h
  have h1 := Int.emod_nonneg (t + 3 * (k : Int)) (show (26 : Int) ≠ 0 by decide)
  have h2 := Int.emod_nonneg (t + 3 * (l : Int)) (show (26 : Int) ≠ 0 by decide)
  omega
theorem letN_let (t k : Int) : 97 ≤ letN t k ∧ letN t k < 123 := by
  unfold letN
  have h1 := Int.emod_nonneg (t + 3 * k) (show (26 : Int) ≠ 0 by decide)
  have h2 := Int.emod_lt_of_pos (t + 3 * k) (show (0 : Int) < 26 by decide)
  omega
def nearS (ps qs : List Nat) (t : Int) (k : Nat) : Str := ⟨(ps ++ letN t k :: qs).toArray⟩
theorem near_names {ps qs : List Nat} {t : Int} {n : Nat} (hn : n ≤ 12) (hl : ps.length + qs.length ≤ 7) (hp : ∀ c ∈ ps ++ qs, 97 ≤ c ∧ c < 123) : Names ((List.range n).map (nearS ps qs t)) := by
  refine ⟨?_, fun s hs => ?_⟩
  · unfold List.Nodup
    rw [List.pairwise_map]
    refine List.Pairwise.imp_of_mem ?_ (List.nodup_range (n := n))
    intro k l hk hl' hne e
    unfold nearS at e
    have e2 : ps ++ letN t k :: qs = ps ++ letN t l :: qs := List.toArray_inj (congrArg Str.cps e)
    have e3 := List.append_cancel_left e2
    exact hne (letN_inj hn (List.mem_range.mp hk) (List.mem_range.mp hl') (List.cons.inj e3).1)
  · obtain ⟨k, hk, rfl⟩ := List.mem_map.mp hs
    refine Name.of (by simp; omega) (by simp; omega) fun c hc => ?_
    rcases List.mem_append.mp hc with h | h
    · exact hp c (List.mem_append_left _ h)
    · rcases List.mem_cons.mp h with h | h
      · rw [h]; exact letN_let t k
      · exact hp c (List.mem_append_right _ h)
theorem append_str (a b : List Nat) : (⟨a.toArray⟩ : Str) ++ (⟨b.toArray⟩ : Str) = ⟨(a ++ b).toArray⟩ := by
  show (⟨a.toArray ++ b.toArray⟩ : Str) = _
  simp
def chS (c : Nat) : Str := ⟨#[c]⟩
theorem empty_str : ("" : Str) = ⟨([] : List Nat).toArray⟩ := by decide +kernel
theorem join_signs' : ∀ cs : List Nat, Str.join "" (cs.map chS) = ⟨cs.toArray⟩
  | [] => by decide +kernel
  | [c] => rfl
  | c :: d :: r => by
    show chS c ++ ("" : Str) ++ Str.join "" ((d :: r).map chS) = _
    rw [join_signs' (d :: r), empty_str]
    show (⟨[c].toArray⟩ : Str) ++ (⟨([] : List Nat).toArray⟩ : Str) ++ (⟨(d :: r).toArray⟩ : Str) = _
    rw [append_str, append_str]
    rfl
theorem join_signs (cs : List Nat) : Txt.join "" (cs.map chS) = ⟨cs.toArray⟩ := (TL.join_eq _ _).trans (join_signs' cs)
theorem sum_chS (cs : List Nat) : ((cs.map chS).map (·.length)).sum = cs.length := by
  induction cs with
  | nil => rfl
  | cons c r ih =>
    rw [List.map_cons, List.map_cons, List.sum_cons, ih, List.length_cons]
    show 1 + r.length = _
    omega
theorem strsD_chS (cs : List Nat) : strsD (cs.map fun c => .str (chS c)) = some (cs.map chS) := by
  have := strsD_map (cs.map chS)
  rwa [List.map_map] at this
theorem ifx {b : Bool} {A B : Prop} (h : b = true → A) (k : b = false → B) : if b = true then A else B := by
  cases b with
  | true => exact h rfl
  | false => exact k rfl
/-- the same, of a decided sentence, plain or turned -/
theorem ifd {p : Prop} [Decidable p] {A B : Prop} (h : p → A) (k : ¬ p → B) : if (false ^^ decide p) = true then A else B := by
  by_cases q : p
  · rw [if_pos (by simp [q])]; exact h q
  · rw [if_neg (by simp [q])]; exact k q
theorem ifn {p : Prop} [Decidable p] {A B : Prop} (h : ¬ p → A) (k : p → B) : if (true ^^ decide p) = true then A else B := by
  by_cases q : p
  · rw [if_neg (by simp [q])]; exact k q
  · rw [if_pos (by simp [q])]; exact h q
theorem ifc {p : Prop} [Decidable p] {A B : Prop} (h : p → A) (k : ¬ p → B) : if decide p = true then A else B := by
  by_cases q : p
  · rw [if_pos (by simp [q])]; exact h q
  · rw [if_neg (by simp [q])]; exact k q
theorem line_le {n : Nat} (h : n ≤ 1000000) : n ≤ sizeLine := by rw [sizeLine_eq]; omega
theorem rng_len {n : Nat} (h : n ≤ 1000000) : ((List.range n).map fun (i : Nat) => D.int i).length ≤ sizeLine := by
  rw [List.length_map, List.length_range]; exact line_le h
theorem str_len (cs : List Nat) : (⟨cs.toArray⟩ : Str).length = cs.length := by simp [Str.length]
/-- a comprehension over range(n), each part told -/
theorem lcGo_rng {g : WG} {te : WE} {ρ : List (Option D)} {Q : List D → Mp → Prop} {M : Mp} (f : Nat → D) (n : Nat) (h : ∀ (i : Nat) (k : D → Mp → Prop), i < n → k (f i) M → g (.int i) ⟨ρ, M⟩ fun z2 => te z2 fun y z4 => k y z4.M)
    (hQ : Q ((List.range n).map f) M) : lcGo g wYes te ρ Q ((List.range n).map fun (i : Nat) => .int i) [] M := by
  have key : ∀ (m : Nat), m ≤ n → lcGo g wYes te ρ Q (((List.range n).drop (n - m)).map fun (i : Nat) => .int i) (((List.range n).take (n - m)).map f) M := by
    intro m
    induction m with
    | zero =>
      intro _
      rw [Nat.sub_zero, List.drop_of_length_le (by simp), List.take_of_length_le (by simp)]
      exact hQ
    | succ m ih =>
      intro hm
      have hl : n - (m + 1) < (List.range n).length := by simp; omega
      rw [List.drop_eq_getElem_cons hl, List.getElem_range]
      have ih := ih (by omega)
      rw [show n - m = n - (m + 1) + 1 by omega, List.take_succ_eq_append_getElem hl, List.getElem_range, List.map_append] at ih
      exact h _ (fun y M' => lcGo g wYes te ρ Q (((List.range n).drop (n - (m + 1) + 1)).map fun (i : Nat) => .int i) (((List.range n).take (n - (m + 1))).map f ++ [y]) M') (by omega) ih
  have := key n (Nat.le_refl _)
  rw [Nat.sub_self] at this
  exact this
end Q
set_option Elab.async false
set_option linter.all false
set_option maxRecDepth 100000
set_option maxHeartbeats 4000000
namespace Q
open PySem PySem.Spec PyProof.Rows L2 My
def Mle (M M' : Mp) : Prop := ∀ a mo, M a = some mo → M' a = some mo
theorem Mle.refl (M : Mp) : Mle M M := fun _ _ h => h
theorem Mle.trans {M M' M'' : Mp} (h : Mle M M') (k : Mle M' M'') : Mle M M'' := fun a mo q => k a mo (h a mo q)
theorem Mle.free {M M' : Mp} {p : Addr} (h : Mle M M') (hp : M' p = none) : M p = none := by
  cases q : M p with
  | none => rfl
  | some mo => rw [h p mo q] at hp; cases hp
theorem Mle.put {M M' : Mp} {p : Addr} {o : Option MO} (h : Mle M M') (hp : M p = none) : Mle M (mupd M' p o) := fun a mo q => by
  rw [mupd_ne (fun e => by subst e; rw [hp] at q; cases q)]
  exact h a mo q
theorem ne_free {M : Mp} {p r : Addr} {mo : MO} (h : M p = some mo) (hr : M r = none) : p ≠ r := fun e => by subst e; rw [h] at hr; cases hr
theorem at_put {M : Mp} {p r : Addr} {mo : MO} {o : Option MO} (h : M p = some mo) (hr : M r = none) : mupd M r o p = some mo := by rw [mupd_ne (ne_free h hr)]; exact h
theorem WR.weak {K : PySem.W.Frag} {g : Gh} {M M' : Mp} {H : Hp} (w : WR K g M' H) (h : Mle M M') : WR K g M H := by
  refine ⟨w.sub, w.frm, fun a mo q => w.muts a mo (h a mo q), fun B q => ?_⟩
  obtain ⟨h1, h2, h3, h4, h5⟩ := w.bag B q
  exact ⟨h1, h2, h3, h.free h4, h5⟩
def enW (Q : KD) : En := ⟨fun z => ∃ M', Mle M' z.M ∧ Q .non M', fun d M => ∃ M', Mle M' M ∧ Q d M', fun _ => False, fun _ => False⟩
theorem qfw {P : Program} {w : World} {K : PySem.W.Frag} {mg : Str → Option Value} {base : Heap} {k : Nat} {f : Addr} {fd : FuncData} {ps N : List Str} {x qual : Str} {st : Stmt} {den : Den} {wb : WS} (F : Fun K x qual st f fd) (S : FnScope N ps (defScope st)) (len : ∀ ds M Q, den ds M Q → ds.length = ps.length)
    (hw : ∀ (cdv : Value) (A : Around) (outer : List Env) (s : Shared) (H : Hp) (E : XK) (g0 : Gh), Room k (A.deeper (envOfC qual (defScope st) s.heap.objs.size f cdv)) → A.guards = some [] →
      QSs (cxOf CX0 P w K mg base N qual (defScope st) f cdv A outer s H E).nox g0 (defBody st) wb)
    (hd : ∀ ds M Q, den ds M Q → wb (enW Q) ⟨ini N.length ds, M⟩) :
    FnG P w K mg base CX0 (k + 1) f fd ps (spD K den) := by
  refine okG F S (fun vs H Q E ⟨g, M, ds, hw, ha, hd⟩ => ha.length.trans (len ds M _ hd)) fun cdv A outer s H vs Q E hr hg ⟨g, M, ds, hwr, ha, h⟩ => ?_
  refine ⟨_, (hw cdv A outer s H E g hr hg).run, g, ⟨ini N.length ds, M⟩, .refl g, ⟨hwr, SlOk.ini ha⟩, (hw cdv A outer s H E g hr hg).mono (enW (lk K g Q)) _ _ ⟨fun z ⟨M', l, h⟩ g' σ' H' e r => h .non g' H' e (r.wr.weak l) .non, fun d M ⟨M', l, h⟩ v g' H' e w a => h v g' H' e (w.weak l) a, fun z h => h.elim, fun z h => h.elim⟩ (hd ds M _ h)⟩
/-- the value at a name is shared from here on, a list that may change or not -/
def wFrzO (i : Nat) : WE := fun z Q => wFrz i z Q ∨ wVar i z Q
theorem qv_frzO {X : Cx} {g0 : Gh} (i : Nat) {x : Str} {pos : Pos} (hN : X.N[i]? = some x := by rfl) (hv : Vis X.env.scope x := by first | exact Or.inl rfl | exact Or.inr (Or.inl rfl) | exact Or.inr (Or.inr rfl)) (hd : (x == ("__debug__" : Str)) = false := by decide)
    (hcd : (x == ("__classdict__" : Str)) = false := by decide) : QE X g0 (.Name x pos) (wFrzO i) := by
  have a := qv_frz (X := X) (g0 := g0) i (pos := pos) hN hv hd hcd
  have b := qv (X := X) (g0 := g0) i (pos := pos) hN hv hd hcd
  refine ⟨fun z Q Q' k h => h.elim (fun h => .inl (a.mono _ _ _ k h)) fun h => .inr (b.mono _ _ _ k h), ⟨fun pins s σ H Q I ⟨g, z, l0, r, h⟩ => ?_⟩⟩
  rcases h with h | h
  · exact a.run.run pins s σ H Q I ⟨g, z, l0, r, h⟩
  · exact b.run.run pins s σ H Q I ⟨g, z, l0, r, h⟩
theorem qgo_two {X : Cx} {vs : List Nat} {pos : Pos} (K : PySem.W.Frag) {i j : Nat} {x y : Str} {p1 p2 : Pos} {k : Nat} (hN : X.N.Nodup) (hK : X.K = K := by rfl) (hc : X.calm = true := by rfl) (hm : i ∈ vs := by decide) (hm2 : j ∈ vs := by decide) (hi : X.N[i]? = some x := by rfl) (hj : X.N[j]? = some y := by rfl)
    (hx : Loc X.env.scope x := by first | exact Or.inl rfl | exact Or.inr rfl) (hf : X.fn x = true ∨ X.env.scope.names.lookup x = some .local := by first | exact .inl rfl | exact .inr rfl | assumption)
    (hy : Loc X.env.scope y := by first | exact Or.inl rfl | exact Or.inr rfl) (hf2 : X.fn y = true ∨ X.env.scope.names.lookup y = some .local := by first | exact .inl rfl | exact .inr rfl | assumption)
    (hs : (assignEach [.Name x p1, .Name y p2] X.env).map (·.2) = assign (.Name x p1) X.env :: (assignEach [.Name y p2] X.env).map (·.2) := by rfl)
    (hs2 : (assignEach [.Name y p2] X.env).map (·.2) = assign (.Name y p2) X.env :: (assignEach [] X.env).map (·.2) := by rfl)
    (hn : (assignEach [.Name x p1, .Name y p2] X.env).length = 2 := by rfl) (hst : (assignEach [.Name x p1, .Name y p2] X.env).findIdx? (·.1) = none := by rfl) :
    QGo X vs (.Tuple [.Name x p1, .Name y p2] k pos) (L2.gTup K 2 (gCons (gName i) (gCons (gName j) gNil))) (gTup 2 (gT1 (gN i) (gT1 (gN j) gT0))) := by
  subst hK
  exact qgo_tup2 hc hN hm hm2 hi hj hx hf hy hf2 hs hs2 hn hst
abbrev Wb := List (Str × List Str)
def webD (w : Wb) : List (Key × D) := w.map fun p => (.inr p.1, .tup (sts p.2))
structure WebOk (w : Wb) : Prop where
  nm : Names (w.map (·.1))
  cols : ∃ L : List Str, L.length ≤ 8 ∧ Names L ∧ ∀ p ∈ w, ∀ c ∈ p.2, c ∈ L
  srt : ∀ p ∈ w, sset p.2 = p.2
def den_l_web : Den := fun ds M Q => ∃ n : Nat, ds = [.bag, .int n] ∧ 1 ≤ n ∧ n ≤ 6 ∧ ∀ w : Wb, WebOk w → 1 ≤ w.length → w.length ≤ n → Q (.dct (webD w)) M
theorem mo_l_web : MonoD den_l_web := fun ds M Q Q' k ⟨n, h1, h2, h3, h4⟩ => ⟨n, h1, h2, h3, fun l p q r => k _ _ (h4 l p q r)⟩
theorem ln_l_web : ∀ ds M Q, den_l_web ds M Q → ds.length = 2 := fun ds M Q ⟨ls, h1, _⟩ => by rw [h1]; rfl
def den_l_names : Den := fun ds M Q => ∃ n : Nat, ds = [.bag, .int n] ∧ n ≤ 12 ∧ ∀ ss : List Str, ss.length = n → Names ss → Q (.lst (sts ss)) M
theorem mo_l_names : MonoD den_l_names := fun ds M Q Q' k ⟨n, h1, h2, h3⟩ => ⟨n, h1, h2, fun l p q => k _ _ (h3 l p q)⟩
theorem ln_l_names : ∀ ds M Q, den_l_names ds M Q → ds.length = 2 := fun ds M Q ⟨ls, h1, _⟩ => by rw [h1]; rfl
end Q
set_option Elab.async false
set_option linter.all false
set_option maxRecDepth 100000
set_option maxHeartbeats 4000000
namespace Q
open PySem PySem.Spec PyProof.Rows L2 My
theorem seq_cut {w u : WS} {E : En} {z : Z} (P : Z → Prop) (h1 : ∀ k : Z → Prop, (∀ z, P z → k z) → w { E with nx := k } z) (h2 : ∀ z, P z → u E z) : wSeq w u E z := h1 (u E) h2
theorem wLoop_rng {g : WG} {b : WS} {E : En} (n : Nat) (I : Nat → Z → Prop) (step : ∀ i, i < n → ∀ (k : Z → Prop) z, I i z → (∀ z, I (i + 1) z → k z) → g (.int i) z fun z1 => b { E with nx := k, ct := k, bk := E.nx } z1)
    (done : ∀ z, I n z → E.nx z) (z : Z) (h : I 0 z) : wLoop g b E ((List.range n).map fun (i : Nat) => .int i) z := by
  have key : ∀ m, m ≤ n → ∀ z, I (n - m) z → wLoop g b E (((List.range n).drop (n - m)).map fun (i : Nat) => .int i) z := by
    intro m
    induction m with
    | zero =>
      intro _ z hz
      rw [Nat.sub_zero] at hz ⊢
      rw [List.drop_of_length_le (by simp)]
      exact done z hz
    | succ m ih =>
      intro hm z hz
      have hl : n - (m + 1) < (List.range n).length := by simp; omega
      rw [List.drop_eq_getElem_cons hl, List.getElem_range]
      refine step _ (by omega) _ z hz fun z' hz' => ?_
      have e : n - (m + 1) + 1 = n - m := by omega
      rw [e] at hz' ⊢
      exact ih (by omega) z' hz'
  have := key n (Nat.le_refl _) z (by rw [Nat.sub_self]; exact h)
  rw [Nat.sub_self] at this
  exact this
/-- [x for x in xs if ..]: some of them, in order -/
theorem lcGo_sub {g : WG} {tt : WT} {te : WE} {ρ : List (Option D)} {Q : List D → Mp → Prop} {M : Mp} (xs : List Str)
    (h : ∀ x acc (k : List D → Mp → Prop), k (acc ++ [.str x]) M → k acc M → g (.str x) ⟨ρ, M⟩ fun z2 => tt z2 fun b z3 => if b = true then te z3 fun y z4 => k (acc ++ [y]) z4.M else k acc z3.M)
    (hQ : ∀ ss : List Str, ss.Sublist xs → Q (sts ss) M) : lcGo g tt te ρ Q (sts xs) [] M := by
  have key : ∀ (ys pre : List Str) (ss : List Str), pre ++ ys = xs → ss.Sublist pre → lcGo g tt te ρ Q (sts ys) (sts ss) M := by
    intro ys
    induction ys with
    | nil =>
      intro pre ss e hs
      rw [List.append_nil] at e
      subst e
      exact hQ ss hs
    | cons y ys ih =>
      intro pre ss e hs
      have e' : pre ++ [y] ++ ys = xs := by rw [← e]; simp
      refine h y _ _ ?_ (ih (pre ++ [y]) ss e' (hs.trans (List.sublist_append_left _ _)))
      have := ih (pre ++ [y]) (ss ++ [y]) e' (hs.append (List.Sublist.refl _))
      unfold sts at this ⊢
      rw [List.map_append] at this
      exact this
  exact key xs [] [] rfl (List.Sublist.refl _)
/-- .. in which each is kept or not by what it is -/
theorem lcGo_flt {g : WG} {tt : WT} {te : WE} {ρ : List (Option D)} {Q : List D → Mp → Prop} {M : Mp} (f : D → Bool) (y : D → D) (xs : List D)
    (h : ∀ x acc (k : List D → Mp → Prop), x ∈ xs → (if f x = true then k (acc ++ [y x]) M else k acc M) → g x ⟨ρ, M⟩ fun z2 => tt z2 fun b z3 => if b = true then te z3 fun y z4 => k (acc ++ [y]) z4.M else k acc z3.M)
    (hQ : Q ((xs.filter f).map y) M) : lcGo g tt te ρ Q xs [] M := by
  have key : ∀ (ys pre : List D), pre ++ ys = xs → lcGo g tt te ρ Q ys ((pre.filter f).map y) M := by
    intro ys
    induction ys with
    | nil =>
      intro pre e
      rw [List.append_nil] at e
      subst e
      exact hQ
    | cons d ys ih =>
      intro pre e
      have e' : pre ++ [d] ++ ys = xs := by rw [← e]; simp
      refine h d _ _ (by rw [← e]; simp) ?_
      have := ih (pre ++ [d]) e'
      rw [List.filter_append] at this
      by_cases q : f d = true
      · rw [if_pos q]
        rw [List.filter_cons_of_pos q] at this
        simpa using this
      · rw [if_neg q]
        rw [List.filter_cons_of_neg q] at this
        simpa using this
  exact key xs [] rfl
theorem putD_new {kvs : List (Key × D)} {k : Key} {v : D} (h : k ∉ kvs.map (·.1)) : putD kvs k v = kvs ++ [(k, v)] := by
  unfold putD
  rw [if_neg]
  intro q
  obtain ⟨p, hp, e⟩ := List.any_eq_true.mp q
  exact h (List.mem_map.mpr ⟨p, hp, of_decide_eq_true e⟩)
theorem mergeD_new : ∀ {more kvs : List (Key × D)}, ((kvs ++ more).map (·.1)).Nodup → mergeD kvs more = kvs ++ more
  | [], kvs, _ => by simp [mergeD]
  | (k, v) :: more, kvs, h => by
    show mergeD (putD kvs k v) more = _
    have hk : k ∉ kvs.map (·.1) := by
      rw [List.map_append, List.nodup_append] at h
      intro q
      exact h.2.2 k q k (by simp) rfl
    rw [putD_new hk, mergeD_new (by simpa using h)]
    simp
theorem sts_at {ss : List Str} {v : Int} (h0 : 0 ≤ v) (h1 : v < ss.length) : ∃ c, atI (sts ss) v = some (.str c) ∧ c ∈ ss := by
  have h2 : v.toNat < (sts ss).length := by rw [len_sts]; omega
  have h3 : v.toNat < ss.length := by omega
  refine ⟨ss[v.toNat], ?_, List.getElem_mem h3⟩
  rw [atI_at h0 h2]
  simp [sts]
theorem sts_take (ss : List Str) (n : Nat) : (sts ss).take n = sts (ss.take n) := by simp [sts, List.map_take]
theorem sts_drop (ss : List Str) (n : Nat) : (sts ss).drop n = sts (ss.drop n) := by simp [sts, List.map_drop]
theorem sts_app (ss ts : List Str) : sts ss ++ sts ts = sts (ss ++ ts) := by simp [sts]
structure WebAt (M : Mp) (p1 p2 : Addr) (L : List Str) (i : Nat) (sets : List (List Str)) (free : List Str) (M' : Mp) : Prop where
  ne : p1 ≠ p2
  f1 : M p1 = none
  f2 : M p2 = none
  h1 : M' p1 = some (.lst (sets.map fun s => .lst (sts s)))
  h2 : M' p2 = some (.lst (sts free))
  le : Mle M M'
  len : sets.length = i
  sub : ∀ s ∈ sets, s.length ≤ 4 + 2 * i ∧ ∀ c ∈ s, c ∈ L
  fr : free.length ≤ 4 ∧ ∀ c ∈ free, c ∈ L
/-- the list that is made: it may change, or not -/
def SomeAt (M M' : Mp) (p1 p2 : Addr) (d : D) (ss : List Str) : Prop := (∃ p, d = .ref p ∧ M' p = some (.lst (sts ss)) ∧ p ≠ p1 ∧ p ≠ p2 ∧ M p = none) ∨ d = .lst (sts ss)
section
variable {M M' : Mp} {p1 p2 p : Addr} {L : List Str} {i : Nat} {sets : List (List Str)} {free : List Str} {d : D} {ss : List Str}
theorem SomeAt.look (h : SomeAt M M' p1 p2 d ss) : look M' d = .lst (sts ss) := by
  rcases h with ⟨p, rfl, h, _⟩ | rfl
  · exact lkL h
  · rfl
theorem WebAt.new (h : WebAt M p1 p2 L i sets free M') (hp : M' p = none) (o : Option MO) : WebAt M p1 p2 L i sets free (mupd M' p o) :=
  ⟨h.ne, h.f1, h.f2, at_put h.h1 hp, at_put h.h2 hp, h.le.put (h.le.free hp), h.len, h.sub, h.fr⟩
theorem WebAt.some (h : WebAt M p1 p2 L i sets free M') (hp : M' p = none) : SomeAt M (mupd M' p (some (.lst (sts ss)))) p1 p2 (.ref p) ss :=
  .inl ⟨p, rfl, mupd_same, Ne.symm (ne_free h.h1 hp), Ne.symm (ne_free h.h2 hp), h.le.free hp⟩
/-- a change of the list that is made -/
theorem WebAt.put (h : WebAt M p1 p2 L i sets free M') (n1 : p ≠ p1) (n2 : p ≠ p2) (hp : M p = none) (o : Option MO) : WebAt M p1 p2 L i sets free (mupd M' p o) :=
  ⟨h.ne, h.f1, h.f2, by rw [mupd_ne (Ne.symm n1)]; exact h.h1, by rw [mupd_ne (Ne.symm n2)]; exact h.h2, h.le.put hp, h.len, h.sub, h.fr⟩
end
def WebB (M : Mp) (p1 p2 : Addr) (n : Nat) (ns L : List Str) (way many : Int) (i : Nat) (z : Z) : Prop := ∃ dS d10 d11 d12 ss sets free M',
  z = ⟨[some .bag, some (.int n), some (.lst (sts ns)), some (.lst (sts L)), some (.int way), some (.int many), some (.ref p1), some (.ref p2), some (.int i), some dS, d10, d11, d12], M'⟩ ∧
  WebAt M p1 p2 L i sets free M' ∧ SomeAt M M' p1 p2 dS ss ∧ ss.length ≤ 6 + 2 * i ∧ ∀ c ∈ ss, c ∈ L
def WebI (M : Mp) (p1 p2 : Addr) (n : Nat) (ns L : List Str) (way many : Int) (i : Nat) (z : Z) : Prop := ∃ d8 d9 d10 d11 d12 sets free M',
  z = ⟨[some .bag, some (.int n), some (.lst (sts ns)), some (.lst (sts L)), some (.int way), some (.int many), some (.ref p1), some (.ref p2), d8, d9, d10, d11, d12], M'⟩ ∧
  WebAt M p1 p2 L i sets free M'
theorem lcGo_all {g : WG} {te : WE} {ρ : List (Option D)} {Q : List D → Mp → Prop} {M : Mp} (y : D → D) (xs : List D)
    (h : ∀ x acc (k : List D → Mp → Prop), x ∈ xs → k (acc ++ [y x]) M → g x ⟨ρ, M⟩ fun z2 => te z2 fun y z4 => k (acc ++ [y]) z4.M)
    (hQ : Q (xs.map y) M) : lcGo g wYes te ρ Q xs [] M := by
  refine lcGo_flt (fun _ => true) y xs (fun x acc k hx hk => ?_) (by rw [List.filter_eq_self.mpr (fun _ _ => rfl)]; exact hQ)
  rw [if_pos rfl] at hk
  exact h x acc k hx hk
theorem pop_sts {free : List Str} (h : free ≠ []) : fPop (sts free) [] = some (sts free.dropLast, .str (free.getLast h)) := by
  have e : (sts free)[(sts free).length - 1]? = some (.str (free.getLast h)) := by
    unfold sts
    rw [List.length_map, List.getElem?_map, ← List.getLast?_eq_getElem?, List.getLast?_eq_some_getLast h]
    rfl
  show ((sts free)[(sts free).length - 1]?).map _ = _
  rw [e]
  simp only [Option.map_some, sts, List.map_dropLast]
theorem zipD_sts (ns : List Str) (sets : List (List Str)) : zipD (sts ns) (sets.map fun s => .lst (sts s)) = (ns.zip sets).map fun p => .tup [.str p.1, .lst (sts p.2)] := by
  unfold zipD sts
  rw [List.zipWith_map, List.zip, List.map_zipWith]
def tidy : D → D
  | .tup [.str a, .lst ds] => .tup [.str a, .tup (sts (sset ((strsD ds).getD [])))]
  | d => d
theorem tidy_at (a : Str) (s : List Str) : tidy (.tup [.str a, .lst (sts s)]) = .tup [.str a, .tup (sts (sset s))] := by
  simp only [tidy, strsD_sts, Option.getD_some]
theorem pairs_web : ∀ w : Wb, pairsD (w.map fun p => .tup [.str p.1, .tup (sts p.2)]) = some (webD w)
  | [] => rfl
  | p :: w => by
    rw [List.map_cons]
    simp only [pairsD, keyOf, pairs_web w]
    rfl
theorem webD_keys (w : Wb) : (webD w).map (·.1) = (w.map (·.1)).map Sum.inr := by
  unfold webD
  rw [List.map_map, List.map_map]
  rfl
theorem webD_nodup {w : Wb} (h : (w.map (·.1)).Nodup) : ((webD w).map (·.1)).Nodup := by
  rw [webD_keys]
  exact List.Pairwise.map _ (fun a b hab e => hab (Sum.inr.inj e)) h
theorem sset_idem (s : List Str) : sset (sset s) = sset s := by
  show ssort (ddp (sset s)) = _
  rw [ddp_nodup (nodup_sset s)]
  exact ssort_of_perm (ssort_perm _)
theorem web_made {ns L : List Str} {sets : List (List Str)} (hn : Names ns) (hl : L.length = 8) (hL : Names L) (hs : ∀ s ∈ sets, ∀ c ∈ s, c ∈ L) : WebOk ((ns.zip sets).map fun p => (p.1, sset p.2)) := by
  refine ⟨?_, ⟨L, by omega, hL, fun p hp c hc => ?_⟩, fun p hp => ?_⟩
  · rw [List.map_map]
    have e : ((fun p => p.1) ∘ fun (p : Str × List Str) => (p.1, sset p.2)) = Prod.fst := rfl
    rw [e]
    have : ∀ (a : List Str) (b : List (List Str)), (a.zip b).map Prod.fst = a.take b.length := by
      intro a
      induction a with
      | nil => intro b; simp
      | cons x a ih =>
        intro b
        cases b with
        | nil => rfl
        | cons y b => simp [ih]
    rw [this]
    exact hn.take _
  · obtain ⟨r, hr, rfl⟩ := List.mem_map.mp hp
    exact hs r.2 (List.of_mem_zip hr).2 c (mem_sset.mp hc)
  · obtain ⟨r, hr, rfl⟩ := List.mem_map.mp hp
    exact sset_idem _
end Q
set_option Elab.async false
set_option linter.all false
set_option maxRecDepth 100000
set_option maxHeartbeats 4000000
namespace Q
open PySem PySem.Spec PyProof.Rows L2 My
section
variable {X : Cx} {g0 : Gh} {a b c : Expr} {wa wb wc : WE} {pos : Pos}
theorem chain_up {K : PySem.W.Frag} {r r' : R2} {rd rd' : D → D → Mp → KD → Prop} (l : Lf2 K r rd) (l' : Lf2 K r' rd') (ha : MonoE wa) (hb : MonoE wb) (hc : MonoE wc) {σ : L2.St} {H : Hp} {Q : VK} (h : upE K g0 (wChain rd rd' wa wb wc) σ H Q) :
    tChain r r' (upE K g0 wa) (upE K g0 wb) (upE K g0 wc) σ H Q := by
  obtain ⟨g, z, l0, rr, h⟩ := h
  refine ⟨g, z, l0, rr, ha _ _ _ (fun x z1 h1 v g1 H1 e1 r1 a1 => ⟨g1, z1, l0.trans e1, r1, hb _ _ _ (fun y z2 h2 u g2 H2 e2 r2 a2 => ?_) h1⟩) h⟩
  refine l.run g2 z2.M H2 v u x y _ r2.wr (a1.le e2) a2 (l.mono _ _ _ _ _ (fun d M ⟨c, e, q⟩ v' g3 H3 e3 w3 a3 => ?_) h2)
  subst e
  refine ⟨c, has_bl a3, ?_⟩
  have r3 := r2.le e3 w3
  cases c with
  | true =>
    refine ⟨g3, _, ((l0.trans e1).trans e2).trans e3, r3, hc _ _ _ (fun t z4 h4 w g4 H4 e4 r4 a4 => ?_) q⟩
    refine l'.run g4 z4.M H4 u w y t Q r4.wr ((a2.le e3).le e4) a4 (l'.mono _ _ _ _ _ (fun d M q v' g5 H5 e5 w5 a5 => ?_) h4)
    exact q v' g5 H5 ((((e1.trans e2).trans e3).trans e4).trans e5) (r4.le e5 w5) a5
  | false => exact q (.bl false) g3 H3 ((e1.trans e2).trans e3) r3 (.bl false)
theorem qt_chain {op op' : CmpOp} {rd rd' : RD2} (o : DO2 X (compareOp op) rd) (o' : DO2 X (compareOp op') rd') (ha : QE X g0 a wa) (hb : QE X g0 b wb) (hc : QE X g0 c wc)
    (hm : lastMarks [op, op'] [b, c] = false := by rfl) : QT X g0 (.Compare a [op, op'] [b, c] pos) (wB (wChain rd rd' wa wb wc)) := by
  have me := (qe_chain (pos := pos) o.run (lf2_of o.mono) o'.run (lf2_of o'.mono) ha hb hc hm).mono
  refine ⟨wB.mono me, (pt_chain o.run o'.run ha.run hb.run hc.run hm).imp fun σ H Q ⟨g, z, l0, rr, h⟩ => ?_⟩
  refine chain_up (lf2_of o.mono) (lf2_of o'.mono) ha.mono hb.mono hc.mono ⟨g, z, l0, rr, me _ _ _ (fun d z' ⟨k, e, q⟩ v g' H' e' r' a' => ?_) h⟩
  subst e
  exact ⟨k, has_bl a', q g' H' e' r'⟩
end
theorem wLoop_list {g : WG} {b : WS} {E : En} (xs : List D) (I : Nat → Z → Prop) (step : ∀ i d, xs[i]? = some d → ∀ (k : Z → Prop) z, I i z → (∀ z, I (i + 1) z → k z) → g d z fun z1 => b { E with nx := k, ct := k, bk := E.nx } z1)
    (done : ∀ z, I xs.length z → E.nx z) (z : Z) (h : I 0 z) : wLoop g b E xs z := by
  have key : ∀ (ys pre : List D), pre ++ ys = xs → ∀ z, I pre.length z → wLoop g b E ys z := by
    intro ys
    induction ys with
    | nil =>
      intro pre e z hz
      rw [List.append_nil] at e
      subst e
      exact done z hz
    | cons y ys ih =>
      intro pre e z hz
      refine step pre.length y (by rw [← e]; simp) _ z hz fun z' hz' => ?_
      exact ih (pre ++ [y]) (by rw [← e]; simp) z' (by rw [List.length_append]; exact hz')
  exact key xs [] rfl z h
theorem mem_letters {c : Nat} : c ∈ lettersL.cps.toList ↔ 97 ≤ c ∧ c < 123 := by
  have e : lettersL.cps.toList = List.range' 97 26 := by decide +kernel
  rw [e, List.mem_range'_1]
def den_is_name : Den := fun ds M Q => (∃ s, ds = [.str s] ∧ s.length ≤ sizeLine ∧ Q (.bl (nameS s)) M) ∨ ∃ d T, ds = [d] ∧ tyNm (look M d) = some T ∧ kitB T "str" = some false ∧ Q (.bl false) M
theorem mo_is_name : MonoD den_is_name := fun ds M Q Q' k h => h.elim (fun ⟨s, h1, h2, h3⟩ => .inl ⟨s, h1, h2, k _ _ h3⟩) fun ⟨d, T, h1, h2, h3, h4⟩ => .inr ⟨d, T, h1, h2, h3, k _ _ h4⟩
theorem ln_is_name : ∀ ds M Q, den_is_name ds M Q → ds.length = 1 := fun ds M Q h => h.elim (fun ⟨s, h1, _⟩ => by rw [h1]; rfl) fun ⟨s, T, h1, _⟩ => by rw [h1]; rfl
/-- a table as it is handed in -/
structure Row where
  nm : Str
  cs : List Str
  b : Bool
def colsD (cs : List Str) (b : Bool) : D := if b = true then .lst (sts cs) else .tup (sts cs)
def rowD (r : Row) : D := .tup [.str r.nm, colsD r.cs r.b]
structure RowsOk (rows : List Row) : Prop where
  n1 : 1 ≤ rows.length
  n6 : rows.length ≤ 6
  nm : Names (rows.map (·.nm))
  cols : ∃ L : List Str, L.length ≤ 8 ∧ ∀ r ∈ rows, Names r.cs ∧ ∀ c ∈ r.cs, c ∈ L
def webOf (rows : List Row) : Wb := rows.map fun r => (r.nm, r.cs)
/-- what a Question holds -/
def heldD (w : Wb) : List (Key × D) := (ssort (w.map (·.1))).map fun n => (.inr n, .tux (ssort ((w.lookup n).getD [])))
def questD (C : Addr) (w : Wb) : D := .obj C [("held", .dct (heldD w))]
theorem putD_keys {kvs : List (Key × D)} {k : Key} {v : D} (h : k ∈ kvs.map (·.1)) : (putD kvs k v).map (·.1) = kvs.map (·.1) := by
  unfold putD
  obtain ⟨p, hp, e⟩ := List.mem_map.mp h
  rw [if_pos (List.any_eq_true.mpr ⟨p, hp, decide_eq_true e⟩), List.map_map]
  apply List.map_congr_left
  intro p _
  show (if p.1 = k then (p.1, v) else p).1 = p.1
  split <;> rfl
theorem mergeD_keys {S : Key → Prop} : ∀ {more kvs : List (Key × D)}, (kvs.map (·.1)).Nodup → (∀ k ∈ kvs.map (·.1), S k) → (∀ k ∈ more.map (·.1), S k) → ((mergeD kvs more).map (·.1)).Nodup ∧ ∀ k ∈ (mergeD kvs more).map (·.1), S k
  | [], kvs, h, a, _ => ⟨h, a⟩
  | (k, v) :: more, kvs, h, a, b => by
    show ((mergeD (putD kvs k v) more).map (·.1)).Nodup ∧ ∀ x ∈ (mergeD (putD kvs k v) more).map (·.1), S x
    have hk : S k := b k (by simp)
    refine mergeD_keys ?_ ?_ fun x hx => b x (by simp at hx ⊢; exact .inr hx)
    · by_cases q : k ∈ kvs.map (·.1)
      · rw [putD_keys q]; exact h
      · rw [putD_new q, List.map_append, List.nodup_append]
        refine ⟨h, by simp, fun x hx y hy e => ?_⟩
        rw [List.map_cons, List.map_nil, List.mem_singleton] at hy
        subst hy e
        exact q hx
    · intro x hx
      by_cases q : k ∈ kvs.map (·.1)
      · rw [putD_keys q] at hx; exact a x hx
      · rw [putD_new q, List.map_append] at hx
        rcases List.mem_append.mp hx with h | h
        · exact a x h
        · rw [List.map_cons, List.map_nil] at h; rw [List.mem_singleton.mp h]; exact hk
theorem keys_few {kvs : List (Key × D)} {L : List Str} (h : (kvs.map (·.1)).Nodup) (hs : ∀ k ∈ kvs.map (·.1), ∃ c ∈ L, k = .inr c) : kvs.length ≤ L.length := by
  have := h.length_le_of_subset (l₂ := L.map Sum.inr) fun k hk => by
    obtain ⟨c, hc, rfl⟩ := hs k hk
    exact List.mem_map.mpr ⟨c, hc, rfl⟩
  simpa using this
theorem valD_map {α : Type} {f : α → Str} {g : α → D} : ∀ {xs : List α} {x : α}, x ∈ xs → (xs.map f).Nodup → valD (xs.map fun y => ((Sum.inr (f y) : Key), g y)) (Sum.inr (f x)) = some (g x)
  | y :: xs, x, h, nd => by
    rw [List.map_cons] at nd ⊢
    by_cases q : f y = f x
    · rcases List.mem_cons.mp h with rfl | h
      · simp [valD, List.find?_cons]
      · exact absurd (List.mem_map.mpr ⟨x, h, q.symm⟩) (List.nodup_cons.mp nd).1
    · have h' : x ∈ xs := by
        rcases List.mem_cons.mp h with rfl | h
        · exact absurd rfl q
        · exact h
      have ih := valD_map (g := g) h' (List.nodup_cons.mp nd).2
      rw [← ih]
      simp [valD, List.find?_cons, q]
theorem valD_none {α : Type} {f : α → Str} {g : α → D} {n : Str} : ∀ {xs : List α}, n ∉ xs.map f → valD (xs.map fun y => ((Sum.inr (f y) : Key), g y)) (.inr n) = none
  | [], _ => rfl
  | y :: xs, h => by
    rw [List.map_cons, List.mem_cons, not_or] at h
    have ih := valD_none (g := g) h.2
    rw [← ih, List.map_cons]
    simp [valD, List.find?_cons, Ne.symm h.1]
theorem lookup_mem {w : Wb} {p : Str × List Str} (h : p ∈ w) (nd : (w.map (·.1)).Nodup) : w.lookup p.1 = some p.2 := by
  induction w with
  | nil => cases h
  | cons q w ih =>
    rw [List.map_cons] at nd
    rw [List.lookup_cons]
    rcases List.mem_cons.mp h with rfl | h
    · rw [beq_self_eq_true]
    · have ne : (p.1 == q.1) = false := beq_eq_false_iff_ne.mpr fun e => (List.nodup_cons.mp nd).1 (List.mem_map.mpr ⟨p, h, e⟩)
      rw [ne]
      exact ih h (List.nodup_cons.mp nd).2
def sgnB : D → Bool
  | .str t => t.cps.toList.all fun c => decide (97 ≤ c ∧ c < 123)
  | _ => false
theorem sgn_at (c : Nat) : (false ^^ decide (c ∈ lettersL.cps.toList)) = sgnB (.str ⟨#[c]⟩) := by
  rw [Bool.false_xor]
  simp only [sgnB, mem_letters]
  simp
theorem signs_all (s : Str) : ((signs s).map sgnB).all id = s.cps.toList.all fun c => decide (97 ≤ c ∧ c < 123) := by
  unfold signs
  rw [List.map_map, List.all_map]
  apply List.all_congr rfl
  intro c
  simp [sgnB]
theorem name_not {s : Str} (h : ¬ (1 ≤ s.length ∧ s.length ≤ 8)) : nameS s = false := by
  cases q : nameS s with
  | false => rfl
  | true => exact absurd (Name.len q) h
theorem name_is {s : Str} (h1 : 1 ≤ s.length) (h2 : s.length ≤ 8) : nameS s = s.cps.toList.all fun c => decide (97 ≤ c ∧ c < 123) := by
  unfold nameS
  simp [h1, h2]
theorem in_d {M : Mp} {n : Bool} {x y : D} {kvs : List (Key × D)} {k : Key} {Q : KD} (h : look M y = .dct kvs) (ek : keyOf x = some k) (q : Q (.bl (xor n (valD kvs k).isSome)) M) : rdIn n x y M Q := by
  unfold rdIn
  rw [h]
  exact ⟨k, ek, q⟩
theorem items_cols (cs : List Str) (b : Bool) : items (colsD cs b) = some (sts cs) := by cases b <;> rfl
theorem seqD_cols (M : Mp) (cs : List Str) (b : Bool) : seqD (look M (colsD cs b)) = some (sts cs) := by cases b <;> rfl
def fdD (rows : List Row) : List (Key × D) := rows.map fun r => (.inr r.nm, .tux (ssort r.cs))
theorem fdD_keys (rows : List Row) : (fdD rows).map (fun p => kD p.1) = sts (rows.map (·.nm)) := by
  unfold fdD sts
  rw [List.map_map, List.map_map]
  rfl
theorem fdD_val {rows : List Row} (h : (rows.map (·.nm)).Nodup) {n : Str} (hn : n ∈ rows.map (·.nm)) : valD (fdD rows) (.inr n) = some (.tux (ssort (((webOf rows).lookup n).getD []))) := by
  obtain ⟨r, hr, rfl⟩ := List.mem_map.mp hn
  have e : (webOf rows).lookup r.nm = some r.cs := by
    have hw : ((webOf rows).map (·.1)).Nodup := by unfold webOf; rw [List.map_map]; exact h
    exact lookup_mem (w := webOf rows) (p := (r.nm, r.cs)) (List.mem_map.mpr ⟨r, hr, rfl⟩) hw
  rw [e]
  exact valD_map (g := fun r : Row => .tux (ssort r.cs)) hr h
theorem webOf_keys (rows : List Row) : (webOf rows).map (·.1) = rows.map (·.nm) := by unfold webOf; rw [List.map_map]; rfl
end Q
set_option Elab.async false
set_option linter.all false
set_option maxRecDepth 100000
set_option maxHeartbeats 4000000
namespace Q
open PySem PySem.Spec PyProof.Rows L2 My
def unS : D → Str
  | .str s => s
  | _ => ""
theorem unS_sts (ss : List Str) : (sts ss).map unS = ss := by
  unfold sts
  rw [List.map_map]
  exact List.map_id'' (fun _ => rfl) ss
theorem perm_sts {ls : List D} {ss : List Str} (h : ls.Perm (sts ss)) : ∃ ts, ls = sts ts ∧ ts.Perm ss := by
  refine ⟨ls.map unS, ?_, ?_⟩
  · unfold sts
    rw [List.map_map]
    symm
    have : ∀ d ∈ ls, (D.str ∘ unS) d = d := fun d hd => by
      obtain ⟨s, _, rfl⟩ := List.mem_map.mp (h.mem_iff.mp hd)
      rfl
    rw [List.map_congr_left this]
    exact List.map_id' ls
  · have := h.map unS
    rwa [unS_sts] at this
theorem webD_val {w : Wb} (nd : (w.map (·.1)).Nodup) {n : Str} (hn : n ∈ w.map (·.1)) : valD (webD w) (.inr n) = some (.tup (sts ((w.lookup n).getD []))) := by
  obtain ⟨p, hp, rfl⟩ := List.mem_map.mp hn
  rw [lookup_mem hp nd]
  exact valD_map (f := fun p : Str × List Str => p.1) (g := fun p => .tup (sts p.2)) hp nd
theorem webD_seq (w : Wb) : seqD (.dct (webD w)) = some (sts (w.map (·.1))) := by
  show some ((webD w).map fun p => kD p.1) = _
  unfold webD sts
  rw [List.map_map, List.map_map]
  rfl
theorem WebOk.cols_ok {w : Wb} (h : WebOk w) {n : Str} (hn : n ∈ w.map (·.1)) : Names ((w.lookup n).getD []) ∧ ((w.lookup n).getD []).length ≤ 8 := by
  obtain ⟨p, hp, rfl⟩ := List.mem_map.mp hn
  obtain ⟨L, l8, hL, hs⟩ := h.cols
  rw [lookup_mem hp h.nm.nd, Option.getD_some]
  have nd : p.2.Nodup := by rw [← h.srt p hp]; exact nodup_sset _
  exact ⟨⟨nd, fun s q => hL.ok s (hs p hp s q)⟩, Nat.le_trans (nd.length_le_of_subset (hs p hp)) l8⟩
/-- the rows that are handed in tell the same tables -/
structure RowsOf (w : Wb) (rows : List Row) : Prop where
  nm : (rows.map (·.nm)).Perm (w.map (·.1))
  cs : ∀ r ∈ rows, r.cs.Perm ((w.lookup r.nm).getD [])
theorem RowsOf.ok {w : Wb} {rows : List Row} (h : RowsOf w rows) (hw : WebOk w) (h1 : 1 ≤ w.length) (h6 : w.length ≤ 6) : RowsOk rows := by
  have hl : rows.length = w.length := by have := h.nm.length_eq; simpa using this
  obtain ⟨L, l8, hL, hs⟩ := hw.cols
  refine ⟨by omega, by omega, hw.nm.perm h.nm, L, l8, fun r hr => ?_⟩
  have hn : r.nm ∈ w.map (·.1) := h.nm.mem_iff.mp (List.mem_map.mpr ⟨r, hr, rfl⟩)
  obtain ⟨k1, k2⟩ := hw.cols_ok hn
  refine ⟨k1.perm (h.cs r hr), fun c hc => ?_⟩
  have hc' := (h.cs r hr).mem_iff.mp hc
  obtain ⟨p, hp, e⟩ := List.mem_map.mp hn
  rw [← e, lookup_mem hp hw.nm.nd] at hc'
  exact hs p hp c hc'
end Q
set_option Elab.async false
set_option linter.all false
set_option maxRecDepth 100000
set_option maxHeartbeats 4000000
namespace Q
open PySem PySem.Spec PyProof.Rows L2 My
def isS : D → Bool
  | .str _ => true
  | _ => false
def isT : D → Bool
  | .tup _ => true
  | .tux _ => true
  | _ => false
def isL : D → Bool
  | .lst _ => true
  | _ => false
theorem pr_ty {M : Mp} {d : D} (h : d.pr = true) : look M d = d ∧ ∃ T, tyNm (look M d) = some T ∧ kitB T "str" = some (isS d) ∧ kitB T "tuple" = some (isT d) ∧ kitB T "list" = some (isL d) := by
  cases d <;> first
    | (exact ⟨rfl, _, rfl, by simp only [isS]; decide +kernel, by simp only [isT]; decide +kernel, by simp only [isL]; decide +kernel⟩)
    | (simp [D.pr] at h)
theorem prs_mem : ∀ {ds : List D}, D.prs ds = true → ∀ d ∈ ds, d.pr = true
  | [], _, _, hd => nomatch hd
  | x :: ds, h, d, hd => by
    simp only [D.prs, Bool.and_eq_true] at h
    rcases List.mem_cons.mp hd with rfl | hd
    · exact h.1
    · exact prs_mem h.2 d hd
theorem prs_of : ∀ {ds : List D}, (∀ d ∈ ds, d.pr = true) → D.prs ds = true
  | [], _ => rfl
  | x :: ds, h => by
    simp only [D.prs, Bool.and_eq_true]
    exact ⟨h x List.mem_cons_self, prs_of fun d hd => h d (List.mem_cons_of_mem _ hd)⟩
def hasB (ns : List Str) : D → Bool
  | .str a => decide (a ∈ ns)
  | _ => false
theorem held_val (w : Wb) (nd : (w.map (·.1)).Nodup) (a : Str) : (valD (heldD w) (.inr a)).isSome = decide (a ∈ w.map (·.1)) := by
  unfold heldD
  by_cases h : a ∈ w.map (·.1)
  · rw [valD_map (f := fun n : Str => n) (g := fun n => .tux (ssort ((w.lookup n).getD []))) (mem_ssort.mpr h) (by rw [List.map_id']; exact (ssort_perm _).nodup_iff.mpr nd)]
    simp only [h, decide_true, Option.isSome_some]
  · rw [valD_none (f := fun n : Str => n) (g := fun n => .tux (ssort ((w.lookup n).getD []))) (n := a) (by rw [List.map_id']; exact fun q => h (mem_ssort.mp q))]
    simp only [h, decide_false, Option.isSome_none]
def den_Question___contains__ (C : Addr) : Den := fun ds M Q => ∃ (w : Wb) (d : D), ds = [questD C w, d] ∧ d.pr = true ∧ (w.map (·.1)).Nodup ∧ Q (.bl (hasB (w.map (·.1)) d)) M
theorem mo_Question___contains__ {C : Addr} : MonoD (den_Question___contains__ C) := fun ds M Q Q' k ⟨w, d, h1, h2, h3, h4⟩ => ⟨w, d, h1, h2, h3, k _ _ h4⟩
theorem ln_Question___contains__ {C : Addr} : ∀ ds M Q, den_Question___contains__ C ds M Q → ds.length = 2 := fun ds M Q ⟨w, d, h1, _⟩ => by rw [h1]; rfl
theorem eqOk_two {d : D} (h : eqOk d = true) : d.pr = true ∧ SeqAt.shaped d.py = true := by
  unfold eqOk at h
  exact Bool.and_eq_true_iff.mp h
end Q
set_option Elab.async false
set_option linter.all false
set_option maxRecDepth 100000
set_option maxHeartbeats 4000000
namespace Q
open PySem PySem.Spec PyProof.Rows L2 My
def enK {α : Type} (n : Nat) : List α → List (Key × α)
  | [] => []
  | x :: r => (.inl (n : Int), x) :: enK (n + 1) r
end Q
set_option Elab.async false
set_option linter.all false
set_option maxRecDepth 100000
set_option maxHeartbeats 4000000
namespace Q
open PySem PySem.Spec PyProof.Rows L2 My
/-- plain data of depth at most m -/
structure Pl (m : Nat) (d : D) : Prop where
  pr : d.pr = true
  able : d.py.showable = true
  short : d.py.leavesShort 50 = true
  dp : d.py.depth ≤ m
def sumW (ds : List D) : Nat := (ds.map fun d => d.py.weight + 1).sum
structure Tl (n m : Nat) (ds : List D) : Prop where
  el : ∀ d ∈ ds, Pl m d
  wt : sumW ds ≤ n
theorem Pl.mono {m k : Nat} {d : D} (h : Pl m d) (q : m ≤ k) : Pl k d := ⟨h.pr, h.able, h.short, Nat.le_trans h.dp q⟩
theorem Tl.mono {n m n' m' : Nat} {ds : List D} (h : Tl n m ds) (a : n ≤ n') (b : m ≤ m') : Tl n' m' ds := ⟨fun d hd => (h.el d hd).mono b, Nat.le_trans h.wt a⟩
theorem pys_able : ∀ {ds : List D}, (∀ d ∈ ds, d.py.showable = true) → PyData.showableAll (D.pys ds) = true
  | [], _ => rfl
  | d :: ds, h => by
    simp only [D.pys, PyData.showableAll, Bool.and_eq_true]
    exact ⟨h d List.mem_cons_self, pys_able fun d hd => h d (List.mem_cons_of_mem _ hd)⟩
theorem pys_short : ∀ {ds : List D}, (∀ d ∈ ds, d.py.leavesShort 50 = true) → PyData.leavesShortAll 50 (D.pys ds) = true
  | [], _ => rfl
  | d :: ds, h => by
    simp only [D.pys, PyData.leavesShortAll, Bool.and_eq_true]
    exact ⟨h d List.mem_cons_self, pys_short fun d hd => h d (List.mem_cons_of_mem _ hd)⟩
theorem pys_depth {m : Nat} : ∀ {ds : List D}, (∀ d ∈ ds, d.py.depth ≤ m) → PyData.depthAll (D.pys ds) ≤ m
  | [], _ => Nat.zero_le _
  | d :: ds, h => by
    simp only [D.pys, PyData.depthAll]
    exact Nat.max_le.mpr ⟨h d List.mem_cons_self, pys_depth fun d hd => h d (List.mem_cons_of_mem _ hd)⟩
theorem pys_weight : ∀ ds : List D, PyData.weightAll (D.pys ds) = sumW ds
  | [] => rfl
  | d :: ds => by
    simp only [D.pys, PyData.weightAll, pys_weight ds, sumW, List.map_cons, List.sum_cons]
theorem Pl.lst {m : Nat} {ds : List D} (h : ∀ d ∈ ds, Pl m d) : Pl (m + 1) (.lst ds) := by
  refine ⟨by simp only [D.pr]; exact prs_of fun d hd => (h d hd).pr, ?_, ?_, ?_⟩
  · simp only [D.py, PyData.showable]; exact pys_able fun d hd => (h d hd).able
  · simp only [D.py, PyData.leavesShort]; exact pys_short fun d hd => (h d hd).short
  · simp only [D.py, PyData.depth]; exact Nat.succ_le_succ (pys_depth fun d hd => (h d hd).dp)
theorem Pl.tup {m : Nat} {ds : List D} (h : ∀ d ∈ ds, Pl m d) : Pl (m + 1) (.tup ds) := by
  refine ⟨by simp only [D.pr]; exact prs_of fun d hd => (h d hd).pr, ?_, ?_, ?_⟩
  · simp only [D.py, PyData.showable]; exact pys_able fun d hd => (h d hd).able
  · simp only [D.py, PyData.leavesShort]; exact pys_short fun d hd => (h d hd).short
  · simp only [D.py, PyData.depth]; exact Nat.succ_le_succ (pys_depth fun d hd => (h d hd).dp)
theorem Pl.str {m : Nat} {s : Str} (h : ∀ c ∈ s.cps.toList, c < 128) : Pl m (.str s) := by
  refine ⟨by simp only [D.pr], by simp only [D.py, PyData.showable], ?_, by simp only [D.py, PyData.depth]; exact Nat.zero_le _⟩
  simp only [D.py, PyData.leavesShort, List.all_eq_true, decide_eq_true_eq]
  intro c hc
  exact Nat.lt_of_lt_of_le (h c hc) (by decide)
theorem Pl.name {m : Nat} {s : Str} (h : Name s) : Pl m (.str s) := Pl.str fun c hc => by have := h.let c hc; omega
theorem Pl.non {m : Nat} : Pl m .non := ⟨by simp only [D.pr], by simp only [D.py, PyData.showable], by simp only [D.py, PyData.leavesShort], by simp only [D.py, PyData.depth]; exact Nat.zero_le _⟩
theorem Pl.bl {m : Nat} {b : Bool} : Pl m (.bl b) := ⟨by simp only [D.pr], by simp only [D.py, PyData.showable], by simp only [D.py, PyData.leavesShort], by simp only [D.py, PyData.depth]; exact Nat.zero_le _⟩
theorem log2_small {n : Nat} (h : n < 10 ^ 12) : n.log2 < 1920 := by
  by_cases q : n = 0
  · subst q; decide
  · exact Nat.lt_of_lt_of_le ((Nat.log2_lt q).mpr (Nat.lt_of_lt_of_le h (by decide))) (show 40 ≤ 1920 by decide)
theorem int_ok {i : Int} (h : i.natAbs < 10 ^ 12) : (PyData.int i).showable = true ∧ (PyData.int i).leavesShort 50 = true := by
  simp only [PyData.showable, PyData.leavesShort, decide_eq_true_eq]
  exact ⟨log2_small h, Nat.le_trans (PyData.shown_int_le h) (by decide)⟩
theorem Pl.int {m : Nat} {i : Int} (h : i.natAbs < 10 ^ 12) : Pl m (.int i) := ⟨by simp only [D.pr], (int_ok h).1, (int_ok h).2, by simp only [D.py, PyData.depth]; exact Nat.zero_le _⟩
theorem Pl.shows {m : Nat} {d : D} (h : Pl m d) (hm : m ≤ 100) (hw : d.py.weight ≤ 200000) : Shows d.py := Fine.shows (n := 200000) (m := m) ⟨h.able, h.short, hw, h.dp⟩ (Nat.le_refl _) hm
theorem wt_lst (ds : List D) : (D.lst ds).py.weight = sumW ds := by simp only [D.py, PyData.weight, pys_weight]
theorem wt_tup (ds : List D) : (D.tup ds).py.weight = sumW ds := by simp only [D.py, PyData.weight, pys_weight]
theorem sumW_app (xs ys : List D) : sumW (xs ++ ys) = sumW xs + sumW ys := by unfold sumW; rw [List.map_append, List.sum_append]
theorem sumW_cons (x : D) (ys : List D) : sumW (x :: ys) = x.py.weight + 1 + sumW ys := by unfold sumW; rw [List.map_cons, List.sum_cons]
theorem sumW_take (xs : List D) (n : Nat) : sumW (xs.take n) + sumW (xs.drop n) = sumW xs := by rw [← sumW_app, List.take_append_drop]
theorem sumW_len : ∀ xs : List D, xs.length ≤ sumW xs
  | [] => Nat.zero_le _
  | x :: xs => by rw [sumW_cons, List.length_cons]; have := sumW_len xs; omega
theorem sumW_drop_le (xs : List D) (n : Nat) : sumW (xs.drop n) ≤ sumW xs := by have := sumW_take xs n; omega
theorem sumW_rep (d : D) : ∀ n : Nat, sumW (List.replicate n d) = n * (d.py.weight + 1)
  | 0 => by simp [sumW]
  | n + 1 => by rw [List.replicate_succ, sumW_cons, sumW_rep d n, Nat.succ_mul]; omega
theorem sumW_le {k : Nat} : ∀ {xs : List D}, (∀ d ∈ xs, d.py.weight + 1 ≤ k) → sumW xs ≤ xs.length * k
  | [], _ => Nat.zero_le _
  | x :: xs, h => by
    rw [sumW_cons, List.length_cons, Nat.succ_mul]
    have := sumW_le fun d hd => h d (List.mem_cons_of_mem x hd)
    have := h x List.mem_cons_self
    omega
theorem enK_pl {m : Nat} : ∀ (n : Nat) {ds : List D}, (∀ d ∈ ds, Pl m d) → n + ds.length < 10 ^ 12 →
    D.prk (enK n ds) = true ∧ PyData.showableKv (D.pyk (enK n ds)) = true ∧ PyData.leavesShortKv 50 (D.pyk (enK n ds)) = true ∧ PyData.depthKv (D.pyk (enK n ds)) ≤ m
  | _, [], _, _ => ⟨rfl, rfl, rfl, Nat.zero_le _⟩
  | n, d :: ds, h, hn => by
    rw [List.length_cons] at hn
    obtain ⟨i1, i2, i3, i4⟩ := enK_pl (n + 1) (ds := ds) (fun d hd => h d (List.mem_cons_of_mem _ hd)) (by omega)
    have hd := h d List.mem_cons_self
    obtain ⟨j1, j2⟩ := int_ok (i := (n : Int)) (by omega)
    simp only [enK, D.prk, D.pyk, My.kD, PyData.showableKv, PyData.leavesShortKv, PyData.depthKv, Bool.and_eq_true]
    exact ⟨⟨hd.pr, i1⟩, ⟨⟨j1, hd.able⟩, i2⟩, ⟨⟨j2, hd.short⟩, i3⟩, Nat.max_le.mpr ⟨Nat.max_le.mpr ⟨by simp only [PyData.depth]; exact Nat.zero_le _, hd.dp⟩, i4⟩⟩
theorem wt_int {n : Nat} (h : n < 10 ^ 12) : (PyData.int (n : Int)).weight ≤ 40 := by
  simp only [PyData.weight]
  split
  · exact Nat.zero_le _
  · rename_i q
    have h0 : n ≠ 0 := fun e => q (by subst e; rfl)
    have := (Nat.log2_lt h0).mpr (Nat.lt_of_lt_of_le h (show 10 ^ 12 ≤ 2 ^ 40 by decide))
    rw [Int.natAbs_natCast]
    omega
theorem Pl.num {m : Nat} {ds : List D} (h : ∀ d ∈ ds, Pl m d) (hn : ds.length < 10 ^ 12) : Pl (m + 1) (.dct (enK 0 ds)) := by
  obtain ⟨i1, i2, i3, i4⟩ := enK_pl 0 h (by omega)
  refine ⟨by simp only [D.pr]; exact i1, by simp only [D.py, PyData.showable]; exact i2, by simp only [D.py, PyData.leavesShort]; exact i3, by simp only [D.py, PyData.depth]; exact Nat.succ_le_succ i4⟩
def stepD (p : Str × Str) : D := .tup [.str p.1, .str p.2]
end Q
set_option Elab.async false
set_option linter.all false
set_option maxRecDepth 100000
set_option maxHeartbeats 4000000
namespace Q
open PySem PySem.Spec PyProof.Rows L2 My
theorem wt_str (s : Str) : (D.str s).py.weight = s.length := by simp only [D.py, PyData.weight]; rfl
theorem sumW_nil : sumW [] = 0 := rfl
theorem app_let {a b : Str} (ha : ∀ c ∈ a.cps.toList, c < 128) (hb : ∀ c ∈ b.cps.toList, c < 128) : ∀ c ∈ (a ++ b).cps.toList, c < 128 := by
  intro c hc
  have e : (a ++ b).cps.toList = a.cps.toList ++ b.cps.toList := by
    show (a.cps ++ b.cps).toList = _
    exact Array.toList_append
  rw [e] at hc
  exact (List.mem_append.mp hc).elim (ha c) (hb c)
end Q
set_option Elab.async false
set_option linter.all false
set_option maxRecDepth 100000
set_option maxHeartbeats 4000000
namespace Q
open PySem PySem.Spec PyProof.Rows L2 My
theorem Tl.put {L : List D} {n m a b : Nat} {x : D} (h : Tl n m L) (hm : 2 ≤ m) (hb : a ≤ b) (hx : Pl 2 x) (hw : x.py.weight ≤ 60) : Tl (n + 1000) (m + 1) (L.take a ++ [x] ++ L.drop b) := by
  refine ⟨fun d hd => ?_, ?_⟩
  · rcases List.mem_append.mp hd with hd | hd
    · rcases List.mem_append.mp hd with hd | hd
      · exact (h.el d (List.mem_of_mem_take hd)).mono (by omega)
      · rw [List.mem_singleton.mp hd]; exact hx.mono (by omega)
    · exact (h.el d (List.mem_of_mem_drop hd)).mono (by omega)
  · rw [sumW_app, sumW_app, sumW_cons, sumW_nil]
    have h1 := sumW_take L a
    have h2 : sumW (L.drop b) ≤ sumW (L.drop a) := by
      obtain ⟨c, rfl⟩ := Nat.exists_eq_add_of_le hb
      rw [← List.drop_drop]
      exact sumW_drop_le _ _
    have := h.wt
    omega
theorem canLay_step {s : Str} (h : Name s) : (PyData.str s).canLay0 = true := by
  simp only [PyData.canLay0, PyData.strOk, Array.all_eq_true_iff_forall_mem]
  intro c hc
  have := h.let c (by simpa using hc)
  simp
  omega
theorem neg_i {M : Mp} {i : Int} {Q : KD} (h : Q (.int (-i)) M) : rdNeg (.int i) M Q := h
end Q
set_option Elab.async false
set_option linter.all false
set_option maxRecDepth 100000
set_option maxHeartbeats 4000000
namespace PySem.SeqAt
open AutoSeq1 (wpAny_loadPart')
open MeetsSeq MeetsSeq2 MeetsSeq3 SeqRoads2
section
variable {prog : Program} {w : World}
theorem list_eq_len (l b : Addr) (items items2 : Array Value) (n n2 : Nat) (dd dd2 : Option Addr) (sl sl2 : Array (Option Value)) (hsz : items.size ≠ items2.size) :
    MeetsIn prog w (Builtin.«list.__eq__» ⟨[.ref l, .ref b], []⟩)
      (fun A R s => s.heap.get? l = some { cls := .type "list", dict := dd, data := .seq items n, slots := sl } ∧ s.heap.get? b = some { cls := .type "list", dict := dd2, data := .seq items2 n2, slots := sl2 } ∧
        R (.ok (.ret (.bool false))) s) := by
  intro A R s h
  obtain ⟨hp, g, d, tk, os⟩ := s; obtain ⟨hl, hb, h⟩ := h
  have f3 := AutoSeq1.sub_list_list
  have hne : (items.size != items2.size) = true := by simp [hsz]
  wp_walk using wpAny_loadPart' hl, wpAny_loadPart' hb
  exact h
theorem rcP_len {A : Around} {s : Shared} {l b : Addr} {items items2 : Array Value} (hl : s.heap.IsList l items) (hb : s.heap.IsList b items2) (hsz : items.size ≠ items2.size) (hu : A.units < cLine)
    (E Q : Value → Shared → Prop) (h : Q (.bool false) s) : wpAny (model prog w) A (richCompare .Eq (.ref l) (.ref b)) Q E s := by
  obtain ⟨⟨cls, dd, data, sl⟩, ho, hc, n, hd⟩ := id hl
  obtain ⟨⟨cls2, dd2, data2, sl2⟩, ho2, hc2, n2, hd2⟩ := id hb
  simp only at hc hd hc2 hd2
  subst hc hd hc2 hd2
  have ta : s.TypeIs (.ref l) "list" := ⟨_, ho, rfl⟩
  have tb : s.TypeIs (.ref b) "list" := ⟨_, ho2, rfl⟩
  exact wpAny_richCompare_same_room (op := .Eq) ta tb F.slot_list_eq (call_meetsIn F.slot_list_eq ta F.entry_list_eq (F.args_list_eq_2 _ _) (list_eq_len l b items items2 n n2 dd dd2 sl sl2 hsz)
    ⟨ho, ho2, show Value.bool false ≠ Value.notImplemented ∧ Q (.bool false) s from ⟨(fun x => nomatch x), h⟩⟩) hu
end
end PySem.SeqAt
namespace Q
open PySem PySem.Spec PyProof.Rows L2 My
/-- x == [] -/
def rdEqN (x y : D) (M : Mp) (Q : KD) : Prop := ∃ ds, look M x = .lst ds ∧ look M y = .lst [] ∧ Q (.bl ds.isEmpty) M
theorem d_eqN {X : Cx} (hu : X.A.units + 64 < cLine) : DO2 X (compareOp .Eq) rdEqN := by
  refine ⟨fun x y M Q Q' k ⟨ds, h1, h2, h3⟩ => ⟨ds, h1, h2, k _ _ h3⟩, fun pins s σ H v u ov uv Q I rv ru ⟨g, M, x, y, w, hx, hy, ds, h1, h2, h3⟩ => ?_⟩
  obtain ⟨p, xs, rfl, k1, k2⟩ := w.seeL hx h1
  obtain ⟨r, ys, rfl, m1, m2⟩ := w.seeL hy h2
  cases m2
  obtain rfl : ov = Value.ref p := rv
  obtain rfl : uv = Value.ref r := ru
  obtain ⟨its, rv1, p1, z1⟩ := I.list (SqL.of k1)
  obtain ⟨its2, rv2, p2, z2⟩ := I.list (SqL.of m1)
  cases rv2
  have hq := lk_at h3 w (.bl _)
  have hl := rv1.length
  have hl2 := k2.length
  have hxx : ds.length = its.length := by rw [← hl2, hl]
  cases its with
  | nil =>
    have e : ds.isEmpty = true := by
      cases ds with
      | nil => rfl
      | cons _ _ => simp at hxx
    rw [e] at hq
    exact PySem.SeqAt.rcP_lists (e := fun _ => true) p1.isList p2.isList rfl (by omega) (fun j h1 h2 => absurd h1 (by simp)) _ _ ⟨.bl true, H, I, rfl, hq⟩
  | cons i its =>
    have e : ds.isEmpty = false := by
      cases ds with
      | nil => simp at hxx
      | cons _ _ => rfl
    rw [e] at hq
    exact PySem.SeqAt.rcP_len p1.isList p2.isList (by simp) (by omega) _ _ ⟨.bl false, H, I, rfl, hq⟩
end Q
set_option Elab.async false
set_option linter.all false
set_option maxRecDepth 100000
set_option maxHeartbeats 4000000
namespace Q
open PySem PySem.Spec PyProof.Rows L2 My
def ThOk (j : Nat) (d : D) : Prop := (∃ L, d = .lst L ∧ Tl (1000 + 1000 * j) (2 + j) L) ∨ (isL d = false ∧ Pl 6 d ∧ d.py.weight ≤ 190000)
theorem ThOk.pl {j : Nat} {d : D} (h : ThOk j d) (hj : j ≤ 2) : Pl 6 d ∧ d.py.weight ≤ 190000 := by
  rcases h with ⟨L, rfl, h⟩ | ⟨_, h1, h2⟩
  · exact ⟨(Pl.lst h.el).mono (by omega), by rw [wt_lst]; have := h.wt; omega⟩
  · exact ⟨h1, h2⟩
end Q
set_option Elab.async false
set_option linter.all false
set_option maxRecDepth 100000
set_option maxHeartbeats 4000000
namespace Q
open PySem PySem.Spec PyProof.Rows L2 My
/-- a tuple of texts is less -/
def tlt : List Str → List Str → Bool
  | [], [] => false
  | [], _ :: _ => true
  | _ :: _, [] => false
  | a :: r, b :: t => if a = b then tlt r t else slt a b
def wayD (a : List Str) : D := .tup (sts a)
theorem blt_str (a b : Str) : strKind.blt a.cps.toList b.cps.toList = slt a b := by
  have := PySem.W.dataLt_str a b
  unfold slt
  rw [← this]
  unfold PySem.W.dataLt
  simp only [PySem.W.keyToks]
  rw [PySem.W.lex_one]
  rfl
theorem tlt_asymm : ∀ {a b : List Str}, tlt a b = true → tlt b a = false
  | [], [], h => nomatch h
  | [], _ :: _, _ => rfl
  | _ :: _, [], h => nomatch h
  | a :: r, b :: t, h => by
    unfold tlt at h ⊢
    by_cases e : a = b
    · rw [if_pos e] at h
      rw [if_pos e.symm]
      exact tlt_asymm h
    · rw [if_neg e] at h
      rw [if_neg (Ne.symm e)]
      exact slt_asymm h
end Q
set_option Elab.async false
set_option linter.all false
set_option maxRecDepth 100000
set_option maxHeartbeats 4000000
namespace Q
open PySem PySem.Spec PyProof.Rows L2 My
abbrev Stp := Str × Str
abbrev Pos1 := List (Str × Nat)
def putA (l : Pos1) (k : Str) (v : Nat) : Pos1 := if k ∈ l.map (·.1) then l.map fun p => if p.1 = k then (p.1, v) else p else l ++ [(k, v)]
theorem putA_keys (l : Pos1) (k : Str) (v : Nat) : (putA l k v).map (·.1) = if k ∈ l.map (·.1) then l.map (·.1) else l.map (·.1) ++ [k] := by
  unfold putA
  split
  · rw [List.map_map]
    refine List.map_congr_left fun p _ => ?_
    show (if p.1 = k then (p.1, v) else p).1 = p.1
    split <;> rfl
  · simp
theorem putA_nodup {l : Pos1} (h : (l.map (·.1)).Nodup) (k : Str) (v : Nat) : ((putA l k v).map (·.1)).Nodup := by
  rw [putA_keys]
  split
  · exact h
  · rename_i q
    rw [List.nodup_append]
    refine ⟨h, by simp, fun a ha b hb => ?_⟩
    rw [List.mem_singleton.mp hb]
    exact fun e => q (e ▸ ha)
theorem putA_mem {l : Pos1} {k : Str} {v : Nat} {p : Str × Nat} (h : p ∈ putA l k v) : p = (k, v) ∨ (p ∈ l ∧ p.1 ≠ k) := by
  unfold putA at h
  split at h
  · obtain ⟨q, hq, rfl⟩ := List.mem_map.mp h
    by_cases e : q.1 = k
    · rw [if_pos e]; left; rw [e]
    · rw [if_neg e]; exact .inr ⟨hq, e⟩
  · rename_i q
    rcases List.mem_append.mp h with h | h
    · exact .inr ⟨h, fun e => q (List.mem_map.mpr ⟨p, h, e⟩)⟩
    · exact .inl (List.mem_singleton.mp h)
/-- the last steps of t below n -/
def lastF (st : List Stp) (t : Str) : Nat → Pos1
  | 0 => []
  | n + 1 => match st[n]? with
    | some s => if s.1 = t then putA (lastF st t n) s.2 n else lastF st t n
    | none => lastF st t n
theorem lastF_nodup (st : List Stp) (t : Str) : ∀ n, ((lastF st t n).map (·.1)).Nodup
  | 0 => List.nodup_nil
  | n + 1 => by
    unfold lastF
    split
    · split
      · exact putA_nodup (lastF_nodup st t n) _ _
      · exact lastF_nodup st t n
    · exact lastF_nodup st t n
theorem lastF_mem {st : List Stp} {t : Str} : ∀ {n : Nat} {p : Str × Nat}, p ∈ lastF st t n → p.2 < n ∧ st[p.2]? = some (t, p.1)
  | 0, p, h => nomatch h
  | n + 1, p, h => by
    unfold lastF at h
    split at h
    · rename_i s e
      split at h
      · rename_i q
        rcases putA_mem h with rfl | ⟨h, _⟩
        · exact ⟨Nat.lt_succ_self _, by rw [e, ← q]⟩
        · obtain ⟨h1, h2⟩ := lastF_mem h
          exact ⟨by omega, h2⟩
      · obtain ⟨h1, h2⟩ := lastF_mem h
        exact ⟨by omega, h2⟩
    · obtain ⟨h1, h2⟩ := lastF_mem h
      exact ⟨by omega, h2⟩
def posF (st : List Stp) (t : Str) (n : Nat) (o : Str) : Nat := ((lastF st t n).lookup o).getD 0
theorem lookup_of {l : Pos1} {p : Str × Nat} (h : p ∈ l) (nd : (l.map (·.1)).Nodup) : l.lookup p.1 = some p.2 := by
  induction l with
  | nil => cases h
  | cons q l ih =>
    rw [List.map_cons] at nd
    rw [List.lookup_cons]
    rcases List.mem_cons.mp h with rfl | h
    · rw [beq_self_eq_true]
    · have ne : (p.1 == q.1) = false := beq_eq_false_iff_ne.mpr fun e => (List.nodup_cons.mp nd).1 (List.mem_map.mpr ⟨p, h, e⟩)
      rw [ne]
      exact ih h (List.nodup_cons.mp nd).2
theorem posF_at {st : List Stp} {t o : Str} {n : Nat} (h : o ∈ (lastF st t n).map (·.1)) : (o, posF st t n o) ∈ lastF st t n := by
  obtain ⟨p, hp, rfl⟩ := List.mem_map.mp h
  unfold posF
  rw [lookup_of hp (lastF_nodup st t n)]
  exact hp
theorem posF_lt {st : List Stp} {t o : Str} {n : Nat} (h : o ∈ (lastF st t n).map (·.1)) : posF st t n o < n := (lastF_mem (posF_at h)).1
/-- the tables that t looks at, in order -/
def othersF (st : List Stp) (t : Str) (n : Nat) : List Str := ssort ((lastF st t n).map (·.1))
theorem mem_others {st : List Stp} {t o : Str} {n : Nat} : o ∈ othersF st t n ↔ o ∈ (lastF st t n).map (·.1) := mem_ssort
def waysF (st : List Stp) : Nat → Str → Nat → List (List Str)
  | 0, t, _ => [[t]]
  | f + 1, t, n => [t] :: (othersF st t n).flatMap fun o => (waysF st f o (posF st t n o)).map (t :: ·)
/-- the look tree -/
def treeF (st : List Stp) (t : Str) (n : Nat) : List (List Str) := waysF st n t n
theorem flatMap_congr' {α β : Type} {l : List α} {f g : α → List β} (h : ∀ x ∈ l, f x = g x) : l.flatMap f = l.flatMap g := by
  rw [List.flatMap_def, List.flatMap_def, List.map_congr_left h]
theorem waysF_succ (st : List Stp) : ∀ (f n : Nat) (t : Str), n ≤ f → waysF st (f + 1) t n = waysF st f t n
  | 0, n, t, h => by
    have e : n = 0 := by omega
    subst e
    have q : othersF st t 0 = [] := List.eq_nil_of_length_eq_zero (by unfold othersF; rw [length_ssort]; rfl)
    show [t] :: (othersF st t 0).flatMap _ = [[t]]
    rw [q]
    rfl
  | f + 1, n, t, h => by
    show [t] :: (othersF st t n).flatMap (fun o => (waysF st (f + 1) o (posF st t n o)).map (t :: ·)) = [t] :: (othersF st t n).flatMap fun o => (waysF st f o (posF st t n o)).map (t :: ·)
    congr 1
    refine flatMap_congr' fun o ho => ?_
    have hp := posF_lt (mem_others.mp ho)
    rw [waysF_succ st f _ o (by omega)]
theorem waysF_fuel (st : List Stp) (n : Nat) (t : Str) : ∀ k, waysF st (n + k) t n = treeF st t n
  | 0 => rfl
  | k + 1 => by rw [← Nat.add_assoc, waysF_succ st _ _ _ (by omega), waysF_fuel st n t k]
theorem treeF_eq (st : List Stp) (t : Str) (n : Nat) : treeF st t n = [t] :: (othersF st t n).flatMap fun o => (treeF st o (posF st t n o)).map (t :: ·) := by
  rw [← waysF_fuel st n t 1]
  show [t] :: (othersF st t n).flatMap (fun o => (waysF st n o (posF st t n o)).map (t :: ·)) = _
  congr 1
  refine flatMap_congr' fun o ho => ?_
  have hp := posF_lt (mem_others.mp ho)
  have := waysF_fuel st (posF st t n o) o (n - posF st t n o)
  rw [show posF st t n o + (n - posF st t n o) = n by omega] at this
  rw [this]
def sizeF (st : List Stp) (t : Str) (n : Nat) : Nat := (treeF st t n).length
theorem sizeF_eq (st : List Stp) (t : Str) (n : Nat) : sizeF st t n = 1 + ((lastF st t n).map fun p => sizeF st p.1 p.2).sum := by
  unfold sizeF
  rw [treeF_eq, List.length_cons, List.length_flatMap]
  have e1 : (othersF st t n).map (fun o => ((treeF st o (posF st t n o)).map (t :: ·)).length) = (othersF st t n).map fun o => (treeF st o (posF st t n o)).length := List.map_congr_left fun o _ => List.length_map ..
  rw [e1]
  have p : ((othersF st t n).map fun o => (treeF st o (posF st t n o)).length).Perm (((lastF st t n).map (·.1)).map fun o => (treeF st o (posF st t n o)).length) := (ssort_perm _).map _
  rw [p.sum_nat, List.map_map, Nat.add_comm]
  congr 2
  refine List.map_congr_left fun q hq => ?_
  show (treeF st q.1 (posF st t n q.1)).length = _
  unfold posF
  rw [lookup_of hq (lastF_nodup st t n)]
  rfl
end Q
set_option Elab.async false
set_option linter.all false
set_option maxRecDepth 100000
set_option maxHeartbeats 4000000
namespace Q
open PySem PySem.Spec PyProof.Rows L2 My
theorem putA_sum {l : Pos1} (nd : (l.map (·.1)).Nodup) (k : Str) (v : Nat) (f : Str × Nat → Nat) : ((putA l k v).map f).sum ≤ (l.map f).sum + f (k, v) := by
  unfold putA
  split
  · rename_i h
    clear h
    induction l with
    | nil => simp
    | cons p l ih =>
      rw [List.map_cons] at nd
      have hn := List.nodup_cons.mp nd
      rw [List.map_cons, List.map_cons, List.map_cons, List.sum_cons, List.sum_cons]
      by_cases e : p.1 = k
      · rw [if_pos e]
        have : (l.map fun q => if q.1 = k then (q.1, v) else q) = l := by
          conv => rhs; rw [← List.map_id l]
          refine List.map_congr_left fun q hq => ?_
          rw [if_neg]
          · rfl
          · intro e'
            exact hn.1 (List.mem_map.mpr ⟨q, hq, e'.trans e.symm⟩)
        rw [this, e]
        omega
      · rw [if_neg e]
        have := ih hn.2
        omega
  · simp
theorem size_step {st : List Stp} {n : Nat} {s : Stp} (h : st[n]? = some s) : sizeF st s.1 (n + 1) ≤ sizeF st s.1 n + sizeF st s.2 n := by
  have e : lastF st s.1 (n + 1) = putA (lastF st s.1 n) s.2 n := by
    show (match st[n]? with | some s' => if s'.1 = s.1 then putA (lastF st s.1 n) s'.2 n else lastF st s.1 n | none => lastF st s.1 n) = _
    rw [h]
    exact if_pos rfl
  rw [sizeF_eq, sizeF_eq st s.1 n, e]
  have := putA_sum (lastF_nodup st s.1 n) s.2 n fun p => sizeF st p.1 p.2
  dsimp only at this
  omega
theorem size_same {st : List Stp} {n : Nat} {t : Str} (h : ∀ s, st[n]? = some s → s.1 ≠ t) : sizeF st t (n + 1) = sizeF st t n := by
  have e : lastF st t (n + 1) = lastF st t n := by
    show (match st[n]? with | some s' => if s'.1 = t then putA (lastF st t n) s'.2 n else lastF st t n | none => lastF st t n) = _
    cases q : st[n]? with
    | none => rfl
    | some s => exact if_neg (h s q)
  rw [sizeF_eq, sizeF_eq st t n, e]
def mostS : Nat → Nat × Nat
  | 0 => (1, 2)
  | n + 1 => ((mostS n).2, (mostS n).2 + (mostS n).1)
theorem most_le : ∀ n, (mostS n).1 ≤ (mostS n).2
  | 0 => by decide
  | n + 1 => by show (mostS n).2 ≤ (mostS n).2 + (mostS n).1; omega
theorem size_most {st : List Stp} (hst : ∀ s ∈ st, s.1 ≠ s.2) : ∀ n, (∀ t, sizeF st t n ≤ (mostS n).1) ∧ ∀ t u, t ≠ u → sizeF st t n + sizeF st u n ≤ (mostS n).2
  | 0 => by
    have h : ∀ t, sizeF st t 0 = 1 := fun t => rfl
    exact ⟨fun t => by rw [h]; decide, fun t u _ => by rw [h, h]; decide⟩
  | n + 1 => by
    obtain ⟨h1, h2⟩ := size_most hst n
    have hm := most_le n
    show (∀ t, sizeF st t (n + 1) ≤ (mostS n).2) ∧ ∀ t u, t ≠ u → sizeF st t (n + 1) + sizeF st u (n + 1) ≤ (mostS n).2 + (mostS n).1
    cases q : st[n]? with
    | none =>
      have e : ∀ t, sizeF st t (n + 1) = sizeF st t n := fun t => size_same fun s hs => by rw [q] at hs; cases hs
      refine ⟨fun t => ?_, fun t u tu => ?_⟩
      · have := h1 t; rw [e]; omega
      · have := h2 t u tu; rw [e, e]; omega
    | some s =>
      have ns := hst s (List.mem_of_getElem? q)
      have e : ∀ t, t ≠ s.1 → sizeF st t (n + 1) = sizeF st t n := fun t ht => size_same fun s' hs => by rw [q] at hs; cases hs; exact Ne.symm ht
      have b := size_step q
      have c := h2 _ _ ns
      refine ⟨fun t => ?_, fun t u tu => ?_⟩
      · by_cases ht : t = s.1
        · rw [ht]; omega
        · have := h1 t; rw [e t ht]; omega
      · by_cases ht : t = s.1
        · have := h1 u; rw [e u (fun z => tu (ht.trans z.symm)), ht]; omega
        · rw [e t ht]
          by_cases hu : u = s.1
          · have := h1 t; rw [hu]; omega
          · have := h2 t u tu; rw [e u hu]; omega
theorem most_mono : ∀ {m n : Nat}, m ≤ n → (mostS m).1 ≤ (mostS n).1
  | m, 0, h => by obtain rfl : m = 0 := by omega
                  exact Nat.le_refl _
  | m, n + 1, h => by
    by_cases e : m = n + 1
    · rw [e]; exact Nat.le_refl _
    · have := most_mono (m := m) (n := n) (by omega)
      have := most_le n
      show _ ≤ (mostS n).2
      omega
theorem size_ten {st : List Stp} (hst : ∀ s ∈ st, s.1 ≠ s.2) {n : Nat} (h : n ≤ 10) (t : Str) : sizeF st t n ≤ 144 :=
  Nat.le_trans ((size_most hst n).1 t) (Nat.le_trans (most_mono h) (by decide))
end Q
set_option Elab.async false
set_option linter.all false
set_option maxRecDepth 100000
set_option maxHeartbeats 4000000
namespace Q
open PySem PySem.Spec PyProof.Rows L2 My
section
variable {P : Program} {w : World} {K : PySem.W.Frag} {mg : Str → Option Value} {base : Heap} {k : Nat} {f : Addr} {fd : FuncData} {ps N : List Str} {x qual : Str} {st : Stmt} {den : Den}
/-- what is bound where the last parameters are left out -/
def BdK (K : PySem.W.Frag) (fd : FuncData) (ps : List Str) (dd : List D) : Prop := ∃ ds dvs, Vals dvs ds ∧ Binds K fd ps ds ∧ ∀ g, HasL K g dvs dd
structure ToldK (K : PySem.W.Frag) (x qual : Str) (st : Stmt) (f D : Addr) : Prop where
  ex : ∃ (oc : Value) (od an : Option Addr) (sl : Array (Option Value)) (dc pm cd ct : Value), K.lookup f = some ⟨oc, od, .func (PySem.W.fnOf x qual (defArgs st) (defBody st) (defScope st) .none (.ref D) dc pm an cd ct), sl⟩ ∧ PySem.W.codeIn K cd qual = true
  kp : PySem.W.keepIn K (.ref f) = true
/-- one of them, a number -/
theorem ToldK.df {D : Addr} {y : Str} {i : Int} {tk : Tok} {n : Nat} (t : ToldK K x qual st f D) (hy : PySem.W.nsIn K D y = some (some (.int i tk))) (hn : n + 1 = ps.length)
    (h : ∀ (D : Addr) (doc pm : Value) (an : Option Addr) (cdv ct : Value) (us ks : List Value), us.length = n → ks.length = 1 →
      KwChain D ([y].zip ks) (bindArgs (PySem.W.fnOf x qual (defArgs st) (defBody st) (defScope st) .none (.ref D) doc pm an cdv ct) ⟨us, []⟩) (ps.zip (us ++ ks))) :
    ∃ fd, Fun K x qual st f fd ∧ BdK K fd ps [.int i] := by
  obtain ⟨oc, od, an, sl, dc, pm, cd, ct, l, c⟩ := t.ex
  have F := fun_mk (st := st) l c t.kp
  have FD : FunD K x qual (defArgs st) (defBody st) (defScope st) [] [(y, V.int i)] f _ := ⟨⟨oc, od, .none, .ref D, dc, pm, an, cd, ct, sl, rfl, l, c, .inl ⟨rfl, rfl⟩, .inr ⟨D, rfl, fun q hq => by
    obtain rfl := List.mem_singleton.mp hq
    exact ⟨_, hy, tk, rfl⟩⟩⟩, t.kp⟩
  obtain ⟨ds, r, b⟩ := FD.binds0 n (by simp) hn h
  exact ⟨_, F, ds, _, r, b, fun g => .cons (.int i) .nil⟩
/-- a promise by how deep it may go -/
def deep (den : Nat → Den) : Nat → Den
  | 0 => fun _ _ _ => False
  | n + 1 => den n
end
section
variable {X : Cx} {g0 : Gh} {k : Nat} {f : Addr} {fd : FuncData} {ps : List Str} {den : Den} {x : Str} {p pos : Pos} {e : Expr} {es : List Expr} {wa : WA} {dd : List D}
/-- {} for keys that are tuples -/
def wDnewT : WE := fun z Q => ∀ p, z.M p = none → Q (.ref p) ⟨z.ρ, mupd z.M p (some (.dcT []))⟩
end
end Q
set_option Elab.async false
set_option linter.all false
set_option maxRecDepth 100000
set_option maxHeartbeats 4000000
namespace Q
open PySem PySem.Spec PyProof.Rows L2 My
/-- good data of depth at most m -/
structure Gd (m : Nat) (d : D) : Prop where
  pl : Pl m d
  lay : d.py.canLay0 = true
theorem Gd.mono {m k : Nat} {d : D} (h : Gd m d) (q : m ≤ k) : Gd k d := ⟨h.pl.mono q, h.lay⟩
theorem lay_all : ∀ {ds : List D}, (∀ d ∈ ds, d.py.canLay0 = true) → PyData.canLayAll0 (D.pys ds) = true
  | [], _ => rfl
  | d :: ds, h => by
    simp only [D.pys, PyData.canLayAll0, Bool.and_eq_true]
    exact ⟨h d List.mem_cons_self, lay_all fun e he => h e (List.mem_cons_of_mem _ he)⟩
theorem Gd.name {m : Nat} {s : Str} (h : Name s) : Gd m (.str s) := ⟨Pl.name h, by rw [D.py]; exact canLay_step h⟩
theorem Gd.non {m : Nat} : Gd m .non := ⟨Pl.non, by rw [D.py]; rfl⟩
theorem Gd.bl {m : Nat} {b : Bool} : Gd m (.bl b) := ⟨Pl.bl, by rw [D.py]; rfl⟩
theorem Gd.lst {m : Nat} {ds : List D} (h : ∀ d ∈ ds, Gd m d) : Gd (m + 1) (.lst ds) := ⟨Pl.lst fun d hd => (h d hd).pl, by rw [D.py, PyData.canLay0]; exact lay_all fun d hd => (h d hd).lay⟩
theorem Gd.tup {m : Nat} {ds : List D} (h : ∀ d ∈ ds, Gd m d) : Gd (m + 1) (.tup ds) := ⟨Pl.tup fun d hd => (h d hd).pl, by rw [D.py, PyData.canLay0]; exact lay_all fun d hd => (h d hd).lay⟩
theorem Gd.eqOk {m : Nat} {d : D} (h : Gd m d) (hm : m ≤ 20 := by decide) : eqOk d = true := by
  unfold Q.eqOk SeqAt.shaped
  simp only [Bool.and_eq_true, decide_eq_true_eq]
  exact ⟨h.pl.pr, h.lay, Nat.le_trans h.pl.dp (Nat.le_trans hm (by decide))⟩
theorem Gd.names {m : Nat} {ss : List Str} (h : ∀ s ∈ ss, Name s) : Gd (m + 1) (.tup (sts ss)) := Gd.tup fun d hd => by
  obtain ⟨s, hs, rfl⟩ := List.mem_map.mp hd
  exact Gd.name (h s hs)
theorem Gd.step {m : Nat} {s : Str × Str} (h1 : Name s.1) (h2 : Name s.2) : Gd (m + 1) (stepD s) := Gd.tup fun d hd => by
  simp only [List.mem_cons, List.not_mem_nil, or_false] at hd
  rcases hd with rfl | rfl
  · exact Gd.name h1
  · exact Gd.name h2
theorem wt_name {s : Str} (h : Name s) : (D.str s).py.weight ≤ 8 := by rw [wt_str]; exact h.len.2
theorem wt_names {ss : List Str} (h : ∀ s ∈ ss, Name s) : (D.tup (sts ss)).py.weight ≤ ss.length * 9 := by
  rw [wt_tup]
  have := sumW_le (k := 9) (xs := sts ss) fun d hd => by
    obtain ⟨s, hs, rfl⟩ := List.mem_map.mp hd
    have := wt_name (h s hs)
    omega
  rwa [len_sts] at this
theorem tux_py (ss : List Str) : (D.tux ss).py = (D.tup (sts ss)).py := by
  have h : ∀ l : List Str, l.map PyData.str = D.pys (sts l) := by
    intro l
    induction l with
    | nil => rfl
    | cons a l ih => rw [List.map_cons, ih]; rfl
  show PyData.tuple (ss.map PyData.str) = PyData.tuple (D.pys (sts ss))
  rw [h]
theorem Gd.namesX {m : Nat} {ss : List Str} (h : ∀ s ∈ ss, Name s) : Gd (m + 1) (.tux ss) := by
  have g := Gd.names (m := m) h
  obtain ⟨⟨a, b, c, d⟩, e⟩ := g
  exact ⟨⟨rfl, by rw [tux_py]; exact b, by rw [tux_py]; exact c, by rw [tux_py]; exact d⟩, by rw [tux_py]; exact e⟩
theorem wt_namesX {ss : List Str} (h : ∀ s ∈ ss, Name s) : (D.tux ss).py.weight ≤ ss.length * 9 := by rw [tux_py]; exact wt_names h
theorem eq_both {n : Bool} {M : Mp} {x y d : D} {Q : KD} (hx : look M x = d) (hy : look M y = d) (h : eqOk d = true) (q : Q (.bl (xor n true)) M) : rdEq n x y M Q := by
  unfold rdEq
  rw [hx, hy]
  split
  · simpa using q
  · simpa using q
  · refine ⟨h, h, ?_⟩
    unfold deq
    rw [SeqAt.eqv_refl _ (SeqAt.canLay_of_shaped (eqOk_two h).2)]
    exact q
def keyTU (t : Str) (u : Nat) : List Key := [.inr t, .inl (u : Int)]
structure Known (st : List Stp) (A : List Str) (kvs : List (List Key × D)) : Prop where
  nd : (kvs.map (·.1)).Nodup
  ok : ∀ p ∈ kvs, ∃ t u, t ∈ A ∧ u ≤ st.length ∧ p = (keyTU t u, .int (sizeF st t u : Nat))
def allSteps (ns : List Str) : List Stp := ns.flatMap fun a => (ns.filter fun b => !decide (a = b)).map fun b => (a, b)
end Q
set_option Elab.async false
set_option linter.all false
set_option maxRecDepth 100000
set_option maxHeartbeats 4000000
namespace Q
open PySem PySem.Spec PyProof.Rows L2 My
section
variable {X : Cx} {g0 : Gh} {e : Expr} {we : WE} {pos : Pos}
def wFzL (w : WE) : WE := fun z Q => w z fun d z1 => ∃ p ds, d = .ref p ∧ z1.M p = some (.lst ds) ∧ Q (.lst ds) ⟨z1.ρ, mupd z1.M p none⟩
/-- x += e, x -= e of ints -/
def sAug (i : Nat) (f : Int → Int → Int) (we : WE) : WS := fun E z => ∃ a, z.ρ[i]? = some (some (.int a)) ∧ we z fun y z1 => ∃ b, y = .int b ∧ E.nx ⟨z1.ρ.set i (some (.int (f a b))), z1.M⟩
end
end Q
set_option Elab.async false
set_option linter.all false
set_option maxRecDepth 100000
set_option maxHeartbeats 4000000
namespace Q
open PySem PySem.Spec PyProof.Rows L2 My
section
variable {X : Cx} {g0 : Gh} {tg e : Expr} {we : WE} {wa : WA} {apos cpos p pos : Pos}
def wVals (we : WE) : WI := fun z Q => we z fun d z1 => ∃ kvs, d = .dct kvs ∧ Q (kvs.map (·.2)) z1
def wItemsD (we : WE) : WI := fun z Q => we z fun d z1 => ∃ kvs, d = .dct kvs ∧ Q (kvs.map fun p => .tup [kD p.1, p.2]) z1
end
end Q
set_option Elab.async false
set_option linter.all false
set_option maxRecDepth 100000
set_option maxHeartbeats 4000000
namespace Q
open PySem PySem.Spec PyProof.Rows L2 My
def wPrs : List (WE × WE) → Z → (List (D × D) → Z → Prop) → Prop
  | [], z, Q => Q [] z
  | w :: ws, z, Q => w.1 z fun x z1 => w.2 z1 fun y z2 => wPrs ws z2 fun ps z3 => Q ((x, y) :: ps) z3
inductive HasP (K : PySem.W.Frag) (g : Gh) : List (V × V) → List (D × D) → Prop
  | nil : HasP K g [] []
  | cons {v u : V} {x y : D} {vs : List (V × V)} {ds : List (D × D)} : Has K g v x → Has K g u y → HasP K g vs ds → HasP K g ((v, u) :: vs) ((x, y) :: ds)
def keysD : List (D × D) → Option (List (Key × D))
  | [] => some []
  | (k, d) :: r => match keyOf k, keysD r with
    | some k, some r => some ((k, d) :: r)
    | _, _ => none
theorem keysD_ok {K : PySem.W.Frag} {g : Gh} : ∀ {vs : List (V × V)} {ps : List (D × D)} {kvs : List (Key × D)}, HasP K g vs ps → keysD ps = some kvs → ∃ kv : List (Key × V), vs = kv.map (fun p => (kV p.1, p.2)) ∧ kvs.map (·.1) = kv.map (·.1) ∧ HasL K g (kv.map (·.2)) (kvs.map (·.2))
  | _, _, kvs, .nil, h => by cases h; exact ⟨[], rfl, rfl, .nil⟩
  | _, _, kvs, .cons (v := v) (u := u) (x := x) (y := y) a b t, h => by
    unfold keysD at h
    split at h
    · rename_i k r h1 h2
      cases h
      obtain ⟨kv, e1, e2, e3⟩ := keysD_ok t h2
      obtain rfl := keyOf_kV a h1
      exact ⟨(k, u) :: kv, by rw [e1]; rfl, by simp [e2], .cons b e3⟩
    · cases h
def anyE (K : PySem.W.Frag) (w : WE) : TE := fun σ H Q => ∃ g0, upE K g0 w σ H Q
structure QPs (X : Cx) (pos : Pos) (ks : List (Option Expr)) (vs : List Expr) (ws : List (WE × WE)) : Prop where
  mono : ∀ w ∈ ws, MonoE w.1 ∧ MonoE w.2
  run : PPs X pos ks vs (ws.map fun w => (anyE X.K w.1, anyE X.K w.2))
  all : ks.all (·.isSome) = true
  len : ks.length = vs.length
theorem wPrs.mono : ∀ {ws : List (WE × WE)}, (∀ w ∈ ws, MonoE w.1 ∧ MonoE w.2) → ∀ z Q Q', (∀ ps z', Q ps z' → Q' ps z') → wPrs ws z Q → wPrs ws z Q'
  | [], _, z, Q, Q', k, h => k _ _ h
  | w :: ws, m, z, Q, Q', k, h => (m w List.mem_cons_self).1 _ _ _ (fun x z1 h1 => (m w List.mem_cons_self).2 _ _ _ (fun y z2 h2 => wPrs.mono (fun w hw => m w (List.mem_cons_of_mem _ hw)) _ _ _ (fun ps z3 q => k _ _ q) h2) h1) h
theorem pairs_up {K : PySem.W.Frag} {σ : L2.St} : ∀ {ws : List (WE × WE)}, (∀ w ∈ ws, MonoE w.1 ∧ MonoE w.2) → ∀ {g : Gh} {z : Z} {H : Hp} {Q : List (V × V) → Hp → Prop}, RR K g z σ H →
    wPrs ws z (fun ps z' => ∀ vs g' H', g.le g' → RR K g' z' σ H' → HasP K g' vs ps → Q vs H') → tPairs (ws.map fun w => (anyE K w.1, anyE K w.2)) σ H Q
  | [], _, g, z, H, Q, r, h => h [] g H (.refl g) r .nil
  | w :: ws, m, g, z, H, Q, r, h => by
    refine ⟨g, g, z, .refl g, r, (m w List.mem_cons_self).1 _ _ _ (fun x z1 h1 v g1 H1 e1 r1 a1 => ⟨g1, g1, z1, .refl g1, r1, (m w List.mem_cons_self).2 _ _ _ (fun y z2 h2 u g2 H2 e2 r2 a2 => ?_) h1⟩) h⟩
    refine pairs_up (fun w hw => m w (List.mem_cons_of_mem _ hw)) r2 (wPrs.mono (fun w hw => m w (List.mem_cons_of_mem _ hw)) _ _ _ (fun ps z3 q vs g3 H3 e3 r3 a3 => ?_) h2)
    exact q _ g3 H3 ((e1.trans e2).trans e3) r3 (.cons ((a1.le e2).le e3) (a2.le e3) a3)
section
variable {X : Cx} {g0 : Gh} {pos : Pos} {ks : List (Option Expr)} {vs : List Expr} {ws : List (WE × WE)} {k v : Expr} {wk wv : WE}
theorem qps_nil : QPs X pos [] [] [] := ⟨fun w hw => (nomatch hw), pps_nil, rfl, rfl⟩
theorem qps_cons (hk : ∀ g0, QE X g0 k wk) (hv : ∀ g0, QE X g0 v wv) (hr : QPs X pos ks vs ws) : QPs X pos (some k :: ks) (v :: vs) ((wk, wv) :: ws) := by
  refine ⟨fun w hw => ?_, pps_cons (PE.any fun g0 => (hk g0).run) (PE.any fun g0 => (hv g0).run) hr.run, by rw [List.all_cons, hr.all]; rfl, by rw [List.length_cons, List.length_cons, hr.len]⟩
  rcases List.mem_cons.mp hw with rfl | hw
  · exact ⟨(hk ⟨fun _ => none, fun _ => none, none⟩).mono, (hv ⟨fun _ => none, fun _ => none, none⟩).mono⟩
  · exact hr.mono w hw
def wDisp (ws : List (WE × WE)) : WE := fun z Q => wPrs ws z fun ps z1 => ∃ kvs, keysD ps = some kvs ∧ kvs.length ≤ 15 ∧ ∀ p, z1.M p = none → Q (.ref p) ⟨z1.ρ, mupd z1.M p (some (.dct (mergeD [] kvs)))⟩
theorem qe_disp (h : QPs X pos ks vs ws) (h0 : ks ≠ []) (h15 : ks.length ≤ 15) : QE X g0 (.Dict ks vs pos) (wDisp ws) := by
  refine ⟨fun z Q Q' k hq => wPrs.mono h.mono _ _ _ (fun ps z1 ⟨kvs, q1, q2, q3⟩ => ⟨kvs, q1, q2, fun p hp => k _ _ (q3 p hp)⟩) hq, (pe_disp h.run h.all h.len h0 h15).imp fun σ H Q ⟨g, z, l0, r, hq⟩ p hp => ?_⟩
  have wf : WR X.K (g.fr p (.dK [])) z.M (upd H p (.dK [])) := r.wr.frame (r.wr.hsn hp) (r.wr.frn hp) (r.wr.mtn hp) (fun B hB => r.wr.nbag hp hB) upd_same fun a u q hu => by rw [upd_ne q]; exact hu
  have rf : RR X.K (g.fr p (.dK [])) z σ (upd H p (.dK [])) := ⟨wf, r.sl.sub Gh.sub_fr⟩
  refine pairs_up h.mono rf (wPrs.mono h.mono _ _ _ (fun ps z1 ⟨kvs, q1, q2, q3⟩ vs g1 H1 e1 r1 a1 => ?_) hq)
  obtain ⟨w8, e8, L8, hD8⟩ := Lone.back (r.wr.frn hp) e1 r1.wr
  have sb : g1.sub ⟨g1.Hs, g.F, g1.bg⟩ := ⟨Same.refl _, fun _ q => q⟩
  obtain ⟨kv, rfl, k2, k3⟩ := keysD_ok a1 q1
  obtain ⟨m1, m2⟩ := merge_ok (kvs := []) (kv := []) k2 (k3.sub sb) rfl .nil
  have hl : kv.length = kvs.length := by have := congrArg List.length k2; simpa using this.symm
  refine ⟨hD8, kv, rfl, by rw [hl]; exact q2, ?_⟩
  exact q3 p L8.mt (.ref p) ⟨g1.Hs, g.F, g1.bg⟩ _ e8 ⟨w8.open' L8.hs L8.fr L8.bg ⟨_, upd_same, m1, m2⟩ fun a u q hu => by rw [upd_ne q]; exact hu, r1.sl.sub sb⟩ (.ref p)
end
end Q
set_option Elab.async false
set_option linter.all false
set_option maxRecDepth 100000
set_option maxHeartbeats 4000000
set_option Elab.async false
set_option linter.all false
set_option maxRecDepth 100000
set_option maxHeartbeats 4000000
namespace Q
open PySem PySem.Spec PyProof.Rows L2 My
def StP (w : Wb) (p : Str × Str) : Prop := p.1 ∈ w.map (·.1) ∧ p.2 ∈ w.map (·.1) ∧ p.1 ≠ p.2
end Q
set_option Elab.async false
set_option linter.all false
set_option maxRecDepth 100000
set_option maxHeartbeats 4000000
namespace Q
open PySem PySem.Spec PyProof.Rows L2 My
theorem valD_put {κ : Type} [DecidableEq κ] (kvs : List (κ × D)) (k : κ) (v : D) : valD (putD kvs k v) k = some v := by
  unfold putD
  split
  · rename_i h
    induction kvs with
    | nil => simp at h
    | cons p l ih =>
      rw [List.map_cons]
      by_cases e : p.1 = k
      · rw [if_pos e]
        unfold valD
        rw [List.find?_cons]
        simp [e]
      · rw [if_neg e]
        have : (l.any fun kv => decide (kv.1 = k)) = true := by
          rw [List.any_cons] at h
          simpa [e] using h
        have ih := ih this
        unfold valD at ih ⊢
        rw [List.find?_cons]
        simpa [e] using ih
  · rename_i h
    unfold valD
    have : kvs.find? (fun kv => decide (kv.1 = k)) = none := List.find?_eq_none.mpr fun p hp q => h (List.any_eq_true.mpr ⟨p, hp, q⟩)
    rw [List.find?_append, this]
    simp
theorem valD_mem {κ : Type} [DecidableEq κ] {kvs : List (κ × D)} {k : κ} {d : D} (h : valD kvs k = some d) : (k, d) ∈ kvs := by
  unfold valD at h
  obtain ⟨p, hp, rfl⟩ := Option.map_eq_some_iff.mp h
  have := List.find?_some hp
  have e : p.1 = k := of_decide_eq_true this
  have := List.mem_of_find?_eq_some hp
  rw [← e]
  exact this
theorem keyTU_inj {t t' : Str} {u u' : Nat} (h : keyTU t u = keyTU t' u') : t = t' ∧ u = u' := by
  unfold keyTU at h
  simp only [List.cons.injEq, Sum.inr.injEq, Sum.inl.injEq, and_true] at h
  exact ⟨h.1, by omega⟩
theorem Known.nil (st : List Stp) (A : List Str) : Known st A [] := ⟨List.nodup_nil, fun p h => nomatch h⟩
theorem Known.put {st : List Stp} {A : List Str} {kvs : List (List Key × D)} (h : Known st A kvs) {t : Str} {u : Nat} (ht : t ∈ A) (hu : u ≤ st.length) : Known st A (putD kvs (keyTU t u) (.int (sizeF st t u : Nat))) := by
  unfold putD
  split
  · refine ⟨?_, fun p hp => ?_⟩
    · rw [List.map_map]
      have : (kvs.map ((fun p => p.1) ∘ fun kv => if kv.1 = keyTU t u then (kv.1, D.int (sizeF st t u : Nat)) else kv)) = kvs.map (·.1) := List.map_congr_left fun p _ => by
        show (if p.1 = keyTU t u then (p.1, D.int (sizeF st t u : Nat)) else p).1 = p.1
        split <;> rfl
      rw [this]
      exact h.nd
    · obtain ⟨q, hq, rfl⟩ := List.mem_map.mp hp
      obtain ⟨t', u', h1, h2, h3⟩ := h.ok q hq
      by_cases e : q.1 = keyTU t u
      · rw [if_pos e]
        exact ⟨t, u, ht, hu, by rw [e]⟩
      · rw [if_neg e]
        exact ⟨t', u', h1, h2, h3⟩
  · rename_i hn
    refine ⟨?_, fun p hp => ?_⟩
    · rw [List.map_append, List.nodup_append]
      refine ⟨h.nd, by simp, fun a ha b hb => ?_⟩
      obtain ⟨q, hq, rfl⟩ := List.mem_map.mp ha
      have hb : b = keyTU t u := by simpa using hb
      rw [hb]
      exact fun e => hn (List.any_eq_true.mpr ⟨q, hq, decide_eq_true e⟩)
    · rcases List.mem_append.mp hp with hp | hp
      · exact h.ok p hp
      · exact ⟨t, u, ht, hu, List.mem_singleton.mp hp⟩
theorem Known.val {st : List Stp} {A : List Str} {kvs : List (List Key × D)} (h : Known st A kvs) {t : Str} {u : Nat} {d : D} (e : valD kvs (keyTU t u) = some d) : d = .int (sizeF st t u : Nat) := by
  obtain ⟨t', u', _, _, h3⟩ := h.ok _ (valD_mem e)
  obtain ⟨h4, h5⟩ := Prod.mk.inj h3
  obtain ⟨rfl, rfl⟩ := keyTU_inj h4
  exact h5
theorem Known.len {st : List Stp} {A : List Str} {kvs : List (List Key × D)} (h : Known st A kvs) : kvs.length ≤ A.length * (st.length + 1) := by
  have := h.nd.length_le_of_subset (l₂ := A.flatMap fun t => (List.range (st.length + 1)).map fun u => keyTU t u) fun k hk => by
    obtain ⟨p, hp, rfl⟩ := List.mem_map.mp hk
    obtain ⟨t, u, h1, h2, rfl⟩ := h.ok p hp
    exact List.mem_flatMap.mpr ⟨t, h1, List.mem_map.mpr ⟨u, List.mem_range.mpr (by omega), rfl⟩⟩
  rw [List.length_map, List.length_flatMap] at this
  have e : (A.map fun t => ((List.range (st.length + 1)).map fun u => keyTU t u).length).sum = A.length * (st.length + 1) := by
    clear this h
    induction A with
    | nil => simp
    | cons a A ih => rw [List.map_cons, List.sum_cons, ih, List.length_map, List.length_range, List.length_cons, Nat.succ_mul]; omega
  omega
def unStr : D → Str
  | .str a => a
  | _ => default
end Q
set_option Elab.async false
set_option linter.all false
set_option maxRecDepth 100000
set_option maxHeartbeats 4000000
namespace Q
open PySem PySem.Spec PyProof.Rows L2 My
structure Ten (w : Wb) (st : List Stp) : Prop where
  few : st.length ≤ 10
  ok : ∀ s ∈ st, StP w s
theorem Ten.take {w : Wb} {st : List Stp} (h : Ten w st) (n : Nat) : Ten w (st.take n) := ⟨by rw [List.length_take]; have := h.few; omega, fun s hs => h.ok s (List.mem_of_mem_take hs)⟩
theorem sl_l {M : Mp} {ds : List D} {lo hi : Option Int} {Q : KD} (h : Q (.lst (cutD ds lo hi)) M) : rdSl (.lst ds) lo hi M Q := h
theorem deq_str (a b : Str) : deq (.str a) (.str b) = decide (a = b) := by
  unfold deq
  simp only [D.py, PyData.eqv]
  by_cases e : a = b <;> simp [e]
end Q
set_option Elab.async false
set_option linter.all false
set_option maxRecDepth 100000
set_option maxHeartbeats 4000000
namespace Q
open PySem PySem.Spec PySem.Calls PyProof.Rows PyProof.V L2 My
/-- a zip of two lists behind i items, its tuples kept elsewhere; S stands apart -/
structure ZS (h : Heap) (z TI TO i1 i2 l1 l2 : Addr) (xs ys : Array Value) (S : Addr) (i : Nat) : Prop where
  ti : IsPair h TI (.ref i1) (.ref i2)
  a1 : h.IsListIter i1 l1 i
  a2 : h.IsListIter i2 l2 i
  b1 : h.IsList l1 xs
  b2 : h.IsList l2 ys
  z : (IsZip h z TI TO .none ∧ ∃ a b, IsPair h TO a b) ∨ ∃ T f oT, IsZipHeld h z TI TO T f ∧ h.get? T = some oT ∧ T ≠ z ∧ T ≠ i1 ∧ T ≠ i2 ∧ T ≠ S
/-- S is none of them -/
structure ZF (z TI TO i1 i2 l1 l2 S : Addr) : Prop where
  z : z ≠ S
  ti : TI ≠ S
  to : TO ≠ S
  i1 : i1 ≠ S
  i2 : i2 ≠ S
  l1 : l1 ≠ S
  l2 : l2 ≠ S
section
variable {z TI TO i1 i2 l1 l2 S : Addr} {xs ys : Array Value} {i : Nat}
theorem ZS.keep {h h' : Heap} (x : ZS h z TI TO i1 i2 l1 l2 xs ys S i) (F : ZF z TI TO i1 i2 l1 l2 S) (hk : ∀ b o, b ≠ S → h.get? b = some o → h'.get? b = some o) : ZS h' z TI TO i1 i2 l1 l2 xs ys S i := by
  refine ⟨hk _ _ F.ti x.ti, x.a1.at fun o e => hk _ o F.i1 e, x.a2.at fun o e => hk _ o F.i2 e, x.b1.at fun o e => hk _ o F.l1 e, x.b2.at fun o e => hk _ o F.l2 e, ?_⟩
  rcases x.z with ⟨h1, a, b, h2⟩ | ⟨T, f, oT, h1, h2, h3, h4, h5, h6⟩
  · exact .inl ⟨hk _ _ F.z h1, a, b, hk _ _ F.to h2⟩
  · exact .inr ⟨T, f, oT, hk _ _ F.z h1, hk _ _ h6 h2, h3, h4, h5, h6⟩
end
section
variable {prog : Program} {w : World} {A : Around} {s : Shared} {z TI TO i1 i2 l1 l2 S : Addr} {xs ys : Array Value} {i : Nat}
theorem ZS.ty (st : ZS s.heap z TI TO i1 i2 l1 l2 xs ys S i) : s.TypeIs (.ref z) "zip" := by
  rcases st.z with ⟨h1, _⟩ | ⟨T, f, oT, h1, _⟩
  · exact ⟨_, h1, rfl⟩
  · exact ⟨_, h1, rfl⟩
end
end Q
set_option Elab.async false
set_option linter.all false
set_option maxRecDepth 100000
set_option maxHeartbeats 4000000
set_option Elab.async false
set_option linter.all false
set_option maxRecDepth 100000
set_option maxHeartbeats 4000000
set_option Elab.async false
set_option linter.all false
set_option maxRecDepth 100000
set_option maxHeartbeats 4000000
set_option Elab.async false
set_option linter.all false
set_option maxRecDepth 100000
set_option maxHeartbeats 4000000
namespace Q
open PySem PySem.Spec PyProof.Rows L2 My
def dcGoT (g : WG) (tt : WT) (tk tv : WE) (ρ : List (Option D)) (Q : List (List Key × D) → Mp → Prop) : List D → List (List Key × D) → Mp → Prop
  | [], acc, M => Q acc M
  | d :: ds, acc, M => g d ⟨ρ, M⟩ fun z2 => tt z2 fun b z3 => if b = true then tk z3 fun y z4 => tv z4 fun v z5 => ∃ k, keyT y = some k ∧ dcGoT g tt tk tv ρ Q ds (putD acc k v) z5.M else dcGoT g tt tk tv ρ Q ds acc z3.M
theorem dcGoT.mono {g : WG} {tt : WT} {tk tv : WE} {ρ : List (Option D)} {Q Q' : List (List Key × D) → Mp → Prop} (hg : MonoG g) (ht : MonoT tt) (hk : MonoE tk) (he : MonoE tv) (k : ∀ ds M, Q ds M → Q' ds M) : ∀ ds acc M, dcGoT g tt tk tv ρ Q ds acc M → dcGoT g tt tk tv ρ Q' ds acc M
  | [], acc, M, h => k _ _ h
  | d :: ds, acc, M, h => hg _ _ _ _ (fun z2 h2 => ht _ _ _ (fun b z3 h3 => by
    cases b with
    | true => exact hk _ _ _ (fun y z4 h4 => he _ _ _ (fun v z5 ⟨k', e, h5⟩ => ⟨k', e, dcGoT.mono hg ht hk he k ds _ _ h5⟩) h4) h3
    | false => exact dcGoT.mono hg ht hk he k ds _ _ h3) h2) h
/-- the new dict may change -/
def wDcT (wi : WI) (g : WG) (tt : WT) (tk tv : WE) (vs : List Nat) : WE := fun z Q => wi z fun ds z1 => ds.length ≤ sizeLine ∧ dcGoT g tt tk tv (wipeD z1.ρ vs) (fun acc M => ∀ p, M p = none → Q (.ref p) ⟨z1.ρ, mupd M p (some (.dcT acc))⟩) ds [] z1.M
end Q
set_option Elab.async false
set_option linter.all false
set_option maxRecDepth 100000
set_option maxHeartbeats 4000000
namespace Q
open PySem PySem.Spec PyProof.Rows L2 My
section
variable {X : Cx} {g0 : Gh} {e : Expr}
/-- the list at name i is lent for a test -/
def wLendT (i : Nat) (w : WT) : WT := fun z Q => ∃ p ds, z.ρ[i]? = some (some (.ref p)) ∧ z.M p = some (.lst ds) ∧ w ⟨z.ρ.set i (some (.lst ds)), fun _ => none⟩ fun b _ => Q b z
/-- for .. in a list that may change, and does not while it is walked -/
def wLoopM (g : WG) (b : WS) (E : En) (p : Addr) (all : List D) : List D → Z → Prop
  | [], z => z.M p = some (.lst all) ∧ E.nx z
  | d :: ds, z => z.M p = some (.lst all) ∧ g d z fun z1 => b { E with nx := wLoopM g b E p all ds, ct := wLoopM g b E p all ds, bk := E.nx } z1
theorem wLoopM.mono {g : WG} {b : WS} (hg : MonoG g) (hb : MonoS b) {E E' : En} {p : Addr} {all : List D} (l : E.le E') : ∀ ds z, wLoopM g b E p all ds z → wLoopM g b E' p all ds z
  | [], z, h => ⟨h.1, l.nx _ h.2⟩
  | d :: ds, z, h => ⟨h.1, hg _ _ _ _ (fun z1 h1 => hb { E with nx := wLoopM g b E p all ds, ct := wLoopM g b E p all ds, bk := E.nx } { E' with nx := wLoopM g b E' p all ds, ct := wLoopM g b E' p all ds, bk := E'.nx } _ ⟨fun z2 q => wLoopM.mono hg hb l ds z2 q, l.rt, fun z2 q => l.nx _ q, fun z2 q => wLoopM.mono hg hb l ds z2 q⟩ h1) h.2⟩
def wForM (i : Nat) (g : WG) (b : WS) : WS := fun E z => ∃ p ds, z.ρ[i]? = some (some (.ref p)) ∧ z.M p = some (.lst ds) ∧ wLoopM g b E p ds ds z
end
end Q
set_option Elab.async false
set_option linter.all false
set_option maxRecDepth 100000
set_option maxHeartbeats 4000000
namespace Q
open PySem PySem.Spec PyProof.Rows L2 My
abbrev colsF (w : Wb) (n : Str) : List Str := (w.lookup n).getD []
abbrev namesF (w : Wb) : List Str := ssort (w.map (·.1))
def commonF (w : Wb) (a b : Str) : List Str := (ssort (colsF w a)).filter fun c => decide (c ∈ ssort (colsF w b))
def den_Question_tables (C : Addr) : Den := fun ds M Q => ∃ w : Wb, ds = [questD C w] ∧ w.length ≤ 6 ∧ Q (.lst (sts (namesF w))) M
theorem mo_Question_tables {C : Addr} : MonoD (den_Question_tables C) := fun ds M Q Q' k ⟨w, h1, h2, h3⟩ => ⟨w, h1, h2, k _ _ h3⟩
theorem ln_Question_tables {C : Addr} : ∀ ds M Q, den_Question_tables C ds M Q → ds.length = 1 := fun ds M Q ⟨_, h1, _⟩ => by rw [h1]; rfl
def den_Question_need (C : Addr) : Den := fun ds M Q => ∃ (w : Wb) (ns : List Str), ds = [questD C w, .lst (sts ns)] ∧ (w.map (·.1)).Nodup ∧ ns.length ≤ 100 ∧ (∀ n ∈ ns, n ∈ w.map (·.1)) ∧ Q .non M
theorem mo_Question_need {C : Addr} : MonoD (den_Question_need C) := fun ds M Q Q' k ⟨w, n, h1, h2, h3, h4, h5⟩ => ⟨w, n, h1, h2, h3, h4, k _ _ h5⟩
theorem ln_Question_need {C : Addr} : ∀ ds M Q, den_Question_need C ds M Q → ds.length = 2 := fun ds M Q ⟨_, _, h1, _⟩ => by rw [h1]; rfl
def den_Question_columns (C : Addr) : Den := fun ds M Q => ∃ (w : Wb) (n : Str), ds = [questD C w, .str n] ∧ (w.map (·.1)).Nodup ∧ n ∈ w.map (·.1) ∧ Q (.tux (ssort (colsF w n))) M
theorem mo_Question_columns {C : Addr} : MonoD (den_Question_columns C) := fun ds M Q Q' k ⟨w, n, h1, h2, h3, h4⟩ => ⟨w, n, h1, h2, h3, k _ _ h4⟩
theorem ln_Question_columns {C : Addr} : ∀ ds M Q, den_Question_columns C ds M Q → ds.length = 2 := fun ds M Q ⟨_, _, h1, _⟩ => by rw [h1]; rfl
structure Ren (t : Str → Str) (old : List Str) : Prop where
  nm : ∀ x ∈ old, Name (t x)
  inj : ∀ x ∈ old, ∀ y ∈ old, t x = t y → x = y
  mono : ∀ x ∈ old, ∀ y ∈ old, sle x y = true → sle (t x) (t y) = true
theorem Ren.sub {t : Str → Str} {old xs : List Str} (h : Ren t old) (hs : ∀ x ∈ xs, x ∈ old) : Ren t xs := ⟨fun x hx => h.nm x (hs x hx), fun x hx y hy => h.inj x (hs x hx) y (hs y hy), fun x hx y hy => h.mono x (hs x hx) y (hs y hy)⟩
end Q
set_option Elab.async false
set_option linter.all false
set_option maxRecDepth 100000
set_option maxHeartbeats 4000000
namespace Q
open PySem PySem.Spec PyProof.Rows L2 My
theorem held_at (w : Wb) (nd : (w.map (·.1)).Nodup) {n : Str} (hn : n ∈ w.map (·.1)) : valD (heldD w) (.inr n) = some (.tux (ssort (colsF w n))) :=
  valD_map (f := fun n : Str => n) (g := fun n => .tux (ssort ((w.lookup n).getD []))) (mem_ssort.mpr hn) (by rw [List.map_id']; exact (ssort_perm _).nodup_iff.mpr nd)
theorem any_sts (ss : List Str) (c : Str) : ((sts ss).any fun z => deq z (.str c)) = decide (c ∈ ss) := by
  unfold sts
  rw [List.any_map]
  induction ss with
  | nil => rfl
  | cons a r ih =>
    rw [List.any_cons, ih]
    show (deq (.str a) (.str c) || decide (c ∈ r)) = _
    rw [deq_str]
    by_cases h : a = c
    · subst h; simp
    · have : ¬ c = a := fun e => h e.symm
      simp [h, this]
theorem flat_sts (ss : List Str) : (sts ss).all flatD = true := List.all_eq_true.mpr fun d hd => by
  obtain ⟨s, _, rfl⟩ := List.mem_map.mp hd
  rfl
theorem list_d {M : Mp} {w : Wb} {Q : KD} (q : Q (.lst (sts (namesF w))) M) : rdList [.dct (heldD w)] M Q := ⟨_, _, rfl, by
  show some ((heldD w).map fun p => kD p.1) = some (sts (namesF w))
  unfold heldD sts
  rw [List.map_map]
  rfl, q⟩
theorem nd_len : ∀ {xs L : List Str}, xs.Nodup → (∀ x ∈ xs, x ∈ L) → xs.length ≤ L.length
  | [], _, _, _ => Nat.zero_le _
  | x :: xs, L, nd, h => by
    obtain ⟨h1, h2⟩ := List.nodup_cons.mp nd
    have hx := h x List.mem_cons_self
    have e := (List.perm_cons_erase hx).length_eq
    have := nd_len (xs := xs) (L := L.erase x) h2 fun y hy => (List.mem_erase_of_ne (show y ≠ x from fun e => h1 (by rw [← e]; exact hy))).mpr (h y (List.mem_cons_of_mem _ hy))
    rw [List.length_cons] at e ⊢
    omega
section
variable {w : Wb} {t l : Str → Str}
theorem names_mem {n : Str} : n ∈ namesF w ↔ n ∈ w.map (·.1) := mem_ssort
end
end Q
set_option Elab.async false
set_option linter.all false
set_option maxRecDepth 100000
set_option maxHeartbeats 4000000
namespace Q
open PySem PySem.Spec PyProof.Rows L2 My
theorem allSteps_mem {ns : List Str} {p : Stp} (h : p ∈ allSteps ns) : p.1 ∈ ns ∧ p.2 ∈ ns := by
  obtain ⟨a, ha, hb⟩ := List.mem_flatMap.mp h
  obtain ⟨b, hb', rfl⟩ := List.mem_map.mp hb
  exact ⟨ha, (List.mem_filter.mp hb').1⟩
theorem names_names {w : Wb} (ok : WebOk w) : Names (namesF w) := ok.nm.perm (ssort_perm _)
theorem names_len (w : Wb) : (namesF w).length = w.length := by unfold namesF; rw [length_ssort, List.length_map]
end Q
set_option Elab.async false
set_option linter.all false
set_option maxRecDepth 100000
set_option maxHeartbeats 4000000
namespace Q
open PySem PySem.Spec PyProof.Rows L2 My
/-- no two neighbours are equal -/
def nbrs : List Str → Bool
  | a :: b :: r => !decide (a = b) && nbrs (b :: r)
  | _ => true
/-- a way of some tables -/
structure WayOk (ns : List Str) (a : List Str) : Prop where
  ne : a ≠ []
  nb : nbrs a = true
  nm : ∀ s ∈ a, s ∈ ns
  len : a.length ≤ 60
/-- a tree: its root, and ways that go on from others, ascending -/
structure TreeOk (ns : List Str) (ws : List (List Str)) : Prop where
  way : ∀ a ∈ ws, WayOk ns a
  asc : ws.Pairwise fun a b => tlt a b = true
  root : ∃ r rest, ws = [r] :: rest ∧ ∀ a ∈ rest, 2 ≤ a.length
  up : ∀ a ∈ ws, 2 ≤ a.length → a.dropLast ∈ ws
  few : ws.length ≤ 400
/-- the tree at a node -/
def atF (ws : List (List Str)) (a : List Str) : List (List Str) := (ws.filter fun b => decide (b.take a.length = a)).map fun b => b.drop (a.length - 1)
end Q
set_option Elab.async false
set_option linter.all false
set_option maxRecDepth 100000
set_option maxHeartbeats 4000000
namespace Q
open PySem PySem.Spec PyProof.Rows L2 My
theorem tlt_irrefl : ∀ a : List Str, tlt a a = false
  | [] => rfl
  | a :: r => by unfold tlt; rw [if_pos rfl]; exact tlt_irrefl r
theorem asc_nodup {ws : List (List Str)} (h : ws.Pairwise fun a b => tlt a b = true) : ws.Nodup := h.imp fun {a b} q e => by rw [e, tlt_irrefl] at q; cases q
section
variable {ns : List Str} {ws : List (List Str)} {a : List Str}
theorem mem_at {c : List Str} : c ∈ atF ws a ↔ ∃ b ∈ ws, b.take a.length = a ∧ c = b.drop (a.length - 1) := by
  unfold atF
  rw [List.mem_map]
  exact ⟨fun ⟨b, hb, e⟩ => ⟨b, (List.mem_filter.mp hb).1, of_decide_eq_true (List.mem_filter.mp hb).2, e.symm⟩, fun ⟨b, h1, h2, e⟩ => ⟨b, List.mem_filter.mpr ⟨h1, decide_eq_true h2⟩, e.symm⟩⟩
end
end Q
set_option Elab.async false
set_option linter.all false
set_option maxRecDepth 100000
set_option maxHeartbeats 4000000
namespace Q
open PySem PySem.Spec PyProof.Rows L2 My
theorem sl_t {M : Mp} {ds : List D} {lo hi : Option Int} {Q : KD} (h : Q (.tup (cutD ds lo hi)) M) : rdSl (.tup ds) lo hi M Q := h
end Q
namespace Q
open PySem PySem.Spec PyProof.Rows L2 My
theorem valD_some {κ : Type} [DecidableEq κ] {kvs : List (κ × D)} {k : κ} : (valD kvs k).isSome = true ↔ k ∈ kvs.map (·.1) := by
  unfold valD
  induction kvs with
  | nil => simp
  | cons p kvs ih =>
    rw [List.find?_cons]
    by_cases h : p.1 = k
    · simp [h]
    · have h' : ¬ k = p.1 := fun e => h e.symm
      simp [h, h'] at ih ⊢
end Q
set_option Elab.async false
set_option linter.all false
set_option maxRecDepth 100000
set_option maxHeartbeats 4000000
set_option Elab.async false
set_option linter.all false
set_option maxRecDepth 100000
set_option maxHeartbeats 4000000
namespace Q
open PySem PySem.Spec PyProof.Rows L2 My
theorem tlt_tri : ∀ (a b : List Str), tlt a b = false → tlt b a = false → a = b
  | [], [], _, _ => rfl
  | [], _ :: _, h, _ => nomatch h
  | _ :: _, [], _, h => nomatch h
  | a :: r, b :: t, h, k => by
    unfold tlt at h k
    by_cases e : a = b
    · subst e
      rw [if_pos rfl] at h k
      rw [tlt_tri r t h k]
    · rw [if_neg e] at h
      rw [if_neg (Ne.symm e)] at k
      exact absurd (slt_antisymm h k) e
theorem tlt_trans : ∀ {a b c : List Str}, tlt a b = true → tlt b c = true → tlt a c = true
  | [], [], _, h, _ => nomatch h
  | [], _ :: _, [], _, k => nomatch k
  | [], _ :: _, _ :: _, _, _ => rfl
  | _ :: _, [], _, h, _ => nomatch h
  | _ :: _, _ :: _, [], _, k => nomatch k
  | a :: r, b :: t, c :: u, h, k => by
    unfold tlt at h k ⊢
    by_cases e : a = b
    · subst e
      rw [if_pos rfl] at h
      by_cases e2 : a = c
      · rw [if_pos e2] at k ⊢; exact tlt_trans h k
      · rw [if_neg e2] at k ⊢; exact k
    · rw [if_neg e] at h
      by_cases e2 : b = c
      · subst e2
        rw [if_neg e]; exact h
      · rw [if_neg e2] at k
        have q := slt_trans h k
        rw [if_neg (fun z => by rw [z, slt_irrefl] at q; cases q)]
        exact q
def tle (a b : List Str) : Bool := !tlt b a
theorem tle_trans {a b c : List Str} (h : tle a b = true) (k : tle b c = true) : tle a c = true := by
  unfold tle at *
  cases q : tlt c a with
  | false => rfl
  | true =>
    exfalso
    cases q1 : tlt a b with
    | true =>
      rw [tlt_trans q q1] at k
      cases k
    | false =>
      have e := tlt_tri a b q1 (by simpa using h)
      subst e
      rw [q] at k
      cases k
theorem tle_total (a b : List Str) : (tle a b || tle b a) = true := by
  unfold tle
  cases q : tlt b a with
  | false => rfl
  | true => rw [tlt_asymm q]; rfl
def tsort (ws : List (List Str)) : List (List Str) := ws.mergeSort tle
theorem tsort_perm (ws : List (List Str)) : (tsort ws).Perm ws := List.mergeSort_perm ws tle
theorem tsort_asc {ws : List (List Str)} (nd : ws.Nodup) : (tsort ws).Pairwise fun a b => tlt a b = true := by
  have h1 : (tsort ws).Pairwise fun a b => tle a b = true := List.pairwise_mergeSort (le := tle) (fun a b c h k => tle_trans h k) (fun a b => tle_total a b) ws
  have h2 : (tsort ws).Nodup := (tsort_perm ws).nodup_iff.mpr nd
  refine (h1.and h2).imp fun {a b} ⟨h, ne⟩ => ?_
  cases q : tlt a b with
  | true => rfl
  | false => exact absurd (tlt_tri a b q (by unfold tle at h; simpa using h)) ne
theorem nbrs_snoc : ∀ {a : List Str} {o : Str} (hne : a ≠ []), nbrs a = true → o ≠ a.getLast hne → nbrs (a ++ [o]) = true
  | [], _, hne, _, _ => absurd rfl hne
  | [x], o, _, _, h => by
    show (!decide (x = o) && nbrs [o]) = true
    rw [decide_eq_false (fun e => h e.symm)]
    rfl
  | x :: y :: r, o, _, hn, h => by
    unfold nbrs at hn
    rw [Bool.and_eq_true] at hn
    show (!decide (x = y) && nbrs (y :: r ++ [o])) = true
    rw [hn.1, nbrs_snoc (a := y :: r) (by simp) hn.2 (by simpa using h)]
    rfl
structure Grow (ns : List Str) (r : Str) (n : Nat) (fs : List (List Str)) : Prop where
  nd : fs.Nodup
  ne : ∀ a ∈ fs, ∃ b, a = r :: b
  nb : ∀ a ∈ fs, nbrs a = true
  nm : ∀ a ∈ fs, ∀ s ∈ a, s ∈ ns
  len : ∀ a ∈ fs, a.length ≤ n
  root : [r] ∈ fs
  up : ∀ a ∈ fs, 2 ≤ a.length → a.dropLast ∈ fs
  few : fs.length ≤ n
theorem Grow.one {ns : List Str} {r : Str} (h : r ∈ ns) : Grow ns r 1 [[r]] := by
  refine ⟨by simp, fun a ha => ?_, fun a ha => ?_, fun a ha s hs => ?_, fun a ha => ?_, by simp, fun a ha h2 => ?_, by simp⟩ <;> obtain rfl := List.mem_singleton.mp ha
  · exact ⟨[], rfl⟩
  · rfl
  · rw [List.mem_singleton.mp hs]; exact h
  · simp
  · simp at h2
theorem Grow.keep {ns : List Str} {r : Str} {n : Nat} {fs : List (List Str)} (h : Grow ns r n fs) : Grow ns r (n + 1) fs :=
  ⟨h.nd, h.ne, h.nb, h.nm, fun a ha => Nat.le_succ_of_le (h.len a ha), h.root, h.up, Nat.le_succ_of_le h.few⟩
theorem Grow.add {ns : List Str} {r : Str} {n : Nat} {fs : List (List Str)} (h : Grow ns r n fs) {a : List Str} {o : Str} (ha : a ∈ fs) (hne : a ≠ []) (ho : o ∈ ns) (hl : o ≠ a.getLast hne) (hn : a ++ [o] ∉ fs) : Grow ns r (n + 1) (fs ++ [a ++ [o]]) := by
  have key : ∀ {P : List Str → Prop}, (∀ b ∈ fs, P b) → P (a ++ [o]) → ∀ b ∈ fs ++ [a ++ [o]], P b := fun h1 h2 b hb => by
    rcases List.mem_append.mp hb with hb | hb
    · exact h1 b hb
    · rw [List.mem_singleton.mp hb]; exact h2
  refine ⟨?_, key h.ne ?_, key h.nb (nbrs_snoc hne (h.nb a ha) hl), key h.nm ?_, key (fun b hb => Nat.le_succ_of_le (h.len b hb)) ?_, List.mem_append_left _ h.root, key (fun b hb h2 => List.mem_append_left _ (h.up b hb h2)) ?_, ?_⟩
  · rw [List.nodup_append]
    refine ⟨h.nd, by simp, fun b hb c hc => ?_⟩
    rw [List.mem_singleton.mp hc]
    exact fun e => hn (e ▸ hb)
  · obtain ⟨b, rfl⟩ := h.ne a ha
    exact ⟨b ++ [o], rfl⟩
  · intro s hs
    rcases List.mem_append.mp hs with hs | hs
    · exact h.nm a ha s hs
    · rw [List.mem_singleton.mp hs]; exact ho
  · rw [List.length_append]
    have := h.len a ha
    show a.length + 1 ≤ n + 1
    omega
  · intro _
    rw [List.dropLast_concat]
    exact List.mem_append_left _ ha
  · rw [List.length_append]
    have := h.few
    show fs.length + 1 ≤ n + 1
    omega
end Q
set_option Elab.async false
set_option linter.all false
set_option maxRecDepth 100000
set_option maxHeartbeats 4000000
namespace Q
open PySem PySem.Spec PyProof.Rows L2 My
inductive Lk (R : Str → Str → Prop) (a : Str) : Str → Prop
  | refl : Lk R a a
  | step {b c : Str} : Lk R a b → R b c → Lk R a c
theorem Lk.trans {R : Str → Str → Prop} {a b c : Str} (h : Lk R a b) (k : Lk R b c) : Lk R a c := by
  induction k with
  | refl => exact h
  | step _ r ih => exact ih.step r
theorem Lk.symm {R : Str → Str → Prop} (s : ∀ x y, R x y → R y x) {a b : Str} (h : Lk R a b) : Lk R b a := by
  induction h with
  | refl => exact .refl
  | step _ r ih => exact (Lk.refl.step (s _ _ r)).trans ih
theorem Lk.mono {R R' : Str → Str → Prop} (s : ∀ x y, R x y → R' x y) {a b : Str} (h : Lk R a b) : Lk R' a b := by
  induction h with
  | refl => exact .refl
  | step _ r ih => exact ih.step (s _ _ r)
/-- what is closed stays -/
theorem Lk.stay {R : Str → Str → Prop} {S : Str → Prop} (cl : ∀ x y, S x → R x y → S y) {a b : Str} (ha : S a) (h : Lk R a b) : S b := by
  induction h with
  | refl => exact ha
  | step _ r ih => exact cl _ _ ih r
/-- H among ns -/
def Rn (H : Str → Str → Bool) (ns : List Str) (a b : Str) : Prop := H a b = true ∧ a ∈ ns ∧ b ∈ ns
/-- the parts of ns by H -/
structure Parts (H : Str → Str → Bool) (ns : List Str) (ps : List (List Str)) : Prop where
  nd : ps.Nodup
  ne : ∀ p ∈ ps, p ≠ []
  so : ∀ p ∈ ps, sset p = p
  sub : ∀ p ∈ ps, ∀ a ∈ p, a ∈ ns
  all : ∀ n ∈ ns, ∃ p ∈ ps, n ∈ p
  cls : ∀ p ∈ ps, ∀ a ∈ p, ∀ b, b ∈ p ↔ Lk (Rn H ns) a b
theorem sset_ext {p q : List Str} (hp : sset p = p) (hq : sset q = q) (h : ∀ s, s ∈ p ↔ s ∈ q) : p = q := by
  have e : sset p = sset q := ssort_of_perm ((List.perm_ext_iff_of_nodup (nodup_ddp p) (nodup_ddp q)).mpr fun s => by rw [mem_ddp, mem_ddp]; exact h s)
  rw [hp, hq] at e
  exact e
section
variable {H : Str → Str → Bool} {ns : List Str} {ps qs : List (List Str)}
theorem Parts.one (h : Parts H ns ps) {p q : List Str} (hp : p ∈ ps) (hq : q ∈ ps) {a : Str} (ha : a ∈ p) (ka : a ∈ q) : p = q := sset_ext (h.so p hp) (h.so q hq) fun s => (h.cls p hp a ha s).trans (h.cls q hq a ka s).symm
theorem Parts.mem (h : Parts H ns ps) (k : Parts H ns qs) {p : List Str} (hp : p ∈ ps) : p ∈ qs := by
  cases e : p with
  | nil => exact absurd e (h.ne p hp)
  | cons a r =>
    have ha : a ∈ p := by rw [e]; exact List.mem_cons_self
    obtain ⟨q, hq, ka⟩ := k.all a (h.sub p hp a ha)
    have z : p = q := sset_ext (h.so p hp) (k.so q hq) fun s => (h.cls p hp a ha s).trans (k.cls q hq a ka s).symm
    rw [← e, z]
    exact hq
theorem Parts.perm (h : Parts H ns ps) {qs : List (List Str)} (p : qs.Perm ps) : Parts H ns qs :=
  ⟨p.nodup_iff.mpr h.nd, fun q hq => h.ne q (p.mem_iff.mp hq), fun q hq => h.so q (p.mem_iff.mp hq), fun q hq => h.sub q (p.mem_iff.mp hq), fun n hn => by
    obtain ⟨q, h1, h2⟩ := h.all n hn
    exact ⟨q, p.mem_iff.mpr h1, h2⟩, fun q hq => h.cls q (p.mem_iff.mp hq)⟩
theorem Parts.few (h : Parts H ns ps) : ps.length ≤ ns.length := by
  have key : ∀ l : List (List Str), l.Nodup → (∀ p ∈ l, p ∈ ps) → ∃ f : List Str, f.Nodup ∧ f.length = l.length ∧ ∀ a ∈ f, a ∈ ns ∧ ∃ p ∈ l, a ∈ p := by
    intro l
    induction l with
    | nil => exact fun _ _ => ⟨[], List.nodup_nil, rfl, fun a ha => nomatch ha⟩
    | cons p l ih =>
      intro nd hs
      obtain ⟨n1, n2⟩ := List.nodup_cons.mp nd
      obtain ⟨f, f1, f2, f3⟩ := ih n2 fun q hq => hs q (List.mem_cons_of_mem _ hq)
      have hp := hs p List.mem_cons_self
      cases e : p with
      | nil => exact absurd e (h.ne p hp)
      | cons a r =>
        have ha : a ∈ p := by rw [e]; exact List.mem_cons_self
        refine ⟨a :: f, List.nodup_cons.mpr ⟨fun hf => ?_, f1⟩, by rw [List.length_cons, List.length_cons, f2], fun b hb => ?_⟩
        · obtain ⟨_, q, hq, hq2⟩ := f3 a hf
          have z := h.one hp (hs q (List.mem_cons_of_mem _ hq)) ha hq2
          rw [z] at n1
          exact n1 hq
        · rcases List.mem_cons.mp hb with rfl | hb
          · exact ⟨h.sub p hp _ ha, _, List.mem_cons_self, e ▸ ha⟩
          · obtain ⟨g1, q, g2, g3⟩ := f3 b hb
            exact ⟨g1, q, List.mem_cons_of_mem _ g2, g3⟩
  obtain ⟨f, f1, f2, f3⟩ := key ps h.nd fun _ h => h
  rw [← f2]
  exact nd_len f1 fun a ha => (f3 a ha).1
def nearF (H : Str → Str → Bool) (t : Str) (p : List Str) : Bool := p.any fun e => H t e
theorem Parts.add (sy : ∀ a b, H a b = H b a) (h : Parts H ns ps) {t : Str} (ht : t ∉ ns) :
    Parts H (ns ++ [t]) (ps.filter (fun p => !nearF H t p) ++ [ssort ((ps.filter (nearF H t)).flatten ++ [t])]) := by
  have tp : ∀ p ∈ ps, t ∉ p := fun p hp z => ht (h.sub p hp t z)
  have memN : ∀ x, x ∈ ssort ((ps.filter (nearF H t)).flatten ++ [t]) ↔ x = t ∨ ∃ p ∈ ps, nearF H t p = true ∧ x ∈ p := fun x => by
    rw [mem_ssort, List.mem_append, List.mem_singleton, List.mem_flatten]
    constructor
    · rintro (⟨p, hp, hx⟩ | e)
      · obtain ⟨h1, h2⟩ := List.mem_filter.mp hp
        exact .inr ⟨p, h1, h2, hx⟩
      · exact .inl e
    · rintro (e | ⟨p, h1, h2, hx⟩)
      · exact .inr e
      · exact .inl ⟨p, List.mem_filter.mpr ⟨h1, h2⟩, hx⟩
  have tN : t ∈ ssort ((ps.filter (nearF H t)).flatten ++ [t]) := (memN t).mpr (.inl rfl)
  generalize hN : ssort ((ps.filter (nearF H t)).flatten ++ [t]) = N at memN tN
  have ndN : N.Nodup := by
    rw [← hN]
    refine (ssort_perm _).nodup_iff.mpr ?_
    rw [List.nodup_append]
    refine ⟨?_, (List.nodup_cons.mpr ⟨fun z => (nomatch z), List.nodup_nil⟩), fun a ha b hb => ?_⟩
    · have key : ∀ l : List (List Str), l.Nodup → (∀ p ∈ l, p ∈ ps) → l.flatten.Nodup := by
        intro l
        induction l with
        | nil => exact fun _ _ => List.nodup_nil
        | cons p l ih =>
          intro nd hs
          obtain ⟨n1, n2⟩ := List.nodup_cons.mp nd
          rw [List.flatten_cons, List.nodup_append]
          refine ⟨?_, ih n2 fun q hq => hs q (List.mem_cons_of_mem _ hq), fun a ha b hb e => ?_⟩
          · rw [← h.so p (hs p List.mem_cons_self)]
            exact nodup_sset p
          · subst e
            obtain ⟨q, hq, hq2⟩ := List.mem_flatten.mp hb
            have z := h.one (hs p List.mem_cons_self) (hs q (List.mem_cons_of_mem _ hq)) ha hq2
            rw [z] at n1
            exact n1 hq
      exact key _ (h.nd.sublist List.filter_sublist) fun p hp => (List.mem_filter.mp hp).1
    · rw [List.mem_singleton.mp hb]
      rintro rfl
      obtain ⟨p, hp, hx⟩ := List.mem_flatten.mp ha
      exact tp p (List.mem_filter.mp hp).1 hx
  have soN : sset N = N := by
    unfold sset
    rw [ddp_nodup ndN, ← hN]
    exact ssort_of_perm (ssort_perm _)
  have up : ∀ x y, Rn H ns x y → Rn H (ns ++ [t]) x y := fun x y ⟨a, b, c⟩ => ⟨a, List.mem_append_left _ b, List.mem_append_left _ c⟩
  have sy' : ∀ x y, Rn H (ns ++ [t]) x y → Rn H (ns ++ [t]) y x := fun x y ⟨a, b, c⟩ => ⟨by rw [sy]; exact a, c, b⟩
  have tn : t ∈ ns ++ [t] := List.mem_append_right _ (List.mem_singleton.mpr rfl)
  have far : ∀ p ∈ ps, nearF H t p = false → ∀ x y, x ∈ p → Rn H (ns ++ [t]) x y → y ∈ p := fun p hp hf x y hx ⟨r1, r2, r3⟩ => by
    rcases List.mem_append.mp r3 with r3 | r3
    · exact (h.cls p hp x hx y).mpr (Lk.refl.step ⟨r1, h.sub p hp x hx, r3⟩)
    · rw [List.mem_singleton.mp r3, sy] at r1
      exact absurd (List.any_eq_true.mpr ⟨x, hx, r1⟩) (by unfold nearF at hf; rw [hf]; decide)
  have toT : ∀ x, x ∈ N → Lk (Rn H (ns ++ [t])) x t := fun x hx => by
    rcases (memN x).mp hx with rfl | ⟨p, hp, hf, hx⟩
    · exact .refl
    · obtain ⟨e, he, r⟩ := List.any_eq_true.mp hf
      have l1 := ((h.cls p hp x hx e).mp he).mono up
      exact l1.step ⟨by rw [sy]; exact r, List.mem_append_left _ (h.sub p hp e he), tn⟩
  have clN : ∀ x y, x ∈ N → Rn H (ns ++ [t]) x y → y ∈ N := fun x y hx ⟨r1, r2, r3⟩ => by
    rcases List.mem_append.mp r3 with r3 | r3
    · obtain ⟨q, hq, hy⟩ := h.all y r3
      rcases (memN x).mp hx with rfl | ⟨p, hp, hf, hx⟩
      · exact (memN y).mpr (.inr ⟨q, hq, List.any_eq_true.mpr ⟨y, hy, r1⟩, hy⟩)
      · exact (memN y).mpr (.inr ⟨p, hp, hf, (h.cls p hp x hx y).mpr (Lk.refl.step ⟨r1, h.sub p hp x hx, r3⟩)⟩)
    · rw [List.mem_singleton.mp r3]
      exact tN
  refine ⟨?_, fun p hp => ?_, fun p hp => ?_, fun p hp a ha => ?_, fun n hn => ?_, fun p hp a ha b => ?_⟩
  · rw [List.nodup_append]
    refine ⟨h.nd.sublist List.filter_sublist, (List.nodup_cons.mpr ⟨fun z => (nomatch z), List.nodup_nil⟩), fun p hp q hq e => ?_⟩
    rw [List.mem_singleton.mp hq] at e
    rw [← e] at tN
    exact tp p (List.mem_filter.mp hp).1 tN
  · rcases List.mem_append.mp hp with hp | hp
    · exact h.ne p (List.mem_filter.mp hp).1
    · rw [List.mem_singleton.mp hp]
      intro e
      rw [e] at tN
      cases tN
  · rcases List.mem_append.mp hp with hp | hp
    · exact h.so p (List.mem_filter.mp hp).1
    · rw [List.mem_singleton.mp hp]
      exact soN
  · rcases List.mem_append.mp hp with hp | hp
    · exact List.mem_append_left _ (h.sub p (List.mem_filter.mp hp).1 a ha)
    · rw [List.mem_singleton.mp hp] at ha
      rcases (memN a).mp ha with rfl | ⟨q, hq, _, hx⟩
      · exact tn
      · exact List.mem_append_left _ (h.sub q hq a hx)
  · rcases List.mem_append.mp hn with hn | hn
    · obtain ⟨p, hp, hx⟩ := h.all n hn
      cases e : nearF H t p with
      | true => exact ⟨N, List.mem_append_right _ (List.mem_singleton.mpr rfl), (memN n).mpr (.inr ⟨p, hp, e, hx⟩)⟩
      | false => exact ⟨p, List.mem_append_left _ (List.mem_filter.mpr ⟨hp, by rw [e]; rfl⟩), hx⟩
    · rw [List.mem_singleton.mp hn]
      exact ⟨N, List.mem_append_right _ (List.mem_singleton.mpr rfl), tN⟩
  · rcases List.mem_append.mp hp with hp | hp
    · obtain ⟨h1, h2⟩ := List.mem_filter.mp hp
      have hf : nearF H t p = false := by simpa using h2
      exact ⟨fun hb => ((h.cls p h1 a ha b).mp hb).mono up, fun l => Lk.stay (S := fun x => x ∈ p) (fun x y hx r => far p h1 hf x y hx r) ha l⟩
    · rw [List.mem_singleton.mp hp] at ha ⊢
      exact ⟨fun hb => (toT a ha).trans ((toT b hb).symm sy'), fun l => Lk.stay (S := fun x => x ∈ N) clN ha l⟩
theorem Parts.nil : Parts H [] [] := ⟨List.nodup_nil, fun p hp => (nomatch hp), fun p hp => (nomatch hp), fun p hp => (nomatch hp), fun n hn => (nomatch hn), fun p hp => (nomatch hp)⟩
end
end Q
set_option Elab.async false
set_option linter.all false
set_option maxRecDepth 100000
set_option maxHeartbeats 4000000
namespace Q
open PySem PySem.Spec PyProof.Rows L2 My
/-- some parts are found, others left -/
structure PartAt (H : Str → Str → Bool) (ns left : List Str) (fs : List (List Str)) : Prop where
  nd : fs.Nodup
  ne : ∀ p ∈ fs, p ≠ []
  so : ∀ p ∈ fs, sset p = p
  sub : ∀ p ∈ fs, ∀ a ∈ p, a ∈ ns
  all : ∀ n ∈ ns, n ∈ left ∨ ∃ p ∈ fs, n ∈ p
  cls : ∀ p ∈ fs, ∀ a ∈ p, ∀ b, b ∈ p ↔ Lk (Rn H ns) a b
  dis : ∀ p ∈ fs, ∀ a ∈ p, a ∉ left
  lsub : ∀ a ∈ left, a ∈ ns
  lcl : ∀ a ∈ left, ∀ b, Rn H ns a b → b ∈ left
  lnd : left.Nodup
theorem PartAt.done {H : Str → Str → Bool} {ns : List Str} {fs : List (List Str)} (h : PartAt H ns [] fs) : Parts H ns fs := ⟨h.nd, h.ne, h.so, h.sub, fun n hn => (h.all n hn).resolve_left (fun z => nomatch z), h.cls⟩
/-- a part that grows: from its first table t -/
structure GrowP (H : Str → Str → Bool) (ns left : List Str) (t : Str) (P : List Str) : Prop where
  nd : P.Nodup
  has : t ∈ P
  sub : ∀ a ∈ P, a ∈ left
  lk : ∀ a ∈ P, Lk (Rn H ns) t a
def ClosedP (H : Str → Str → Bool) (left P : List Str) : Prop := ∀ a ∈ P, ∀ b ∈ left, H a b = true → b ∈ P
section
variable {H : Str → Str → Bool} {ns left P : List Str} {t : Str} {fs : List (List Str)}
theorem GrowP.one (h : t ∈ left) : GrowP H ns left t [t] := ⟨List.nodup_cons.mpr ⟨fun z => (nomatch z), List.nodup_nil⟩, List.mem_singleton.mpr rfl, fun a ha => by rw [List.mem_singleton.mp ha]; exact h, fun a ha => by rw [List.mem_singleton.mp ha]; exact .refl⟩
/-- within a round: the first j of what is left have been looked at -/
structure RoundP (H : Str → Str → Bool) (ns left : List Str) (t : Str) (P0 : List Str) (j : Nat) (P : List Str) : Prop where
  g : GrowP H ns left t P
  up : ∀ a ∈ P0, a ∈ P
  got : ∀ b ∈ left.take j, (∃ a ∈ P0, H a b = true) → b ∈ P
  st : ClosedP H left P0 → P = P0
theorem RoundP.keep {P0 : List Str} {j : Nat} {b : Str} (h : RoundP H ns left t P0 j P) (hb : left[j]? = some b) (no : ¬ ((P.any fun a => H a b) = true ∧ b ∉ P)) : RoundP H ns left t P0 (j + 1) P := by
  refine ⟨h.g, h.up, fun c hc hx => ?_, h.st⟩
  rw [List.take_add_one, hb, List.mem_append] at hc
  rcases hc with hc | hc
  · exact h.got c hc hx
  · obtain rfl : c = b := by simpa using hc
    obtain ⟨a, ha, r⟩ := hx
    exact Decidable.byContradiction fun z => no ⟨List.any_eq_true.mpr ⟨a, h.up a ha, r⟩, z⟩
end
end Q
set_option Elab.async false
set_option linter.all false
set_option maxRecDepth 100000
set_option maxHeartbeats 4000000
namespace Q
open PySem PySem.Spec PyProof.Rows L2 My
theorem in_lk {M : Mp} {n : Bool} {c : Str} {d : D} {ss : List Str} {Q : KD} (h : look M d = .lst (sts ss)) (q : Q (.bl (xor n (decide (c ∈ ss)))) M) : rdIn n (.str c) d M Q := by
  unfold rdIn
  rw [h]
  show (flatD (.str c) = true ∧ (sts ss).all flatD = true ∨ eqOk (.str c) = true ∧ eqOk (.lst (sts ss)) = true) ∧ Q (.bl (xor n ((sts ss).any fun z => deq z (.str c)))) M
  rw [any_sts]
  exact ⟨.inl ⟨rfl, flat_sts ss⟩, q⟩
theorem lcGo_s {g : WG} {tt : WT} {te : WE} {ρ : List (Option D)} {Q : List D → Mp → Prop} {M : Mp} (p : Str → Bool) (f : Str → D) (xs : List Str)
    (h : ∀ c ∈ xs, ∀ acc (k : List D → Mp → Prop), (p c = true → k (acc ++ [f c]) M) → (p c = false → k acc M) → g (.str c) ⟨ρ, M⟩ fun z2 => tt z2 fun b z3 => if b = true then te z3 fun y z4 => k (acc ++ [y]) z4.M else k acc z3.M)
    (hQ : Q ((xs.filter p).map f) M) : lcGo g tt te ρ Q (sts xs) [] M := by
  refine lcGo_flt (fun d => p (unStr d)) (fun d => f (unStr d)) _ (fun x acc k hx hk => ?_) ?_
  · obtain ⟨c, hc, rfl⟩ := List.mem_map.mp hx
    have hk' : if p c = true then k (acc ++ [f c]) M else k acc M := hk
    refine h c hc acc k (fun e => ?_) (fun e => ?_)
    · rwa [if_pos e] at hk'
    · rwa [if_neg (by rw [e]; decide)] at hk'
  · have e : ((sts xs).filter fun d => p (unStr d)).map (fun d => f (unStr d)) = (xs.filter p).map f := by
      unfold sts
      rw [List.filter_map, List.map_map]
      rfl
    rw [e]
    exact hQ
theorem sl_to {M : Mp} {ss : List Str} {i : Int} {Q : KD} (h : 0 ≤ i) (q : Q (.lst (sts (ss.take i.toNat))) M) : rdSl (.lst (sts ss)) none (some i) M Q := by
  show Q (.lst (cutD (sts ss) none (some i))) M
  rw [cutD_to h, sts_take]
  exact q
end Q
set_option Elab.async false
set_option linter.all false
set_option maxRecDepth 100000
set_option maxHeartbeats 4000000
namespace My
open PySem PySem.Spec PyProof.Rows L2
abbrev NK := NestedKey
/-- the tuple at b is the key k -/
def IsN (h : Heap) (k : NK) (b : Addr) : Prop := NestedIs h k (.ref b) ∧ k.depth ≤ 8
/-- the members of a set with their hashes -/
def entsN (w : World) (L : List (Addr × NK)) : List (Int × Value) := L.map fun p => (p.2.hash w, .ref p.1)
abbrev hsN (w : World) (L : List (Addr × NK)) : List Int := L.map fun p => p.2.hash w
section
variable {P : Program} {w : World} {A : Around} {E : Value → Shared → Prop} {s : Shared}
theorem IsN.at {h h' : Heap} {k : NK} {b : Addr} (x : IsN h k b) (hk : ∀ a o vs n, h.get? a = some o → o.data = .seq vs n → h'.get? a = some o) : IsN h' k b := ⟨NestedIs.at hk _ _ x.1, x.2⟩
theorem IsN.keep {h h' : Heap} {k : NK} {b : Addr} (x : IsN h k b) (hk : ∀ c o, h.get? c = some o → h'.get? c = some o) : IsN h' k b := x.at fun a o _ _ e _ => hk a o e
theorem IsN.inj {h : Heap} {x y : NK} {b : Addr} (hx : IsN h x b) (hy : IsN h y b) : x = y := NestedIs.inj _ _ _ hx.1 hy.1
theorem IsN.hash {k : NK} {a : Addr} {Q : Int → Shared → Prop} (hu : A.units + 8 < cLine) (x : IsN s.heap k a) (h : Q (k.hash w) { s with toks := s.toks + k.draws }) : wpAny (model P w) A (pyHash (.ref a)) Q E s := (nestedKind P w).pyHash hu x h
/-- the answer of hashByValue is some truth, and nothing is changed -/
def ByV (P : Program) (w : World) (n : Nat) (s : Shared) (v : Value) : Prop := ∀ (A : Around) (E : Value → Shared → Prop) (Q : Bool → Shared → Prop), (∀ b, Q b s) → wpAny (model P w) A (hashByValue n v) Q E s
theorem ByV.tup {n : Nat} {a : Addr} {o : Obj} {vs : Array Value} {m : Nat} (ho : s.heap.get? a = some o) (hc : o.cls = .type "tuple") (hd : o.data = .seq vs m) (hq : ∀ v ∈ vs.toList, ByV P w n s v) : ByV P w (n + 1) s (.ref a) := fun A E Q h => by
  unfold hashByValue
  refine wpAny_bind (wpAny_specialOf (T := "tuple") ⟨o, ho, hc⟩ F.slot_tuple_hash.lookup ?_)
  show wpAny _ _ (seqItems? (.ref a) >>= _) _ _ s
  refine wpAny_bind (wpAny_seqItems ho hd ?_)
  refine wpAny_bind ?_
  show wpAny _ _ (forIn vs _ _) _ _ s
  rw [← Array.forIn_toList]
  refine wpAny_forIn_list _ (fun rest r st => r.1 = none ∧ st = s ∧ ∀ v ∈ rest, ByV P w n s v) _ ?_ ?_ _ _ ⟨rfl, rfl, hq⟩
  · rintro v rest r st ⟨h1, rfl, h2⟩
    refine wpAny_bind (h2 v List.mem_cons_self _ _ _ fun b => ?_)
    cases b with
    | true => exact wpAny_pure ⟨rfl, rfl, fun u hu => h2 u (List.mem_cons_of_mem _ hu)⟩
    | false => exact wpAny_pure (wpAny_pure (h false))
  · rintro ⟨r1, r2⟩ st ⟨h1, rfl, _⟩
    have h1' : r1 = none := h1
    subst h1'
    exact wpAny_pure (h true)
/-- it is of no class statement -/
def NoSt (P : Program) (w : World) (n : Nat) (s : Shared) (v : Value) : Prop := ∀ (A : Around) (E : Value → Shared → Prop) (Q : Bool → Shared → Prop), Q false s → wpAny (model P w) A (ofAClassStatement n v) Q E s
theorem NoSt.tup {n : Nat} {a : Addr} {o : Obj} {vs : Array Value} {m : Nat} (ho : s.heap.get? a = some o) (hc : o.cls = .type "tuple") (hd : o.data = .seq vs m) (hq : ∀ v ∈ vs.toList, NoSt P w n s v) : NoSt P w (n + 1) s (.ref a) := fun A E Q h => by
  have hT : s.TypeIs (.ref a) "tuple" := ⟨o, ho, hc⟩
  unfold ofAClassStatement
  refine wpAny_bind (wpAny_typeOf hT ?_)
  dsimp only
  rw [if_pos (by decide : (("tuple" : String) == "tuple") = true)]
  refine wpAny_bind (wpAny_pure ?_)
  rw [if_neg (by decide)]
  show wpAny _ _ (seqItems? (.ref a) >>= _) _ _ s
  refine wpAny_bind (wpAny_seqItems ho hd ?_)
  dsimp only
  refine wpAny_bind ?_
  show wpAny _ _ (forIn vs _ _) _ _ s
  rw [← Array.forIn_toList]
  refine wpAny_forIn_list _ (fun rest r st => r.1 = none ∧ st = s ∧ ∀ v ∈ rest, NoSt P w n s v) _ ?_ ?_ _ _ ⟨rfl, rfl, hq⟩
  · rintro v rest r st ⟨h1, rfl, h2⟩
    refine wpAny_bind (h2 v List.mem_cons_self _ _ _ ?_)
    rw [if_neg (by decide)]
    exact wpAny_pure ⟨rfl, rfl, fun u hu => h2 u (List.mem_cons_of_mem _ hu)⟩
  · rintro ⟨r1, r2⟩ st ⟨h1, rfl, _⟩
    have h1' : r1 = none := h1
    subst h1'
    exact wpAny_pure h
end
end My
set_option Elab.async false
set_option linter.all false
set_option maxRecDepth 100000
set_option maxHeartbeats 4000000
namespace My
open PySem PySem.Spec PyProof.Rows L2
/-- the set at a: its members L in the order of its table -/
structure SetN (w : World) (h : Heap) (a : Addr) (L : List (Addr × NK)) (es : Array (Int × Value)) (ep : Nat) (t : SetTable) : Prop where
  ob : ∃ o, h.get? a = some o ∧ o.ExactSet ∧ o.data = .set es ep t
  rows : es.toList = entsN w L
  tab : TabOk t (hsN w L)
  nd : (L.map (·.2)).Nodup
  mem : ∀ p ∈ L, IsN h p.2 p.1
  led : w.params.followText "set-order" = true ∨ t.led = true
  room : L.length * 5 < t.mask * 3
  few : L.length < 64
section
variable {P : Program} {w : World} {A : Around} {E : Value → Shared → Prop} {s : Shared} {h : Heap} {a : Addr} {L : List (Addr × NK)} {es : Array (Int × Value)} {ep : Nat} {t : SetTable}
theorem ents_size (e : es.toList = entsN w L) : es.size = L.length := by
  have z := congrArg List.length e
  rwa [Array.length_toList, entsN, List.length_map] at z
theorem fits_by (h1 : t.place.size = es.size) (h2 : t.dummies = #[]) (h3 : es.size ≤ t.mask) : t.fits es.size = true := by
  unfold SetTable.fits SetTable.fill
  rw [h2, Bool.and_eq_true, beq_iff_eq, decide_eq_true_eq]
  exact ⟨h1, by show t.place.size + 0 ≤ _; omega⟩
theorem SetN.size (R : SetN w h a L es ep t) : es.size = L.length := ents_size R.rows
theorem SetN.psize (R : SetN w h a L es ep t) : t.place.size = L.length := by
  have z := R.tab.sz
  rwa [List.length_map] at z
theorem SetN.fits (R : SetN w h a L es ep t) : t.fits es.size = true := by
  have h1 := R.size
  have h2 := R.psize
  have h3 := R.room
  exact fits_by (by omega) R.tab.dm (by omega)
theorem SetN.kept {h' : Heap} (R : SetN w h a L es ep t) (ha : ∀ o, h.get? a = some o → h'.get? a = some o) (hm : ∀ p ∈ L, IsN h' p.2 p.1) : SetN w h' a L es ep t := by
  obtain ⟨o, ho, r⟩ := R.ob
  exact { R with ob := ⟨o, ha o ho, r⟩, mem := hm }
end
end My
set_option Elab.async false
set_option linter.all false
set_option maxRecDepth 100000
set_option maxHeartbeats 4000000
namespace My
open PySem PySem.Spec PyProof.Rows L2
end My
set_option Elab.async false
set_option linter.all false
set_option maxRecDepth 100000
set_option maxHeartbeats 4000000
namespace My
open PySem PySem.Spec PyProof.Rows L2
section
variable {P : Program} {w : World} {A : Around} {E : Value → Shared → Prop} {s : Shared}
/-- what a set has got of the first i items -/
structure HasN (ks : List (Addr × NK)) (i : Nat) (L : List (Addr × NK)) : Prop where
  sub : ∀ p ∈ L, p ∈ ks.take i
  all : ∀ p ∈ ks.take i, p.2 ∈ L.map (·.2)
  len : L.length ≤ i
theorem HasN.step {ks L L' : List (Addr × NK)} {i : Nat} {x : Addr × NK} (g : HasN ks i L) (h : ks[i]? = some x) (h1 : x.2 ∈ L.map (·.2) → L' = L) (h2 : x.2 ∉ L.map (·.2) → L'.Perm (x :: L)) : HasN ks (i + 1) L' := by
  have e : ks.take (i + 1) = ks.take i ++ [x] := by rw [List.take_add_one, h]; rfl
  by_cases c : x.2 ∈ L.map (·.2)
  · rw [h1 c]
    refine ⟨fun p hp => ?_, fun p hp => ?_, Nat.le_succ_of_le g.len⟩
    · rw [e]
      exact List.mem_append_left _ (g.sub p hp)
    · rw [e, List.mem_append, List.mem_singleton] at hp
      exact hp.elim (g.all p) fun z => z ▸ c
  · have pm := h2 c
    refine ⟨fun p hp => ?_, fun p hp => ?_, by rw [pm.length_eq]; exact Nat.succ_le_succ g.len⟩
    · rw [e]
      rcases List.mem_cons.mp (pm.mem_iff.mp hp) with rfl | hp
      · exact List.mem_append_right _ (List.mem_singleton.mpr rfl)
      · exact List.mem_append_left _ (g.sub p hp)
    · rw [(pm.map (·.2)).mem_iff, List.map_cons]
      rw [e, List.mem_append, List.mem_singleton] at hp
      exact hp.elim (fun z => List.mem_cons_of_mem _ (g.all p z)) fun z => by rw [z]; exact List.mem_cons_self
variable {a : Addr} {L : List (Addr × NK)} {es : Array (Int × Value)} {ep : Nat} {t : SetTable}
end
end My
set_option Elab.async false
set_option linter.all false
set_option maxRecDepth 100000
set_option maxHeartbeats 4000000
namespace My
open PySem PySem.Spec PyProof.Rows L2 PySem.W PySem.SeqAt
end My
set_option Elab.async false
set_option linter.all false
set_option maxRecDepth 100000
set_option maxHeartbeats 4000000
namespace Q
open PySem PySem.Spec PyProof.Rows L2 My
mutual
theorem ofN_py : ∀ k : NK, (ofN k).py = k.data
  | .none => by simp only [ofN, D.py, NestedKey.data]
  | .num i => by simp only [ofN, D.py, NestedKey.data]
  | .text x => by simp only [ofN, D.py, NestedKey.data]
  | .tup ks => by simp only [ofN, D.py, NestedKey.data, ofNs_pys ks]
theorem ofNs_pys : ∀ ks : List NK, D.pys (ofNs ks) = NestedKey.datas ks
  | [] => rfl
  | k :: ks => by simp only [ofNs, D.pys, NestedKey.datas, ofN_py k, ofNs_pys ks]
end
mutual
theorem key_eqv : ∀ a b : NK, PyData.eqv a.data b.data = NestedKey.beq a b
  | .none, .none => rfl
  | .num a, .num b => by
    simp only [NestedKey.data, PyData.eqv, NestedKey.beq]
    by_cases h : a = b <;> simp [h]
  | .text a, .text b => by
    simp only [NestedKey.data, PyData.eqv, NestedKey.beq]
    by_cases h : a = b <;> simp [h]
  | .tup a, .tup b => by simp only [NestedKey.data, PyData.eqv, NestedKey.beq, keys_eqv a b]
  | .none, .num _ | .none, .text _ | .none, .tup _ => by simp only [NestedKey.data, PyData.eqv, NestedKey.beq]
  | .num _, .none | .num _, .text _ | .num _, .tup _ => by simp only [NestedKey.data, PyData.eqv, NestedKey.beq]
  | .text _, .none | .text _, .num _ | .text _, .tup _ => by simp only [NestedKey.data, PyData.eqv, NestedKey.beq]
  | .tup _, .none | .tup _, .num _ | .tup _, .text _ => by simp only [NestedKey.data, PyData.eqv, NestedKey.beq]
theorem keys_eqv : ∀ a b : List NK, PyData.eqvAll (NestedKey.datas a) (NestedKey.datas b) = NestedKey.beqAll a b
  | [], [] => rfl
  | a :: as, b :: bs => by simp only [NestedKey.datas, PyData.eqvAll, NestedKey.beqAll, key_eqv a b, keys_eqv as bs]
  | [], _ :: _ => by simp only [NestedKey.datas, PyData.eqvAll, NestedKey.beqAll]
  | _ :: _, [] => by simp only [NestedKey.datas, PyData.eqvAll, NestedKey.beqAll]
end
/-- the order of keys -/
def nle (a b : NK) : Bool := dle (ofN a) (ofN b)
theorem nle_lt (a b : NK) : nle a b = !PySem.W.dataLt b.data a.data := by
  show (!PyProof.Rows.lexLt PyProof.Rows.itemOrd (PySem.W.keyToks (ofN b).py) (PySem.W.keyToks (ofN a).py)) = _
  rw [ofN_py, ofN_py]
  rfl
theorem nle_trans {a b c : NK} (h : nle a b = true) (k : nle b c = true) : nle a c = true := (PySem.W.sortLe_total (PyProof.Rows.listOrd PyProof.Rows.itemOrd) false fun x : NK => PySem.W.keyToks (ofN x).py).trans a b c h k
theorem nle_total (a b : NK) : nle a b = true ∨ nle b a = true := (PySem.W.sortLe_total (PyProof.Rows.listOrd PyProof.Rows.itemOrd) false fun x : NK => PySem.W.keyToks (ofN x).py).total a b
def AlikeN (ks : List NK) : Prop := PySem.W.AllAlike (ks.map NestedKey.data)
theorem AlikeN.two {ks : List NK} (h : AlikeN ks) {a b : NK} (ha : a ∈ ks) (hb : b ∈ ks) : PySem.W.alike a.data b.data = true := h _ (List.mem_map.mpr ⟨a, ha, rfl⟩) _ (List.mem_map.mpr ⟨b, hb, rfl⟩)
theorem AlikeN.sub {ks ls : List NK} (h : AlikeN ks) (s : ∀ k ∈ ls, k ∈ ks) : AlikeN ls := fun d hd d' hd' => by
  obtain ⟨a, ha, rfl⟩ := List.mem_map.mp hd
  obtain ⟨b, hb, rfl⟩ := List.mem_map.mp hd'
  exact h.two (s a ha) (s b hb)
theorem nle_antisymm {a b : NK} (al : PySem.W.alike a.data b.data = true) (h : nle a b = true) (k : nle b a = true) : a = b := by
  rw [nle_lt, Bool.not_eq_true'] at h k
  have e : PySem.W.keyToks a.data = PySem.W.keyToks b.data := (PyProof.Rows.listOrd PyProof.Rows.itemOrd).total _ _ k h
  cases q : PyData.eqv a.data b.data with
  | true =>
    rw [key_eqv] at q
    exact NestedKey.eq_of_beq a b q
  | false =>
    have z := (PySem.W.toks_eqv a.data b.data al).2 q [] [Sum.inl 0]
    rw [e, PySem.W.lex_pre] at z
    have y : PyProof.Rows.lexLt PyProof.Rows.itemOrd (PySem.W.keyToks b.data) (PySem.W.keyToks b.data) = false := (PyProof.Rows.listOrd PyProof.Rows.itemOrd).irrefl _
    rw [y] at z
    exact absurd z (by decide)
theorem nle_uniq : ∀ {xs ys : List NK}, AlikeN xs → xs.Perm ys → xs.Pairwise (fun a b => nle a b = true) → ys.Pairwise (fun a b => nle a b = true) → xs = ys
  | [], ys, _, p, _, _ => (List.Perm.eq_nil p.symm).symm
  | x :: xs, [], _, p, _, _ => absurd p.length_eq (by simp)
  | x :: xs, y :: ys, al, p, hx, hy => by
    obtain ⟨h1, h2⟩ := List.pairwise_cons.mp hx
    obtain ⟨k1, k2⟩ := List.pairwise_cons.mp hy
    have hym : y ∈ x :: xs := p.mem_iff.mpr List.mem_cons_self
    have e : x = y := by
      rcases List.mem_cons.mp hym with e | hn
      · exact e.symm
      · rcases List.mem_cons.mp (p.mem_iff.mp (List.mem_cons_self (a := x) (l := xs))) with e | hm
        · exact e
        · exact nle_antisymm (al.two List.mem_cons_self hym) (h1 y hn) (k1 x hm)
    subst e
    rw [nle_uniq (al.sub fun k hk => List.mem_cons_of_mem _ hk) p.cons_inv h2 k2]
/-- the keys without those met again -/
def ddpN : List NK → List NK
  | [] => []
  | k :: ks => if k ∈ ddpN ks then ddpN ks else k :: ddpN ks
theorem mem_ddpN {k : NK} : ∀ {ks : List NK}, k ∈ ddpN ks ↔ k ∈ ks
  | [] => Iff.rfl
  | a :: ks => by
    unfold ddpN
    split
    · rename_i h
      rw [List.mem_cons, mem_ddpN (ks := ks)]
      exact ⟨.inr, fun z => z.elim (fun e => e ▸ mem_ddpN.mp h) id⟩
    · rw [List.mem_cons, List.mem_cons, mem_ddpN (ks := ks)]
theorem nodup_ddpN : ∀ ks : List NK, (ddpN ks).Nodup
  | [] => List.nodup_nil
  | a :: ks => by
    unfold ddpN
    split
    · exact nodup_ddpN ks
    · rename_i h
      exact List.nodup_cons.mpr ⟨h, nodup_ddpN ks⟩
theorem length_ddpN : ∀ ks : List NK, (ddpN ks).length ≤ ks.length
  | [] => Nat.le_refl _
  | a :: ks => by
    unfold ddpN
    split
    · exact Nat.le_succ_of_le (length_ddpN ks)
    · exact Nat.succ_le_succ (length_ddpN ks)
def nsort (ks : List NK) : List NK := ks.mergeSort nle
/-- the keys, ascending, each once -/
def nset (ks : List NK) : List NK := nsort (ddpN ks)
theorem nsort_perm (ks : List NK) : (nsort ks).Perm ks := List.mergeSort_perm ks nle
theorem mem_nset {k : NK} {ks : List NK} : k ∈ nset ks ↔ k ∈ ks := (nsort_perm _).mem_iff.trans mem_ddpN
theorem nodup_nset (ks : List NK) : (nset ks).Nodup := (nsort_perm _).nodup_iff.mpr (nodup_ddpN ks)
theorem length_nset (ks : List NK) : (nset ks).length ≤ ks.length := by
  unfold nset
  rw [(nsort_perm _).length_eq]
  exact length_ddpN ks
theorem nsort_pw (ks : List NK) : (nsort ks).Pairwise fun a b => nle a b = true := List.pairwise_mergeSort (le := nle) (fun a b c h k => nle_trans h k) (fun a b => by rw [Bool.or_eq_true]; exact nle_total a b) ks
theorem nset_pw (ks : List NK) : (nset ks).Pairwise fun a b => nle a b = true := nsort_pw _
theorem nset_uniq {ks rs : List NK} (al : AlikeN ks) (nd : rs.Nodup) (mem : ∀ k, k ∈ rs ↔ k ∈ ks) (pw : rs.Pairwise fun a b => nle a b = true) : rs = nset ks := by
  have p : rs.Perm (nset ks) := (List.perm_ext_iff_of_nodup nd (nodup_nset ks)).mpr fun k => (mem k).trans mem_nset.symm
  exact nle_uniq (al.sub fun k hk => (mem k).mp hk) p pw (nset_pw ks)
end Q
set_option Elab.async false
set_option linter.all false
set_option maxRecDepth 100000
set_option maxHeartbeats 4000000
namespace My
open PySem PySem.Spec PyProof.Rows L2
end My
set_option Elab.async false
set_option linter.all false
set_option maxRecDepth 100000
set_option maxHeartbeats 4000000
namespace Q
open PySem PySem.Spec PyProof.Rows L2 My
def IsTup (k : NK) : Prop := ∃ l, k = .tup l
/-- a list or a tuple of tuples, fewer than 64 -/
def rdSetN (kk : List NK → KD → Mp → Prop) (x : D) (M : Mp) (Q : KD) : Prop := ∃ ks : List NK, (look M x = .lst (ks.map ofN) ∨ look M x = .tup (ks.map ofN)) ∧ ks.length < 64 ∧ (∀ k ∈ ks, IsTup k ∧ k.depth ≤ 8) ∧ kk ks Q M
theorem rdSetN.mono {kk : List NK → KD → Mp → Prop} (hk : ∀ ks Q Q' M, (∀ d M', Q d M' → Q' d M') → kk ks Q M → kk ks Q' M) : Mono1 (rdSetN kk) := fun x M Q Q' hq ⟨ks, h1, h2, h3, h4⟩ => ⟨ks, h1, h2, h3, hk _ _ _ _ hq h4⟩
end Q
set_option Elab.async false
set_option linter.all false
set_option maxRecDepth 100000
set_option maxHeartbeats 4000000
namespace Q
open PySem PySem.Spec PyProof.Rows L2 My
section
variable {X : Cx} {g0 : Gh} {e : Expr} {wa : WE} {pos : Pos}
def rdSlM (x : D) (lo hi : Option Int) (M : Mp) (Q : KD) : Prop := ∃ ds, look M x = .lst ds ∧ ∀ p, M p = none → Q (.ref p) (mupd M p (some (.lst (cutD ds lo hi))))
theorem rdSlM.mono {x : D} {lo hi : Option Int} {M : Mp} {Q Q' : KD} (k : ∀ d M', Q d M' → Q' d M') (h : rdSlM x lo hi M Q) : rdSlM x lo hi M Q' := by
  obtain ⟨ds, h1, h2⟩ := h
  exact ⟨ds, h1, fun p hp => k _ _ (h2 p hp)⟩
def wSlM (we : WE) (wl wh : WO) : WE := fun z Q => we z fun d z1 => wl z1 fun lo z2 => wh z2 fun hi z3 => rdSlM d lo hi z3.M fun r M => Q r ⟨z3.ρ, M⟩
/-- the list at name i is lent while a truth is found -/
def wLendE (i : Nat) (w : WE) : WE := fun z Q => ∃ p ds, z.ρ[i]? = some (some (.ref p)) ∧ z.M p = some (.lst ds) ∧ w ⟨z.ρ.set i (some (.lst ds)), fun _ => none⟩ fun d _ => ∃ b, d = .bl b ∧ Q (.bl b) z
end
def hangF (w : Wb) (cs : List Str) (a b : Str) : Bool := (commonF w a b).any fun c => !decide (c ∈ cs)
section
variable {w : Wb} {cs : List Str}
theorem common_mem {a b c : Str} : c ∈ commonF w a b ↔ c ∈ colsF w a ∧ c ∈ colsF w b := by
  unfold commonF
  rw [List.mem_filter, mem_ssort, decide_eq_true_eq, mem_ssort]
/-- the parts of a set of columns, ascending -/
structure IsParts (w : Wb) (cs : List Str) (ps : List (List Str)) : Prop where
  p : Parts (hangF w cs) (namesF w) ps
  asc : ps.Pairwise fun a b => tlt a b = true
theorem Parts.asc {ps : List (List Str)} (h : Parts (hangF w cs) (namesF w) ps) : IsParts w cs (tsort ps) := ⟨h.perm (tsort_perm ps), tsort_asc h.nd⟩
theorem names_nd (ok : WebOk w) : (namesF w).Nodup := (names_names ok).nd
end
end Q
set_option Elab.async false
set_option linter.all false
set_option maxRecDepth 100000
set_option maxHeartbeats 4000000
namespace Q
open PySem PySem.Spec PyProof.Rows L2 My
section
variable {M : Mp} {Q : KD}
theorem all_b {bs : List Bool} (q : Q (.bl (bs.all id)) M) : rdAll [.lst (bs.map D.bl)] M Q := ⟨_, _, bs, rfl, rfl, blsD_map bs, q⟩
theorem all_f {α : Type} {xs : List α} {f : α → Bool} (q : Q (.bl (xs.all f)) M) : rdAll [.lst (xs.map fun x => D.bl (f x))] M Q := by
  have e : (xs.map fun x => D.bl (f x)) = (xs.map f).map D.bl := by rw [List.map_map]; rfl
  rw [e]
  exact all_b (by rw [List.all_map]; exact q)
theorem lcGo_am {α : Type} {g : WG} {tt : WT} {te : WE} {ρ : List (Option D)} {R : List D → Mp → Prop} (x : α → D) (p : α → Bool) (y : α → D) (xs : List α)
    (h : ∀ c ∈ xs, ∀ acc (k : List D → Mp → Prop), (p c = true → k (acc ++ [y c]) M) → (p c = false → k acc M) → g (x c) ⟨ρ, M⟩ fun z2 => tt z2 fun b z3 => if b = true then te z3 fun y z4 => k (acc ++ [y]) z4.M else k acc z3.M)
    (hQ : R ((xs.filter p).map y) M) : lcGo g tt te ρ R (xs.map x) [] M := by
  have key : ∀ (ys : List α) (acc : List D), (∀ c ∈ ys, c ∈ xs) → R (acc ++ (ys.filter p).map y) M → lcGo g tt te ρ R (ys.map x) acc M := by
    intro ys
    induction ys with
    | nil => exact fun acc _ q => by simpa [lcGo] using q
    | cons c ys ih =>
      intro acc hs q
      refine h c (hs c List.mem_cons_self) acc (fun acc M => lcGo g tt te ρ R (ys.map x) acc M) (fun e => ?_) fun e => ?_
      · refine ih _ (fun d hd => hs d (List.mem_cons_of_mem _ hd)) ?_
        rw [List.filter_cons, if_pos e, List.map_cons] at q
        rw [List.append_assoc]
        exact q
      · refine ih _ (fun d hd => hs d (List.mem_cons_of_mem _ hd)) ?_
        rwa [List.filter_cons, if_neg (by rw [e]; decide)] at q
  exact key xs [] (fun _ h => h) (by rw [List.nil_append]; exact hQ)
theorem lcGo_aa {α : Type} {g : WG} {te : WE} {ρ : List (Option D)} {R : List D → Mp → Prop} (x : α → D) (y : α → D) (xs : List α)
    (h : ∀ c ∈ xs, ∀ acc (k : List D → Mp → Prop), k (acc ++ [y c]) M → g (x c) ⟨ρ, M⟩ fun z2 => te z2 fun y z4 => k (acc ++ [y]) z4.M)
    (hQ : R (xs.map y) M) : lcGo g wYes te ρ R (xs.map x) [] M := by
  refine lcGo_am x (fun _ => true) y xs (fun c hc acc k hy hn => h c hc acc k (hy rfl)) ?_
  rw [List.filter_eq_self.mpr fun _ _ => rfl]
  exact hQ
end
end Q
set_option Elab.async false
set_option linter.all false
set_option maxRecDepth 100000
set_option maxHeartbeats 4000000
namespace Q
open PySem PySem.Spec PyProof.Rows L2 My
abbrev Rw := List Int
def rowT (r : Rw) : D := .tup (r.map .int)
def rowN (r : Rw) : NK := .tup (r.map .num)
def unNum : NK → Int
  | .num i => i
  | _ => 0
def unRow : NK → Rw
  | .tup ks => ks.map unNum
  | _ => []
theorem unRow_row (r : Rw) : unRow (rowN r) = r := by
  show (r.map NestedKey.num).map unNum = r
  rw [List.map_map]
  exact (List.map_congr_left fun _ _ => rfl).trans (List.map_id r)
theorem rowN_inj {r s : Rw} (h : rowN r = rowN s) : r = s := by rw [← unRow_row r, h, unRow_row]
def rowsT (rs : List Rw) : List D := rs.map rowT
theorem nums_all : ∀ a b : Rw, PySem.W.alikeAll (NestedKey.datas (a.map NestedKey.num)) (NestedKey.datas (b.map NestedKey.num)) = true
  | [], _ => by simp [NestedKey.datas, PySem.W.alikeAll]
  | x :: a, [] => by simp [NestedKey.datas, PySem.W.alikeAll]
  | x :: a, y :: b => by
    have ih := nums_all a b
    simp only [List.map_cons, NestedKey.datas, PySem.W.alikeAll, NestedKey.data, PySem.W.alike, ih]
    simp
theorem rows_alike (rs : List Rw) : AlikeN (rs.map rowN) := fun d hd d' hd' => by
  obtain ⟨k, hk, rfl⟩ := List.mem_map.mp hd
  obtain ⟨k', hk', rfl⟩ := List.mem_map.mp hd'
  obtain ⟨a, _, rfl⟩ := List.mem_map.mp hk
  obtain ⟨b, _, rfl⟩ := List.mem_map.mp hk'
  unfold rowN
  simp only [NestedKey.data, PySem.W.alike]
  exact nums_all a b
/-- rows, ascending, each once -/
def rset (rs : List Rw) : List Rw := (nset (rs.map rowN)).map unRow
theorem rset_map (rs : List Rw) : (rset rs).map rowN = nset (rs.map rowN) := by
  unfold rset
  rw [List.map_map]
  refine (List.map_congr_left fun k hk => ?_).trans (List.map_id _)
  obtain ⟨r, _, rfl⟩ := List.mem_map.mp (mem_nset.mp hk)
  show rowN (unRow (rowN r)) = rowN r
  rw [unRow_row]
theorem mem_rset {r : Rw} {rs : List Rw} : r ∈ rset rs ↔ r ∈ rs := by
  constructor
  · intro h
    have := List.mem_map_of_mem (f := rowN) h
    rw [rset_map] at this
    obtain ⟨s, hs, e⟩ := List.mem_map.mp (mem_nset.mp this)
    rwa [← rowN_inj e]
  · intro h
    have : rowN r ∈ (rset rs).map rowN := by
      rw [rset_map]
      exact mem_nset.mpr (List.mem_map_of_mem h)
    obtain ⟨s, hs, e⟩ := List.mem_map.mp this
    rwa [← rowN_inj e]
theorem nodup_rset (rs : List Rw) : (rset rs).Nodup := by
  have h := nodup_nset (rs.map rowN)
  rw [← rset_map] at h
  exact (List.pairwise_map.mp h).imp fun ne e => ne (by rw [e])
theorem length_rset (rs : List Rw) : (rset rs).length ≤ rs.length := by
  unfold rset
  rw [List.length_map]
  have := length_nset (rs.map rowN)
  rwa [List.length_map] at this
theorem rset_pw (rs : List Rw) : (rset rs).Pairwise fun a b => nle (rowN a) (rowN b) = true := by
  have h := nset_pw (rs.map rowN)
  rw [← rset_map] at h
  exact List.pairwise_map.mp h
theorem map_inj {a b : List Rw} (h : a.map rowN = b.map rowN) : a = b := by
  have e : ∀ l : List Rw, (l.map rowN).map unRow = l := fun l => by
    rw [List.map_map]
    exact (List.map_congr_left fun r _ => unRow_row r).trans (List.map_id l)
  rw [← e a, h, e b]
theorem rset_uniq {rs xs : List Rw} (nd : xs.Nodup) (mem : ∀ r, r ∈ xs ↔ r ∈ rs) (pw : xs.Pairwise fun a b => nle (rowN a) (rowN b) = true) : xs = rset rs := by
  refine map_inj ((nset_uniq (rows_alike rs) (List.pairwise_map.mpr (nd.imp fun ne e => ne (rowN_inj e))) (fun k => ?_) (List.pairwise_map.mpr pw)).trans (rset_map rs).symm)
  constructor
  · intro h
    obtain ⟨r, hr, rfl⟩ := List.mem_map.mp h
    exact List.mem_map_of_mem ((mem r).mp hr)
  · intro h
    obtain ⟨r, hr, rfl⟩ := List.mem_map.mp h
    exact List.mem_map_of_mem ((mem r).mpr hr)
theorem rset_same {rs xs : List Rw} (mem : ∀ r, r ∈ xs ↔ r ∈ rs) : rset xs = rset rs := rset_uniq (nodup_rset xs) (fun r => mem_rset.trans (mem r)) (rset_pw xs)
theorem rset_idem (rs : List Rw) : rset (rset rs) = rset rs := rset_same fun _ => mem_rset
theorem rset_sub {xs ys : List Rw} (h : xs.Sublist ys) (e : rset ys = ys) : rset xs = xs := by
  have nd := nodup_rset ys
  have pw := rset_pw ys
  rw [e] at nd pw
  exact (rset_uniq (nd.sublist h) (fun _ => Iff.rfl) (pw.sublist h)).symm
/-- the rows of each table -/
abbrev Rws := Str → List Rw
structure RwsOk (w : Wb) (f : Rws) : Prop where
  srt : ∀ n ∈ w.map (·.1), rset (f n) = f n
  wide : ∀ n ∈ w.map (·.1), ∀ r ∈ f n, r.length = (colsF w n).length
  few : ∀ n ∈ w.map (·.1), (f n).length ≤ 60
/-- whether rows of two tables agree -/
def agreeF (w : Wb) (a : Str) (r : Rw) (b : Str) (s : Rw) : Bool := (commonF w a b).all fun c => decide (r[(colsF w a).idxOf c]? = s[(colsF w b).idxOf c]?)
theorem sset_sub {xs ys : List Str} (h : xs.Sublist ys) (e : sset ys = ys) : sset xs = xs := by
  have nd := nodup_sset ys
  have srt : (sset ys).Pairwise (fun a b => sle a b = true) := ssort_sorted _
  rw [e] at nd srt
  exact sorted_uniq ((List.perm_ext_iff_of_nodup (nodup_sset xs) (nd.sublist h)).mpr fun _ => mem_sset) (ssort_sorted _) (srt.sublist h)
/-- the rows that a step strikes -/
def struckF (w : Wb) (f : Rws) (a b : Str) : List Rw := (f a).filter fun r => !((f b).any fun s => agreeF w a r b s)
/-- what a step leaves -/
def leaveF (w : Wb) (f : Rws) (p : Stp) : Rws := fun n => if n = p.1 then (f p.1).filter (fun r => !decide (r ∈ struckF w f p.1 p.2)) else f n
def runF (w : Wb) (f : Rws) (ps : List Stp) : Rws := ps.foldl (leaveF w) f
theorem leave_sub (w : Wb) (f : Rws) (p : Stp) (n : Str) : (leaveF w f p n).Sublist (f n) := by
  unfold leaveF
  split
  · rename_i e
    rw [e]
    exact List.filter_sublist
  · exact List.Sublist.refl _
theorem RwsOk.cut {w : Wb} {f g : Rws} (h : RwsOk w f) (s : ∀ n ∈ w.map (·.1), (g n).Sublist (f n)) : RwsOk w g where
  srt := fun n hn => rset_sub (s n hn) (h.srt n hn)
  wide := fun n hn r hr => h.wide n hn r ((s n hn).subset hr)
  few := fun n hn => Nat.le_trans (s n hn).length_le (h.few n hn)
theorem RwsOk.leave {w : Wb} {f : Rws} (h : RwsOk w f) (p : Stp) : RwsOk w (leaveF w f p) := h.cut fun n _ => leave_sub w f p n
theorem RwsOk.run {w : Wb} : ∀ (ps : List Stp) {f : Rws}, RwsOk w f → RwsOk w (runF w f ps)
  | [], _, h => h
  | p :: ps, f, h => show RwsOk w (runF w (leaveF w f p) ps) from RwsOk.run ps (h.leave p)
end Q
set_option Elab.async false
set_option linter.all false
set_option maxRecDepth 100000
set_option maxHeartbeats 4000000
namespace My
open PySem PySem.Spec PyProof.Rows L2 NdefX
/-- what the written part says of such a class -/
structure SupC (K : PySem.W.Frag) (C : Addr) : Prop where
  oex : OexC K C
  opq : PySem.W.nsIn K cStatics "thirdparty.any" = some none
  sup : PySem.W.ks_superIn K C C "__init__" = some (some (.builtin "ValueError.__init__"))
  sub : PySem.W.subIn K (.ref C) (.type "ValueError") = some true
  mro : PySem.W.mroIn K C (.ref C) = some true
section
variable {prog : Program} {w : World} {A : Around} {E : Value → Shared → Prop} {h : Heap} {g : Array GenState} {d : Drawn} {t : Nat} {os : OsState}
variable {nm q : Str} {C N : Addr} {bs bm : List Value} {hdct : Bool} {sn : List Str} {sub : List Value} {ab : Bool} {col : Option Bool} {dd : Option Addr} {k0 k1 k2 k3 k5 : Option Value}
/-- the bound ValueError.__init__ called -/
theorem bw_call {u e t0 : Addr} {rest : List Value} {Q : Value → Shared → Prop}
    (hC : h.get? C = some (excClassObj nm q C N bs bm hdct sn sub ab col dd k0 k1 k2 k3 k5 "ValueError.__new__")) (he : h.get? e = some (HandSPX.excO C t0))
    (hu : h.get? u = some (PySem.W.kxs_mw "ValueError.__init__" e)) (hrest : rest.length ≤ sizeLine)
    (hq : ∀ h' t1, (∀ b o, b ≠ e → h.get? b = some o → h'.get? b = some o) → h'.get? e = some (HandSPX.excO C t1) → Q .none ⟨h', g, d, t, os⟩) :
    wpAny (model prog w) A (call (.ref u) rest) Q E ⟨h, g, d, t, os⟩ := by
  refine wpAny_call (codeAny_of_tree ?_)
  show wpAny _ A.in1 (callAny (.ref u) ⟨rest, []⟩) _ _ _
  simp only [callAny]
  refine wpAny_bind (wpAny_load hu ?_)
  simp only [PySem.W.kxs_mw, show (Value.type "method-wrapper" == Value.type "method" || Value.type "method-wrapper" == Value.type "builtin_function_or_method" || Value.type "method-wrapper" == Value.type "method-wrapper") = true by decide, if_true]
  refine PySem.W.KFB.if_so (by decide) ?_
  refine wpAny_bind (PySem.W.check_bound_init F.excBase_ValueError.toExcCallFacts hC he rfl ?_)
  refine wpAny_bind (wpAny_pure (wpAny_pure ?_))
  refine ⟨plainId_quiet F.excBase_ValueError.init.plain _, codeAny_builtin F.excBase_ValueError.initEntry ?_⟩
  rw [Around.under_plainId F.excBase_ValueError.init.plain _]
  wp_walk
  refine hq _ h.objs.size (fun b o hb ho => ?_) ?_
  · rw [Heap.get?_update_other _ _ (Ne.symm hb)]
    exact Heap.get?_push_of_some _ ho
  · rw [Heap.get?_update_self _ (Heap.get?_push_of_some _ he) rfl]
    rfl
end
section
variable {P : Program} {w : World} {K : PySem.W.Frag} {mg : Str → Option Value} {base : Heap} {k : Nat} {f cc cda C : Addr}
  {name qual file : Str} {params : Arguments} {scope : Scope} {dV kV doc pm ct oc ccl cl : Value} {an od cdd cld : Option Addr} {osl ccs csl : Array (Option Value)}
  {N ps : List Str} {sp : Sp} {ar : Arg} {vc : Array Value} {tf : Tok} {p0 p1 p2 p3 p4 : Pos} {e : Expr} {es : List Expr} {rest : List Stmt}
/-- the __init__ as a nested def that captures its class -/
abbrev supF (name qual : Str) (params : Arguments) (scope : Scope) (cc cda : Addr) (p0 p1 p2 p3 p4 : Pos) (e : Expr) (es : List Expr) (rest : List Stmt) : NF :=
  ⟨name, qual, params, .Expr (.Call (.Attribute (.Call (.Name "super" p0) [] [] p1) "__init__" p2) (e :: es) [] p3) p4 :: rest, scope, [("__class__", cc)], cda⟩
theorem cell1 {h : Heap} {H : Hp} {v : Option Value} (hc : h.IsCell cc v) (hn : H cc = none) : CellsAt [(("__class__" : Str), cc)] ["__class__"] [none] h H := by
  have key : ∀ (y : Str) (c : Addr), List.lookup y [(("__class__" : Str), cc)] = some c → y = "__class__" ∧ c = cc := fun y c e => by
    by_cases q : y = "__class__"
    · subst q
      simp [List.lookup] at e
      exact ⟨rfl, e.symm⟩
    · have e' : (y == ("__class__" : Str)) = false := by simpa using q
      simp [List.lookup, e'] at e
  refine ⟨rfl, fun y c e => ?_, fun x y c h1 h2 => ?_, fun i y h => ?_⟩
  · obtain ⟨_, rfl⟩ := key y c e
    exact ⟨hn, v, hc⟩
  · exact (key x c h1).1.trans (key y c h2).1.symm
  · cases i with
    | zero =>
      obtain rfl : "__class__" = y := Option.some.inj h
      exact ⟨cc, by simp [List.lookup], fun v e => nomatch e⟩
    | succ n => simp at h
theorem fn_super
    (lk : K.lookup f = some ⟨oc, od, .func (PySem.W.ksFn name qual params (supF name qual params scope cc cda p0 p1 p2 p3 p4 e es rest).body scope dV kV doc pm an (.ref cda) ct cc), osl⟩)
    (hcd : PySem.W.codeIn K (.ref cda) qual = true) (S : NScope N ps ["__class__"] scope) (hN : N[0]? = some ar.arg)
    (hp : (params.posonlyargs ++ params.args).head? = some ar) (hka : scope.names.lookup ar.arg = some .local)
    (hks : scope.names.lookup ("super" : Str) = some .globalImplicit) (hkc : scope.names.lookup ("__class__" : Str) = some .free)
    (hcode : K.lookup cda = some ⟨ccl, cdd, .fields vc, ccs⟩) (hvs : vc[2]? = some (.str file tf)) (hfile : ((P.main.file : Str) == file) = true)
    (hcell : K.lookup cc = some ⟨cl, cld, .cell (some (.ref C)), csl⟩) (htop : (P.main.scope.names.lookup ("super" : Str)).isSome = false)
    (hm : mg "super" = none) (hboot : bootBuiltins "super" = some (.type "super")) (T : SupC K C)
    (len : ∀ vs H Q E, sp vs H Q E → vs.length = ps.length)
    (hbody : ∀ (A : Around) (outer : List Env) (s : Shared) (H : Hp) (vs : List V) (Q : VK) (E : XK),
      sp vs H Q E →
      ∃ (a : Addr) (ta : TA) (t : TS), vs[0]? = some (.ref a) ∧ H a = some (exo a C none) ∧
        PA (ncx CX0 P w K mg base N (supF name qual params scope cc cda p0 p1 p2 p3 p4 e es rest) f A outer s H E) (e :: es) ta ∧
        PSs (ncx CX0 P w K mg base N (supF name qual params scope cc cda p0 p1 p2 p3 p4 e es rest) f A outer s H E) rest t ∧
        ta (startF N vs [none]) H fun ws H1 => ws.length ≤ 1000 ∧ H1 a = some (exo a C none) ∧ t { nx := fun _ H' => Q .non H', rt := Q } (startF N vs [none]) H1)
    (hi : ∀ L, interactive (envF (supF name qual params scope cc cda p0 p1 p2 p3 p4 e es rest) f L) = false)
    (hsw : ∀ L, swapsWith (.Call (.Attribute (.Call (.Name "super" p0) [] [] p1) "__init__" p2) (e :: es) [] p3) none p4.line (envF (supF name qual params scope cc cda p0 p1 p2 p3 p4 e es rest) f L) = pure false)
    (hev : ∀ L, ∃ pl : Sem Bool, eval (.Call (.Attribute (.Call (.Name "super" p0) [] [] p1) "__init__" p2) (e :: es) [] p3) (envF (supF name qual params scope cc cda p0 p1 p2 p3 p4 e es rest) f L) = (do
      let ov ← attributeBase (.Call (.Name "super" p0) [] [] p1) "__init__" (envF (supF name qual params scope cc cda p0 p1 p2 p3 p4 e es rest) f L) (eval (.Call (.Name "super" p0) [] [] p1) (envF (supF name qual params scope cc cda p0 p1 p2 p3 p4 e es rest) f L))
      standAt p2.atName
      let (fv, first) ← holding [ov] (getMethod ov "__init__" pl)
      callWith p3 fv first (backTo p3 (starEach (e :: es) (envF (supF name qual params scope cc cda p0 p1 p2 p3 p4 e es rest) f L))) []))
    (he : ∀ env : Env, starEach (e :: es) env = (false, eval e env) :: starEach es env) (hpl : ∀ env : Env, (backTo p3 (starEach es env)).any (·.1) = false) :
    FnOk P w K mg base CX0 (k + 1) f (PySem.W.ksFn name qual params (supF name qual params scope cc cda p0 p1 p2 p3 p4 e es rest).body scope dV kV doc pm an (.ref cda) ct cc) ps sp := by
  refine ⟨len, fun A outer s H args us vs Q E hr e0 hb r hsp => ?_⟩
  have hl := len _ _ _ _ hsp
  have old : ∀ b o, base.get? b = some o → s.heap.get? b = some o := fun b o e => (e0.bs b o e).1
  have KX : K.In s.heap := e0.mod.kin.keeps old
  have lim : s.heap.NoLimit := e0.mod.nolimit.keeps old
  refine ks_codeAny_call_defAt (binds := ps.zip us) hr.depth (KX _ _ lk) rfl lim (PySem.W.codeRec_of KX hcd) rfl hb S.nocell
    (fun y hy => S.par y.1 (List.of_mem_zip hy).1) (fun h₀ hns hk₁ => ?_) S.co S.gen S.kind
  obtain ⟨a, ta, t, hv0, hea, ha, ht, hq⟩ := hbody A outer s H vs Q E hsp
  have Cl : CellsAt [(("__class__" : Str), cc)] ["__class__"] [none] s.heap H := cell1 (v := some (.ref C)) ⟨_, KX _ _ hcell, rfl⟩ (e0.bs _ _ (e0.mod.kin _ _ hcell)).2
  have I : Inv (ncx CX0 P w K mg base N (supF name qual params scope cc cda p0 p1 p2 p3 p4 e es rest) f A outer s H E) [] (startF N vs [none]) H { s with heap := h₀, toks := s.toks + (ps.zip us).length } :=
    inv_startN S hr.hd e0 hl r Cl hns hk₁
  have KI := I.kIn
  obtain ⟨t0, hoe⟩ := exo_at I.hok hea
  obtain ⟨nm, q, N', bs, bm, sn, sub, ab, col, dd, k0, k1, k2, k3, k5, hC, hbm⟩ := T.oex.cls
  have hcl : PySem.W.clsIn K C = some { name := nm, bases := bs, mro := .ref C :: bm, ns := N', qualname := q, hasDict := true, slotNames := sn, subclasses := sub, abstract := ab, collection := col, hasDel := false } := by unfold PySem.W.clsIn; rw [hC] <;> rfl
  have hsup := T.sup
  unfold PySem.W.ks_superIn at hsup
  rw [hcl] at hsup
  obtain ⟨m, hn, hloc⟩ := I.loc
  have hst : (startF N vs [none])[0]? = some (some (.ref a)) := by
    unfold startF
    cases vs with
    | nil => cases hv0
    | cons v vs =>
      obtain rfl : v = .ref a := Option.some.inj hv0
      rfl
  obtain ⟨u, ru, lk0⟩ := hloc 0 ar.arg (.ref a) hN hst (.inl hka)
  obtain rfl : u = .ref a := ru
  have hma : m ar.arg = some (.ref a) := by
    rcases lk0 with ⟨_, e⟩ | ⟨k | k, _⟩
    · exact e
    · exact absurd (hka.symm.trans k) (by decide)
    · exact absurd (hka.symm.trans k) (by decide)
  obtain ⟨mb, hb1, hb2⟩ := I.mod.blt
  show PySem.wpAt (model P w) (A.deeper (envF (supF name qual params scope cc cda p0 p1 p2 p3 p4 e es rest) f s.heap.objs.size)) (.func (supF name qual params scope cc cda p0 p1 p2 p3 p4 e es rest).body (envF (supF name qual params scope cc cda p0 p1 p2 p3 p4 e es rest) f s.heap.objs.size))
    (execs (supF name qual params scope cc cda p0 p1 p2 p3 p4 e es rest).body (envF (supF name qual params scope cc cda p0 p1 p2 p3 p4 e es rest) f s.heap.objs.size)) _ _ _
  obtain ⟨pl, hev'⟩ := hev s.heap.objs.size
  refine ks_wpAt_execs_cons (ks_wpAt_Expr_any (ks_wpAt_MethodCall (ks_wpAt_super_base (f := f) (cc := cda) hks hkc (by decide) rfl (KI _ _ lk) rfl hp rfl (KI _ _ hcode) rfl hvs hfile htop ?_) hev') (hi _) (hsw _))
  refine PySem.W.ks_loadName_global S.kind hks (Calls.loadGlobal_builtin (I.mod.glob.keeps I.bk) hm (hb1.keeps I.bk) ((hb2 _ (by decide +kernel)).trans hboot) ⟨rfl, ?_⟩)
  refine wpAny_loadName_free S.kind hkc rfl ⟨_, KI _ _ hcell, rfl⟩ ?_
  refine wpAny_loadName_local S.kind hka hn hma ?_
  refine ks_wpAny_isType_cls (KI _ _ hC) rfl ⟨rfl, ?_⟩
  refine ks_wpAny_call_super (KI _ _ hC) rfl hoe rfl (fun c e => nomatch e) (PySem.W.looks_mroIn KI T.mro) (fun h' eso kp => ?_)
  have I1 : Inv (ncx CX0 P w K mg base N (supF name qual params scope cc cda p0 p1 p2 p3 p4 e es rest) f A outer s H E) [] (startF N vs [none]) H { s with heap := h', toks := s.toks + (ps.zip us).length } := I.kept kp
  have K1 := I1.kIn
  have IA : PySem.W.InstAt h' a (HandSPX.excO C t0) C none := ⟨kp _ _ hoe, rfl, rfl, trivial⟩
  refine PySem.W.kxs_getMethod PySem.W.kxs_ValueError eso (PySem.W.looks_opaque K1 T.opq) (l₀ := .ref C :: bm) ?_ rfl K1 hsup (IA.type.andThen (PySem.W.looks_subIn K1 T.sub)) (PySem.W.ks_ne K1 IA hcl) (by decide) ?_
  · exact fun A Q E s k q => wpAny_bind ((PySem.W.looks_clsIn K1 hcl) A _ E s k (wpAny_pure q))
  have hun : h'.objs.size ≤ h'.objs.size := Nat.le_refl _
  have I2 : Inv (ncx CX0 P w K mg base N (supF name qual params scope cc cda p0 p1 p2 p3 p4 e es rest) f A outer s H E) [] (startF N vs [none]) H { s with heap := h'.push (PySem.W.kxs_mw "ValueError.__init__" a), toks := s.toks + (ps.zip us).length + 1 } :=
    I1.kept fun b o q => Heap.get?_push_of_some _ q
  have I3 := I2.pins_of (pins' := [(h'.objs.size, PySem.W.kxs_mw "ValueError.__init__" a)]) fun p hp => by
    obtain rfl : p = _ := List.mem_singleton.mp hp
    exact ⟨Heap.get?_push_at rfl rfl, I1.hok.fresh hun, (Nat.ne_of_lt I1.lt).symm, I1.nofs hun, fun v z => nomatch z⟩
  refine PySem.W.kxs_callWith (i := "ValueError.__init__") (x := a) ?_ ?_
  · rw [he]
    show (false || (backTo p3 (starEach es _)).any (·.1)) = false
    rw [hpl]
    rfl
  · rw [he]
    refine Calls.evalArgs_plain ?_
    show wpAny _ _ (spliced (backTo p3 ((false, eval e _) :: starEach es _))) _ _ _
    rw [← he]
    refine thn (ha.run p3 _ _ _ H _ I3 hq) fun us' s3 ⟨ws, H1, I4, r4, hz, hea1, q1⟩ => ?_
    have hu := (I4.pin (h'.objs.size, PySem.W.kxs_mw "ValueError.__init__" a) (List.mem_append_right _ List.mem_cons_self)).1
    refine ⟨hu, ?_⟩
    obtain ⟨t1, hoe1⟩ := exo_at I4.hok hea1
    have hlen : us'.length ≤ sizeLine := by
      rw [← Paired.length r4, sizeLine_eq]
      omega
    obtain ⟨hp3, g3, d3, t3, os3⟩ := s3
    refine bw_call (I4.kIn _ _ hC) hoe1 hu hlen fun h5 t5 kp5 hx5 => ?_
    have J := I4.write (t' := t3) (x := a) (e := a) (o := exo a C none) (by rw [hea1]; exact True.intro) (.inl rfl) kp5 ⟨_, hx5⟩ (exo_ok hx5)
    have eu : upd H1 a (exo a C none) = H1 := by
      funext b
      by_cases hb : b = a
      · rw [hb, upd_same, hea1]
      · rw [upd_ne hb]
    rw [eu] at J
    refine wpAt_of_wpAny (wpAny_mono (ht.run [] _ _ _ _ (J.pins_of fun p hp => nomatch hp) q1) (fun fl s' hs => ?_) fun e s' hs => hs)
    cases fl with
    | ret u =>
      obtain ⟨v, σ', H', J, rv, q⟩ := hs
      exact ⟨v, H', J.os, J.bare, J.base, J.hok, rv, q⟩
    | next =>
      obtain ⟨σ', H', J, q⟩ := hs
      exact ⟨V.non, H', J.os, J.bare, J.base, J.hok, rfl, q⟩
    | brk => exact hs.elim fun _ h => h.elim fun _ h => False.elim h.2
    | cont => exact hs.elim fun _ h => h.elim fun _ h => False.elim h.2
end
end My
set_option Elab.async false
set_option linter.all false
set_option maxRecDepth 100000
set_option maxHeartbeats 4000000
namespace My
open PySem PySem.Spec PyProof.Rows L2 NdefX
/-- what an __init__ with super().__init__(..) and one field a parameter promises -/
def spX (C : Addr) (fs : List Str) : Sp := fun vs H Q _ => ∃ (a : Addr) (ys : List V), vs = .ref a :: ys ∧ ys.length = fs.length ∧ H a = some (exo a C none) ∧
  ∀ (dx : Addr) (H' : Hp), H dx = none → dx ≠ a → H' a = some (exo a C (some dx)) → H' dx = some (exd dx (fs.zip ys).reverse) → (∀ b, b ≠ a → b ≠ dx → H' b = H b) → Q .non H'
/-- such an __init__ as it stands in the text -/
structure FunI (P : Program) (K : PySem.W.Frag) (qual : Str) (st : Stmt) (f C : Addr) (fd : FuncData) : Prop where
  ex : ∃ (oc : Value) (od : Option Addr) (kV doc pm : Value) (an : Option Addr) (cda : Addr) (ct : Value) (cc : Addr) (osl : Array (Option Value)) (ccl : Value) (cdd : Option Addr) (vc : Array Value) (ccs : Array (Option Value)) (file : Str) (tf : Tok)
      (cl : Value) (cld : Option Addr) (csl : Array (Option Value)),
    fd = PySem.W.ksFn "__init__" qual (defArgs st) (defBody st) (defScope st) .none kV doc pm an (.ref cda) ct cc ∧ K.lookup f = some ⟨oc, od, .func fd, osl⟩ ∧ PySem.W.codeIn K (.ref cda) qual = true ∧
    K.lookup cda = some ⟨ccl, cdd, .fields vc, ccs⟩ ∧ vc[2]? = some (.str file tf) ∧ ((P.main.file : Str) == file) = true ∧ K.lookup cc = some ⟨cl, cld, .cell (some (.ref C)), csl⟩
section
variable {P : Program} {w : World} {K : PySem.W.Frag} {mg : Str → Option Value} {base : Heap} {k : Nat} {f C : Addr} {fd : FuncData} {qual : Str} {st : Stmt}
  {N ps : List Str} {sp : Sp} {ar : Arg} {p0 p1 p2 p3 p4 : Pos} {e : Expr} {es : List Expr} {rest : List Stmt}
theorem FunI.ok (F : FunI P K qual st f C fd) (hbd : defBody st = .Expr (.Call (.Attribute (.Call (.Name "super" p0) [] [] p1) "__init__" p2) (e :: es) [] p3) p4 :: rest)
    (S : NScope N ps ["__class__"] (defScope st)) (hN : N[0]? = some ar.arg)
    (hp : ((defArgs st).posonlyargs ++ (defArgs st).args).head? = some ar) (hka : (defScope st).names.lookup ar.arg = some .local)
    (hks : (defScope st).names.lookup ("super" : Str) = some .globalImplicit) (hkc : (defScope st).names.lookup ("__class__" : Str) = some .free)
    (htop : (P.main.scope.names.lookup ("super" : Str)).isSome = false)
    (hm : mg "super" = none) (T : SupC K C)
    (len : ∀ vs H Q E, sp vs H Q E → vs.length = ps.length)
    (hbody : ∀ (X : Cx) (vs : List V) (H : Hp) (Q : VK) (E : XK), X.K = K → X.N = N → X.env.scope = defScope st → sp vs H Q E →
      ∃ (a : Addr) (ta : TA) (t : TS), vs[0]? = some (.ref a) ∧ H a = some (exo a C none) ∧ PA X (e :: es) ta ∧ PSs X rest t ∧
        ta (startF N vs [none]) H fun ws H1 => ws.length ≤ 1000 ∧ H1 a = some (exo a C none) ∧ t { nx := fun _ H' => Q .non H', rt := Q } (startF N vs [none]) H1)
    (hi : ∀ env : Env, env.scope = defScope st → interactive env = false)
    (hsw : ∀ env : Env, env.scope = defScope st → swapsWith (.Call (.Attribute (.Call (.Name "super" p0) [] [] p1) "__init__" p2) (e :: es) [] p3) none p4.line env = pure false)
    (hev : ∀ env : Env, env.scope = defScope st → ∃ pl : Sem Bool, eval (.Call (.Attribute (.Call (.Name "super" p0) [] [] p1) "__init__" p2) (e :: es) [] p3) env = (do
      let ov ← attributeBase (.Call (.Name "super" p0) [] [] p1) "__init__" env (eval (.Call (.Name "super" p0) [] [] p1) env)
      standAt p2.atName
      let (fv, first) ← holding [ov] (getMethod ov "__init__" pl)
      callWith p3 fv first (backTo p3 (starEach (e :: es) env)) []))
    (he : ∀ env : Env, starEach (e :: es) env = (false, eval e env) :: starEach es env) (hpl : ∀ env : Env, (backTo p3 (starEach es env)).any (·.1) = false) :
    FnOk P w K mg base CX0 (k + 1) f fd ps sp := by
  obtain ⟨oc, od, kV, doc, pm, an, cda, ct, cc, osl, ccl, cdd, vc, ccs, file, tf, cl, cld, csl, rfl, lk, hcd, hcode, hvs, hfile, hcell⟩ := F.ex
  rw [hbd] at lk ⊢
  exact fn_super lk hcd S hN hp hka hks hkc hcode hvs hfile hcell htop hm (by decide +kernel) T len (fun A outer s H vs Q E h => hbody _ vs H Q E rfl rfl rfl h) (fun L => hi _ rfl) (fun L => hsw _ rfl) (fun L => hev _ rfl) he hpl
variable {p5 p6 p7 p8 p9 q5 q6 q7 q8 q9 : Pos} {x y : Str}
theorem init1 (F : FunI P K qual st f C fd)
    (hbd : defBody st = [.Expr (.Call (.Attribute (.Call (.Name "super" p0) [] [] p1) "__init__" p2) [.Name x p5] [] p3) p4, .Assign [.Attribute (.Name "self" p6) x p7] (.Name x p8) p9])
    (S : NScope ["self", x, "__class__"] ["self", x] ["__class__"] (defScope st)) (hp : ((defArgs st).posonlyargs ++ (defArgs st).args).head? = some ar) (har : ar.arg = "self")
    (hks : (defScope st).names.lookup ("super" : Str) = some .globalImplicit) (htop : (P.main.scope.names.lookup ("super" : Str)).isSome = false) (hm : mg "super" = none) (T : SupC K C)
    (hev : ∀ env : Env, ∃ pl : Sem Bool, eval (.Call (.Attribute (.Call (.Name "super" p0) [] [] p1) "__init__" p2) [.Name x p5] [] p3) env = (do
      let ov ← attributeBase (.Call (.Name "super" p0) [] [] p1) "__init__" env (eval (.Call (.Name "super" p0) [] [] p1) env)
      standAt p2.atName
      let (fv, first) ← holding [ov] (getMethod ov "__init__" pl)
      callWith p3 fv first (backTo p3 (starEach [.Name x p5] env)) []))
    (hno : PySem.W.findIn K (.ref C) x = some none) (hd1 : (x == ("__debug__" : Str)) = false) (hd2 : (x == ("__classdict__" : Str)) = false) : FnOk P w K mg base CX0 (k + 1) f fd ["self", x] (spX C [x]) := by
  refine F.ok hbd S (by rw [har]; rfl) hp (by rw [har]; exact S.par _ List.mem_cons_self) hks (S.frk _ List.mem_cons_self) htop hm T (fun vs H Q E h => ?_) (fun X vs H Q E hK hN hs h => ?_)
    (fun env h => ?_) (fun env h => ?_) (fun env h => ?_) (fun env => rfl) (fun env => rfl)
  · obtain ⟨a, ys, rfl, hl, _⟩ := h
    exact congrArg Nat.succ hl
  · obtain ⟨a, ys, rfl, hl, ha, q⟩ := h
    obtain ⟨y, rfl⟩ : ∃ y, ys = [y] := by
      match ys, hl with
      | [y], _ => exact ⟨y, rfl⟩
    have v0 : ∀ pos, PE X (.Name "self" pos) (tVar 0) := fun pos => pe_var (by rw [hN]; rfl) (.inl (by rw [hs]; exact S.par _ List.mem_cons_self)) (by decide) (by decide)
    have v1 : ∀ pos, PE X (.Name x pos) (tVar 1) := fun pos => pe_var (by rw [hN]; rfl) (.inl (by rw [hs]; exact S.par _ (List.mem_cons_of_mem _ List.mem_cons_self))) hd1 hd2
    refine ⟨a, _, _, rfl, ha, pa_cons (v1 _) pa_nil, pss_one (ps_ost (v0 _) (v1 _)), ?_⟩
    refine ⟨_, rfl, Nat.le_of_ble_eq_true rfl, ha, _, rfl, _, rfl, a, C, rfl, by rw [hK]; exact T.oex, by rw [hK]; exact hno, .inl ⟨ha, fun dx hd hne => ?_⟩⟩
    exact q dx _ hd hne upd_same (by rw [upd_ne hne, upd_same]; rfl) (fun b h1 h2 => by rw [upd_ne h1, upd_ne h2])
  · unfold interactive
    rw [h, S.kind]
    rfl
  · rfl
  · exact hev env
end
end My
set_option Elab.async false
set_option linter.all false
set_option maxRecDepth 100000
set_option maxHeartbeats 4000000
namespace My
open PySem PySem.Spec PyProof.Rows L2 NdefX
section
variable {X : Cx} {x : Str} {C fI : Addr} {k : Nat} {fd : FuncData} {ps : List Str} {sp : Sp} {e : Expr} {es : List Expr} {ta : TA} {p pos : Pos}
/-- an error of class D stands at a -/
def IsX (H : Hp) (a D : Addr) : Prop := H a = some (exo a D none) ∨ ∃ dd fs, H a = some (exo a D (some dd)) ∧ H dd = some (exd dd fs)
theorem IsX.same {H H' : Hp} {a D : Addr} (s : Same H H') (h : IsX H a D) : IsX H' a D := by
  rcases h with h | ⟨dd, fs, h1, h2⟩
  · exact .inl (s _ _ h)
  · exact .inr ⟨dd, fs, s _ _ h1, s _ _ h2⟩
end
end My
set_option Elab.async false
set_option linter.all false
set_option maxRecDepth 100000
set_option maxHeartbeats 4000000
namespace My
open PySem PySem.Spec PyProof.Rows L2 NdefX
open L2H (RoomH PinOk cxH inv_startH)
/-- the error that is held at p is of class D -/
def IsP (H : Hp) (p : Addr × Obj) (D : Addr) : Prop := p.2.cls = .ref D ∧ (∃ vs, p.2.data = .fields vs) ∧ (p.2.dict = none ∨ ∃ dd fs, p.2.dict = some dd ∧ H dd = some (.xd fs))
theorem IsP.same {H H' : Hp} {p : Addr × Obj} {D : Addr} (s : Same H H') (h : IsP H p D) : IsP H' p D := by
  obtain ⟨h1, h2, h | ⟨dd, fs, h3, h4⟩⟩ := h
  · exact ⟨h1, h2, .inl h⟩
  · exact ⟨h1, h2, .inr ⟨dd, fs, h3, s _ _ h4⟩⟩
end My
set_option Elab.async false
set_option linter.all false
set_option maxRecDepth 100000
set_option maxHeartbeats 4000000
namespace Q
open PySem PySem.Spec PyProof.Rows L2 My
/-- what is asked of an error that leaves: its class, its fields, what may change -/
abbrev XM := Addr → List (Str × D) → Mp → Prop
abbrev XC := Addr → List (Str × D) → Z → Prop
abbrev DenX := List D → Mp → KD → XM → Prop
def MonoDX (den : DenX) : Prop := ∀ ds M Q Q' X X', (∀ d M', Q d M' → Q' d M') → (∀ C fs M', X C fs M' → X' C fs M') → den ds M Q X → den ds M Q' X'
/-- an error's dict, with its fields -/
def ErrAt (K : PySem.W.Frag) (g : Gh) (d : Option Addr) (fs : List (Str × D)) : Prop := (d = none ∧ fs = []) ∨ ∃ dd fvs, d = some dd ∧ g.Hs dd = some (.xd fvs) ∧ fs.map (·.1) = fvs.map (·.1) ∧ HasL K g (fvs.map (·.2)) (fs.map (·.2))
theorem ErrAt.le {K : PySem.W.Frag} {g g' : Gh} {d : Option Addr} {fs : List (Str × D)} (h : ErrAt K g d fs) (e : g.le g') : ErrAt K g' d fs := by
  rcases h with h | ⟨dd, fvs, h1, h2, h3, h4⟩
  · exact .inl h
  · exact .inr ⟨dd, fvs, h1, e.hs _ _ h2, h3, h4.le e⟩
def lxk (K : PySem.W.Frag) (g : Gh) (E : XK) : XM := fun C fs M => ∀ g' H' d, g.le g' → WR K g' M H' → ErrAt K g' d fs → E (.ref C) d H'
def spE (K : PySem.W.Frag) (den : DenX) : Sp := fun vs H Q E => ∃ g M ds, WR K g M H ∧ HasL K g vs ds ∧ den ds M (lk K g Q) (lxk K g E)
/-- what is asked of errors is taken by the context -/
structure TkQ (X : Cx) (g0 : Gh) (xc : XC) : Prop where
  ex : ∃ W : WX, Takes X W ∧ ∀ C fs z g σ H d, g0.le g → RR X.K g z σ H → ErrAt X.K g d fs → xc C fs z → W (.ref C) d σ H
theorem TkQ.none {X : Cx} {g0 : Gh} : TkQ X g0 (fun _ _ _ => False) := ⟨fun _ _ _ _ => False, fun u s' ⟨_, _, _, _, _, _, _, _, _, _, _, _, _, _, _, _, z⟩ => z.elim, fun _ _ _ _ _ _ _ _ _ _ h => h⟩
section
variable {P : Program} {w : World} {K : PySem.W.Frag} {mg : Str → Option Value} {base : Heap} {k : Nat} {f : Addr} {fd : FuncData} {ps N : List Str} {x qual : Str} {st : Stmt} {den : DenX} {wb : XC → WS}
/-- a def that may raise; what it changed of its own is left behind -/
theorem qfe (F : Fun K x qual st f fd) (S : FnScope N ps (defScope st)) (len : ∀ ds M Q X, den ds M Q X → ds.length = ps.length)
    (hw : ∀ (cdv : Value) (A : Around) (outer : List Env) (s : Shared) (H : Hp) (E : XK) (g0 : Gh) (xc : XC), Room k (A.deeper (envOfC qual (defScope st) s.heap.objs.size f cdv)) → A.guards = some [] →
      TkQ (cxOf (L2.CX P w) P w K mg base N qual (defScope st) f cdv A outer s H E) g0 xc → QSs (cxOf (L2.CX P w) P w K mg base N qual (defScope st) f cdv A outer s H E) g0 (defBody st) (wb xc))
    (hd : ∀ ds M Q X, den ds M Q X → wb (fun C fs z => ∃ M', Mle M' z.M ∧ X C fs M') (enW Q) ⟨ini N.length ds, M⟩) : FnG P w K mg base (L2.CX P w) (k + 1) f fd ps (spE K den) := by
  obtain ⟨oc, od, kV, doc, pm, an, cdv, ct, osl, rfl, lk', hcd⟩ := F.ex
  refine fnG_of lk' hcd S (fun vs H Q E ⟨g, M, ds, _, a, h⟩ => by rw [a.length]; exact len _ _ _ _ h) fun A outer s H vs Q E hr hg ⟨g, M, ds, hwr, ha, h⟩ => ?_
  have tk : TkQ (cxOf (L2.CX P w) P w K mg base N qual (defScope st) f cdv A outer s H E) g (fun C fs z => ∃ M', Mle M' z.M ∧ lxk K g E C fs M') :=
    ⟨_, L2.takes_of (E := E) rfl rfl rfl rfl, fun C fs z g' σ H' d e r er ⟨M', l, q⟩ => q g' H' d e (r.wr.weak l) er⟩
  have hq := hw cdv A outer s H E g _ hr hg tk
  refine ⟨_, hq.run, g, ⟨ini N.length ds, M⟩, .refl g, ⟨hwr, SlOk.ini ha⟩, hq.mono (enW (lk K g Q)) _ _ ⟨fun z ⟨M', l, h⟩ g' σ' H' e r => h .non g' H' e (r.wr.weak l) .non, fun d M ⟨M', l, h⟩ v g' H' e w a => h v g' H' e (w.weak l) a, fun z h => h.elim, fun z h => h.elim⟩ (hd ds M _ _ h)⟩
end
section
variable {X : Cx} {g0 : Gh} {k : Nat} {f C : Addr} {fd : FuncData} {ps : List Str} {den : DenX} {x m : Str} {p pos apos : Pos} {e o : Expr} {es : List Expr} {wa : WA} {we : WE} {dd : List D} {xc : XC}
/-- a call of a def that may raise -/
def wNE (den : DenX) (xc : XC) (dd : List D) (wa : WA) : WE := fun z Q => wa z fun ds z1 => den (ds ++ dd) z1.M (fun d M => Q d ⟨z1.ρ, M⟩) (fun C fs M => xc C fs ⟨z1.ρ, M⟩)
/-- raise C(..) -/
def wRaise (C : Addr) (fns : List Str) (xc : XC) (wa : WA) : WS := fun _ z => wa z fun ds z1 => ds.length = fns.length ∧ ds.length ≤ 10 ∧ xc C (fns.zip ds).reverse z1
theorem HasL.zipR {K : PySem.W.Frag} {g : Gh} {fns : List Str} {vs : List V} {ds : List D} (h : HasL K g vs ds) (hl : ds.length = fns.length) :
    (fns.zip ds).reverse.map (·.1) = (fns.zip vs).reverse.map (·.1) ∧ HasL K g ((fns.zip vs).reverse.map (·.2)) ((fns.zip ds).reverse.map (·.2)) := by
  have hv : vs.length = fns.length := h.length.trans hl
  rw [List.map_reverse, List.map_reverse, List.map_reverse, List.map_reverse]
  have e1 : (fns.zip ds).map (·.1) = fns := List.map_fst_zip (by omega)
  have e2 : (fns.zip vs).map (·.1) = fns := List.map_fst_zip (by omega)
  have e3 : (fns.zip ds).map (·.2) = ds := List.map_snd_zip (by omega)
  have e4 : (fns.zip vs).map (·.2) = vs := List.map_snd_zip (by omega)
  rw [e1, e2, e3, e4]
  exact ⟨rfl, h.reverse⟩
end
/-- a class of errors with its own __init__ -/
structure ErrI (P : Program) (w : World) (K : PySem.W.Frag) (mg : Str → Option Value) (base : Heap) (C : Addr) (fs : List Str) : Prop where
  T : SupC K C
  no : ∀ f ∈ fs, PySem.W.findIn K (.ref C) f = some none
  init : ∃ (fI : Addr) (fd : FuncData) (ps : List Str), PySem.W.findIn K (.ref C) "__init__" = some (some (.ref fI)) ∧ PySem.W.typeIn K (.ref fI) = some (.type "function") ∧ FnOk P w K mg base CX0 1 fI fd ps (spX C fs) ∧ Binds K fd ps []
section
variable {X : Cx} {g0 : Gh} {C : Addr} {x : Str} {p pos pos' : Pos} {e : Expr} {es : List Expr} {wa : WA} {xc : XC} {fns : List Str}
theorem qs_raise (hc : X.calm = true) (tk : TkQ X g0 xc) (E : ErrI X.prog X.w X.K X.mg X.base C fns) (hr : Room 2 X.A) (hm : X.mg x = some (.ref C)) (ha : QA X g0 (e :: es) wa) (hg : Gl X x := by rfl)
    (hdb : (x == ("__debug__" : Str)) = false := by decide) (he : starEach (e :: es) X.env = (false, eval e X.env) :: starEach es X.env := by rfl) (hpl : (backTo pos (starEach es X.env)).any (·.1) = false := by rfl) :
    QS X g0 (.Raise (some (.Call (.Name x p) (e :: es) [] pos)) none pos') (wRaise C fns xc wa) := by
  obtain ⟨W, t, ht⟩ := tk.ex
  obtain ⟨fI, fd, ps, h1, h2, h3, h4⟩ := E.init
  refine ⟨fun E E' z l h => h, (ps_raise hc t (pmk_oex E.T.oex h1 h2 h3 hr h4 .nil pass0 hg hm ha.run hdb he hpl)).imp fun D σ H ⟨g, z, l0, rr, h⟩ => ?_⟩
  refine ⟨g, z, l0, rr, ha.mono _ _ _ (fun ds z1 ⟨hl, h10, hx⟩ vs g1 H1 e1 r1 a1 => ⟨by rw [a1.length]; omega, fun a han => ?_⟩) h⟩
  rw [List.append_nil]
  refine ⟨a, vs, rfl, by rw [a1.length]; exact hl, upd_same, fun dx H' hd hne k1 k2 k3 => ?_⟩
  have hd' : H1 dx = none := by rw [upd_ne hne] at hd; exact hd
  refine ⟨rfl, dx, _, k1, k2, hd', ?_⟩
  have le := Gh.le_add (o := HO.xd (fns.zip vs).reverse) (r1.wr.hsn hd')
  obtain ⟨z1', z2'⟩ := (a1.le le).zipR hl
  refine ht C _ z1 (g1.add dx (.xd (fns.zip vs).reverse)) σ _ (some dx) ((l0.trans e1).trans le) ⟨r1.wr.share (r1.wr.hsn hd') (r1.wr.frn hd') (r1.wr.mtn hd') (fun B hB => r1.wr.nbag hd' hB) upd_same fun b u hb hu => ?_, r1.sl.le le⟩ (.inr ⟨dx, _, rfl, Gh.add_same, z1', z2'⟩) hx
  have n1 : b ≠ a := ne_of_none hu han
  rw [upd_ne hb, del_ne n1, k3 b n1 hb, upd_ne n1]
  exact hu
end
end Q
set_option Elab.async false
set_option linter.all false
set_option maxRecDepth 100000
set_option maxHeartbeats 4000000
namespace Q
open PySem PySem.Spec PyProof.Rows L2 My
theorem En.le.trans {a b c : En} (h : a.le b) (k : b.le c) : a.le c := ⟨fun z q => k.nx z (h.nx z q), fun d M q => k.rt d M (h.rt d M q), fun z q => k.bk z (h.bk z q), fun z q => k.ct z (h.ct z q)⟩
theorem SlOk.unset {K : PySem.W.Frag} {g : Gh} {σ : L2.St} {ρ : List (Option D)} (s : SlOk K g σ ρ) (i : Nat) : SlOk K g (σ.set i none) (ρ.set i none) := by
  refine ⟨by simpa using s.len, fun j d hj => ?_⟩
  by_cases e : j = i
  · subst e
    rw [List.getElem?_set] at hj
    simp only [if_true] at hj
    split at hj <;> cases hj
  · rw [List.getElem?_set_ne (Ne.symm e)] at hj ⊢
    exact s.get j d hj
/-- behind the suite the name is gone -/
def outE (i : Nat) (E : En) : En := ⟨fun z => E.nx ⟨z.ρ.set i none, z.M⟩, E.rt, fun z => E.bk ⟨z.ρ.set i none, z.M⟩, fun z => E.ct ⟨z.ρ.set i none, z.M⟩⟩
def hcont (K : PySem.W.Frag) (cR : Addr) (i : Nat) (xo : XC) (ws : Addr → Addr → List (Str × D) → WS) (E : En) : XC := fun C fs z => ∃ b, PySem.W.exmOne K (.ref C) (.ref cR) = some b ∧ if b = true then ∀ a, ws a C fs (outE i E) ⟨z.ρ.set i (some (.ref a)), z.M⟩ else xo C fs z
def wTry (K : PySem.W.Frag) (cR : Addr) (i : Nat) (xo : XC) (wb : XC → WS) (ws : Addr → Addr → List (Str × D) → WS) : WS := fun E z => ∃ E0 : En, E0.le E ∧ wb (hcont K cR i xo ws E0) E0 z
section
variable {X : Cx} {g0 : Gh} {x n : Str} {cR : Addr} {i : Nat} {body suite : List Stmt} {b₀ : Stmt} {np pos pos' : Pos} {wb : XC → WS} {ws : Addr → Addr → List (Str × D) → WS} {xo : XC}
theorem qs_try (K : PySem.W.Frag) (hN : X.N.Nodup) (hm : X.mg x = some (.ref cR)) (tk : TkQ X g0 xo)
    (hb : ∀ (g1 : Gh) (xc : XC) (pn : List (Addr × Obj)) (xe : Value → Shared → Prop), TkQ (X.tr pn xe) g1 xc → PassesOwn (model X.prog X.w) X.A X.env xe → QSs (X.tr pn xe) g1 body (wb xc))
    (hsu : ∀ (a : Addr) (oe : Obj) (C : Addr) (fs : List (Str × D)) (d : Option Addr) (pn : List (Addr × Obj)) (g1 : Gh), Zc (.ref C) d oe → (∃ vs, oe.data = .fields vs) → ErrAt X.K g1 d fs → QSs (X.suite a ((a, oe) :: pn)) g1 (b₀ :: suite) (ws a C fs))
    (hK : X.K = K := by rfl) (hs : X.stack = X.env :: X.outer := by rfl) (hf : X.env.frame = some X.env.locals := by rfl) (hi : X.N[i]? = some n := by rfl) (hln : X.env.kindOf n = some .local := by rfl) (hg : Gl X x := by rfl) (hdb : (x == ("__debug__" : Str)) = false := by decide) :
    QS X g0 (.Try body [.ExceptHandler (some (.Name x np)) (some n) (b₀ :: suite) pos'] [] [] pos) (wTry K cR i xo wb ws) := by
  subst hK
  obtain ⟨Wout, t, ht⟩ := tk.ex
  refine ⟨fun E E' z l ⟨E0, l0, h⟩ => ⟨E0, l0.trans l, h⟩, ?_⟩
  refine (ps_try_as (x := x) (c := .ref cR) hs hf hN hi hln ⟨hg, hdb, .inl hm⟩ t
    (tb := fun W D σ H => ∃ g z xc E0, RR X.K g z σ H ∧ En.le E0 (lf X.K g D) ∧ (∀ C fs z' g' σ' H' d, g.le g' → RR X.K g' z' σ' H' → ErrAt X.K g' d fs → xc C fs z' → W (.ref C) d σ' H') ∧ wb xc E0 z)
    (ts := fun a cls d D σ H => ∃ C fs g z E0, cls = .ref C ∧ ErrAt X.K g d fs ∧ RR X.K g z σ H ∧ En.le E0 (lf X.K g D) ∧ ws a C fs E0 z)
    (fun W pn xe tkW po => ⟨fun pins s σ H D I ⟨g, z, xc, E0, rr, le, hW, h⟩ => ?_⟩) (fun a oe cls d pn hz hfl => ⟨fun pins s σ H D I ⟨C, fs, g, z, E0, e, er, rr, le, h⟩ => ?_⟩)).imp fun D σ H ⟨g, z, l0, rr, E0, le0, h⟩ => ?_
  · have q := hb g xc pn xe ⟨W, tkW, hW⟩ po
    exact q.run.run pins s σ H D I ⟨g, z, .refl g, rr, q.mono _ _ _ le h⟩
  · subst e
    have q := hsu a oe C fs d pn g hz hfl er
    exact q.run.run pins s σ H D I ⟨g, z, .refl g, rr, q.mono _ _ _ le h⟩
  · refine ⟨g, z, _, E0, rr, le0, fun C fs z1 g1 σ1 H1 d e1 r1 er ⟨b, hb1, hx⟩ => ?_, h⟩
    cases b with
    | true =>
      refine ⟨true, hb1, fun _ a ha => ⟨C, fs, g1, ⟨z1.ρ.set i (some (.ref a)), z1.M⟩, outE i E0, rfl, er, ⟨r1.wr, r1.sl.set (.ref a) i⟩, ⟨fun z' q g2 σ2 H2 e2 r2 => ?_, fun d' M' q v g2 H2 e2 w2 a2 => ?_, fun z' q g2 σ2 H2 e2 r2 => ?_, fun z' q g2 σ2 H2 e2 r2 => ?_⟩, hx a⟩, fun z => nomatch z⟩
      · exact le0.nx _ q g2 (σ2.set i none) H2 (e1.trans e2) ⟨r2.wr, r2.sl.unset i⟩
      · exact le0.rt _ _ q v g2 H2 (e1.trans e2) w2 a2
      · exact le0.bk _ q g2 (σ2.set i none) H2 (e1.trans e2) ⟨r2.wr, r2.sl.unset i⟩
      · exact le0.ct _ q g2 (σ2.set i none) H2 (e1.trans e2) ⟨r2.wr, r2.sl.unset i⟩
    | false => exact ⟨false, hb1, (fun z => nomatch z), fun _ => ht C fs z1 g1 σ1 H1 d (l0.trans e1) r1 er hx⟩
end
def rIsP2 (K : PySem.W.Frag) (p : Addr × Obj) : List V → Hp → VK → Prop := fun xs H Q => ∃ D : Addr, IsP H p D ∧ ExcC K D ∧ ((∃ (c : Addr) (b : Bool), xs = [.ref p.1, .ref c] ∧ PySem.W.kitOne K (.ref D) (.ref c) = some b ∧ Q (.bl b) H) ∨
  ∃ (tp : Addr) (cs : List Addr) (b : Bool), xs = [.ref p.1, .ref tp] ∧ H tp = some (.tup (cs.map V.ref)) ∧ PySem.W.kitAny K (.ref D) (cs.map Value.ref) = some b ∧ Q (.bl b) H)
theorem vals_refs : ∀ {cs : List Addr} {us : List Value}, Vals (cs.map V.ref) us → us = cs.map Value.ref
  | [], [], _ => rfl
  | c :: cs, u :: us, .cons h t => by
    rw [vals_refs t]
    cases (show u = Value.ref c from h)
    rfl
theorem call_isP2 {X : Cx} {p : Addr × Obj} (hp : p ∈ X.pn) : CallR X (.builtin "isinstance") (rIsP2 X.K p) := by
  intro pins s σ H xs us Q I r h
  obtain ⟨D, ⟨hc1, ⟨vs, hd⟩, hx⟩, C, h⟩ := h
  have hg := (I.pin p (List.mem_append_left _ hp)).1
  have J : ∃ od, PySem.W.InstAt s.heap p.1 p.2 D od := by
    rcases hx with hx | ⟨dd, fs, h3, h4⟩
    · exact ⟨none, hg, hc1, by unfold PySem.W.notCls; rw [hd] <;> rfl, by rw [hx]; trivial⟩
    · obtain ⟨mA, hns, hr⟩ := (I.hok dd _ h4 : ObjOk X.prog X.w H s.heap dd (.xd fs))
      obtain ⟨od, ho, hl⟩ := lookIn_ns hns
      exact ⟨some od, hg, hc1, by unfold PySem.W.notCls; rw [hd] <;> rfl, by rw [h3]; exact ho⟩
  obtain ⟨od, J⟩ := J
  obtain ⟨cd, hc, _⟩ := PySem.W.any_some C.hd
  rcases h with ⟨c, b, rfl, e, q⟩ | ⟨tp, cs, b, rfl, hT, e, q⟩
  · obtain ⟨u1, u2, rfl, r1, r2⟩ := vals2 r
    cases (show u1 = Value.ref p.1 from r1)
    cases (show u2 = Value.ref c from r2)
    exact PySem.W.kia_one (PySem.W.kitx_exc (by rw [hc]; rfl) C.hg C.hk C.hs C.ha C.hn C.ht C.hm) I.kIn J e (fun z => nomatch z) fun tk => ⟨.bl b, H, I.kept (t' := tk) fun _ _ z => z, rfl, q⟩
  · obtain ⟨u1, u2, rfl, r1, r2⟩ := vals2 r
    cases (show u1 = Value.ref p.1 from r1)
    cases (show u2 = Value.ref tp from r2)
    obtain ⟨_, its, rv, o, h1, h2, n, h3⟩ := (show ObjOk X.prog X.w H s.heap tp (.tup (cs.map V.ref)) from I.hok tp _ hT)
    have e3 := vals_refs rv
    subst e3
    obtain ⟨oc, od', dt, sl⟩ := o
    simp only at h2 h3
    subst h2 h3
    exact PySem.W.kia_tup (PySem.W.kitx_exc (by rw [hc]; rfl) C.hg C.hk C.hs C.ha C.hn C.ht C.hm) I.kIn J h1 e (fun z => nomatch z) fun tk => ⟨.bl b, H, I.tok tk, rfl, q⟩
def rdIsE (K : PySem.W.Frag) (a C : Addr) (ds : List D) (M : Mp) (Q : KD) : Prop := ExcC K C ∧ ((∃ (c : Addr) (b : Bool), ds = [.ref a, .ref c] ∧ PySem.W.kitOne K (.ref C) (.ref c) = some b ∧ Q (.bl b) M) ∨
  ∃ (cs : List Addr) (b : Bool), ds = [.ref a, .tup (cs.map .ref)] ∧ PySem.W.kitAny K (.ref C) (cs.map .ref) = some b ∧ Q (.bl b) M)
theorem HasL.refs {K : PySem.W.Frag} {g : Gh} : ∀ {cs : List Addr} {vs : List V}, HasL K g vs (cs.map D.ref) → vs = cs.map V.ref
  | [], _, .nil => rfl
  | c :: cs, _, .cons h t => by
    cases h
    rw [HasL.refs t]
    rfl
section
variable {X : Cx} {g0 g1 : Gh} {a C : Addr} {oe : Obj} {d : Option Addr} {pn : List (Addr × Obj)} {fs : List (Str × D)} {wa : WA} {we : WE} {p pos : Pos} {e : Expr} {es : List Expr}
theorem ErrAt.isP {K : PySem.W.Frag} {g : Gh} {M : Mp} {H : Hp} (w : WR K g M H) (er : ErrAt K g d fs) (hz : Zc (.ref C) d oe) (hf : ∃ vs, oe.data = .fields vs) : IsP H (a, oe) C := by
  refine ⟨hz.1, hf, ?_⟩
  rcases er with ⟨h, _⟩ | ⟨dd, fvs, h1, h2, _⟩
  · exact .inl (hz.2.trans h)
  · exact .inr ⟨dd, fvs, hz.2.trans h1, w.sub _ _ h2⟩
theorem qe_isE (K : PySem.W.Frag) (hp : (a, oe) ∈ X.pn) (hz : Zc (.ref C) d oe) (hf : ∃ vs, oe.data = .fields vs) (er : ErrAt X.K g1 d fs) (hm : X.mg "isinstance" = none) (ha : QA X g1 (e :: es) wa) (hg : Gl X "isinstance" := by rfl)
    (he : starEach (e :: es) X.env = (false, eval e X.env) :: starEach es X.env := by rfl) (hpl : (backTo pos (starEach es X.env)).any (·.1) = false := by rfl) (hK : X.K = K := by rfl) :
    QE X g1 (.Call (.Name "isinstance" p) (e :: es) [] pos) (wN (rdIsE K a C) wa) := by
  subst hK
  have mo : ∀ ds M Q Q', (∀ d M', Q d M' → Q' d M') → rdIsE X.K a C ds M Q → rdIsE X.K a C ds M Q' := fun ds M Q Q' k ⟨T, h⟩ => ⟨T, h.elim (fun ⟨c, b, h1, h2, h3⟩ => .inl ⟨c, b, h1, h2, k _ _ h3⟩) fun ⟨cs, b, h1, h2, h3⟩ => .inr ⟨cs, b, h1, h2, k _ _ h3⟩⟩
  refine ⟨fun z Q Q' k h => ha.mono _ _ _ (fun ds z1 h1 => mo _ _ _ _ (fun d M q => k _ _ q) h1) h, (pe_callB (call_isP2 hp) hg hm (by decide +kernel) ha.run (by decide) (by decide) he hpl).imp fun σ H Q ⟨g, z, l0, r, h⟩ => ?_⟩
  refine ⟨g, z, l0, r, ha.mono _ _ _ (fun ds z1 ⟨T, h1⟩ vs g2 H2 e2 r2 a2 => ⟨C, (er.le (l0.trans e2)).isP r2.wr hz hf, T, ?_⟩) h⟩
  rcases h1 with ⟨c, b, rfl, k2, k3⟩ | ⟨cs, b, rfl, k2, k3⟩
  · obtain ⟨v, u, rfl, hv, hu⟩ := has2 a2
    cases hv
    cases hu
    exact .inl ⟨c, b, rfl, k2, k3 (.bl b) g2 H2 e2 ⟨r2.wr, r2.sl⟩ (.bl b)⟩
  · obtain ⟨v, u, rfl, hv, hu⟩ := has2 a2
    cases hv
    obtain ⟨tp, xs, rfl, m1, m2⟩ := hu.tup_inv
    have ex := m2.refs
    subst ex
    exact .inr ⟨tp, cs, b, rfl, r2.wr.sub _ _ m1, k2, k3 (.bl b) g2 H2 e2 ⟨r2.wr, r2.sl⟩ (.bl b)⟩
/-- e.f -/
def wXf (K : PySem.W.Frag) (a C : Addr) (fs : List (Str × D)) (f : Str) (we : WE) : WE := fun z Q => XfC K C ∧ PySem.W.findIn K (.ref C) f = some none ∧ we z fun d z1 => d = .ref a ∧ ∃ v, fs.lookup f = some v ∧ Q v z1
theorem qe_xf {f : Str} (K : PySem.W.Frag) (hz : Zc (.ref C) d oe) (hf : ∃ vs, oe.data = .fields vs) (er : ErrAt X.K g1 d fs) (he : QE (X.suite a ((a, oe) :: pn)) g1 e we) (hb : attributeBase e f X.env (eval e X.env) = eval e X.env := by rfl) (hK : X.K = K := by rfl) :
    QE (X.suite a ((a, oe) :: pn)) g1 (.Attribute e f pos) (wXf K a C fs f we) := by
  subst hK
  refine ⟨fun z Q Q' k ⟨h1, h2, h3⟩ => ⟨h1, h2, he.mono _ _ _ (fun d z1 ⟨q1, v, q2, q3⟩ => ⟨q1, v, q2, k _ _ q3⟩) h3⟩, ⟨fun pins s σ H Q I ⟨g, z, l0, r, T, hno, h⟩ => ?_⟩⟩
  refine (pe_xf T hno hz hf he.run hb).run pins s σ H Q I ⟨g, z, l0, r, he.mono _ _ _ (fun d' z1 ⟨q1, v, q2, q3⟩ u g2 H2 e2 r2 a2 => ?_) h⟩
  subst q1
  cases a2
  rcases er.le (l0.trans e2) with ⟨_, h1⟩ | ⟨dd, fvs, h1, h2, h3, h4⟩
  · rw [h1] at q2
    cases q2
  · obtain ⟨u, h7, h8⟩ := (look_up (f := f) h3 h4).1 _ q2
    exact ⟨rfl, rfl, dd, fvs, u, h1, r2.wr.sub _ _ h2, h7, q3 u g2 H2 e2 r2 h8⟩
end
theorem qe_cls {X : Cx} {g0 : Gh} {x : Str} {C : Addr} {pos : Pos} (hm : X.mg x = some (.ref C)) (hg : Gl X x := by rfl) (hd : (x == ("__debug__" : Str)) = false := by decide) : QE X g0 (.Name x pos) (wC (.ref C)) :=
  qe_glob (v := .ref C) hm rfl (fun _ => .ref _) hg hd
end Q
set_option Elab.async false
set_option linter.all false
set_option maxRecDepth 100000
set_option maxHeartbeats 4000000
set_option Elab.async false
set_option linter.all false
set_option maxRecDepth 100000
set_option maxHeartbeats 4000000
namespace Q
open PySem PySem.Spec PyProof.Rows L2 My NdefX
theorem BdK.of {K : PySem.W.Frag} {fd : FuncData} {ps : List Str} (b : Binds K fd ps []) : BdK K fd ps [] := ⟨[], [], .nil, b, fun _ => .nil⟩
section
variable {X : Cx} {g0 : Gh} {k n : Nat} {f : Addr} {fd : FuncData} {ps ks : List Str} {den : DenX} {x : Str} {p pos kpos : Pos} {e : Expr} {es : List Expr} {kws : List Keyword} {wa wk : WA} {we : WE} {xc : XC} {nm : Option Str}
theorem _root_.L2.PK.imp {X : Cx} {e : List Keyword} {t t' : TA} (h : PK X e t) (k : ∀ σ H Q, t' σ H Q → t σ H Q) : PK X e t' := ⟨fun po pins s σ H Q I w => h.run po pins s σ H Q I (k σ H Q w)⟩
/-- f(e, .., k = v, ..), f may raise -/
def wNEN (den : DenX) (xc : XC) (n m : Nat) (wa wk : WA) : WE := fun z Q => wa z fun ds z1 => wk z1 fun zs z2 => ds.length = n ∧ zs.length = m ∧ den (ds ++ zs) z2.M (fun d M => Q d ⟨z2.ρ, M⟩) (fun C fs M => xc C fs ⟨z2.ρ, M⟩)
end
structure ToldI (P : Program) (K : PySem.W.Frag) (qual : Str) (st : Stmt) (C : Addr) (fs : List Str) : Prop where
  T : SupC K C
  no : ∀ f ∈ fs, PySem.W.findIn K (.ref C) f = some none
  init : ∃ (fI : Addr) (fd : FuncData), PySem.W.findIn K (.ref C) "__init__" = some (some (.ref fI)) ∧ PySem.W.typeIn K (.ref fI) = some (.type "function") ∧ FunI P K qual st fI C fd
theorem toldI {P : Program} {K : PySem.W.Frag} {qual file : Str} {st : Stmt} {C N fI cda cc : Addr} {fs : List Str} {nm q : Str} {bs bm : List Value} {sn : List Str} {sub : List Value} {ab : Bool} {col : Option Bool} {dd : Option Addr} {k0 k1 k2 k3 k5 : Option Value}
    {oc kV doc pm ct ccl cl : Value} {od an cdd cld : Option Addr} {osl ccs csl : Array (Option Value)} {vc : Array Value} {tf : Tok}
    (l : K.lookup C = some (excClassObj nm q C N bs bm true sn sub ab col dd k0 k1 k2 k3 k5 "ValueError.__new__")) (r : PySem.HandSPX.refsVE bm = true)
    (sa : PySem.W.findIn K (.ref C) "__setattr__" = some (some (.builtin "object.__setattr__"))) (exC : PySem.W.subIn K (.ref C) (.type "BaseException") = some true) (tyC : PySem.W.typeIn K (.ref C) = some (.type "type")) (kC : PySem.W.keepIn K (.ref C) = true)
    (opq : PySem.W.nsIn K cStatics "thirdparty.any" = some none) (sup : PySem.W.ks_superIn K C C "__init__" = some (some (.builtin "ValueError.__init__"))) (sb : PySem.W.subIn K (.ref C) (.type "ValueError") = some true) (mr : PySem.W.mroIn K C (.ref C) = some true)
    (no : ∀ f ∈ fs, PySem.W.findIn K (.ref C) f = some none) (fi : PySem.W.findIn K (.ref C) "__init__" = some (some (.ref fI))) (ti : PySem.W.typeIn K (.ref fI) = some (.type "function"))
    (lk : K.lookup fI = some ⟨oc, od, .func (PySem.W.ksFn "__init__" qual (defArgs st) (defBody st) (defScope st) .none kV doc pm an (.ref cda) ct cc), osl⟩) (cd : PySem.W.codeIn K (.ref cda) qual = true)
    (lc : K.lookup cda = some ⟨ccl, cdd, .fields vc, ccs⟩) (hv : vc[2]? = some (.str file tf)) (hf : ((P.main.file : Str) == file) = true) (lcell : K.lookup cc = some ⟨cl, cld, .cell (some (.ref C)), csl⟩) : ToldI P K qual st C fs :=
  ⟨⟨⟨⟨nm, q, N, bs, bm, sn, sub, ab, col, dd, k0, k1, k2, k3, k5, l, r⟩, sa, exC, tyC, kC⟩, opq, sup, sb, mr⟩, no, fI, _, fi, ti, ⟨oc, od, kV, doc, pm, an, cda, ct, cc, osl, ccl, cdd, vc, ccs, file, tf, cl, cld, csl, rfl, lk, cd, lc, hv, hf, lcell⟩⟩
def excB (K : PySem.W.Frag) (D : Addr) : Bool := decide (PySem.W.findIn K (.ref D) "__getattribute__" = some (some (.builtin "BaseException.__getattribute__"))) && (decide (PySem.W.findIn K (.ref D) "__getattr__" = some none) && (decide (PySem.W.subIn K (.ref D) (.type "BaseException") = some true) && (PySem.W.hasDictIn K D &&
  (decide (PySem.W.findIn K (.ref D) "__class__" = some (some (.builtin "object.__class__"))) && (decide (PySem.W.specialIn K (.builtin "object.__class__") "__get__" = some (some (.builtin "getset_descriptor.__get__"))) && (decide (PySem.W.takesIn K (.builtin "object.__class__") = some true) && decide (PySem.W.mroIn K D (.type "object") = some true)))))))
theorem excB_ok {K : PySem.W.Frag} {D : Addr} (h : excB K D = true) : ExcC K D := by
  unfold excB at h
  simp only [Bool.and_eq_true, decide_eq_true_eq] at h
  exact ⟨h.1, h.2.1, h.2.2.1, h.2.2.2.1, h.2.2.2.2.1, h.2.2.2.2.2.1, h.2.2.2.2.2.2.1, h.2.2.2.2.2.2.2⟩
/-- an error's class, under the class that is looked for -/
structure ErrC (K : PySem.W.Frag) (C cR : Addr) : Prop where
  exc : ExcC K C
  exm : PySem.W.exmOne K (.ref C) (.ref cR) = some true
theorem ErrC.xf {K : PySem.W.Frag} {C cR : Addr} (h : ErrC K C cR) : XfC K C := ⟨h.exc.hg, h.exc.hk, h.exc.hs, h.exc.hd⟩
def errB1 (K : PySem.W.Frag) (C cR : Addr) : Bool := excB K C && decide (PySem.W.exmOne K (.ref C) (.ref cR) = some true)
theorem errB1_ok {K : PySem.W.Frag} {C cR : Addr} (h : errB1 K C cR = true) : ErrC K C cR := by
  unfold errB1 at h
  rw [Bool.and_eq_true] at h
  exact ⟨excB_ok h.1, of_decide_eq_true h.2⟩
end Q
set_option Elab.async false
set_option linter.all false
set_option maxRecDepth 100000
set_option maxHeartbeats 4000000
namespace Q
open PySem PySem.Spec PyProof.Rows L2 My
section
variable {X : Cx} {C f : Addr} {den : Den} {k : Nat} {fd : FuncData} {ps : List Str}
/-- len(o) -/
def rdLenO (C : Addr) (den : Den) (ds : List D) (M : Mp) (Q : KD) : Prop := ∃ x fs, ds = [x] ∧ inst M x = some (C, fs) ∧ den [x] M fun r M' => ∃ n : Nat, r = .int (n : Nat) ∧ n < 2 ^ 63 ∧ Q (.int (n : Nat)) M'
/-- repr(o) -/
def rdReprO (C : Addr) (den : Den) (ds : List D) (M : Mp) (Q : KD) : Prop := ∃ x fs, ds = [x] ∧ inst M x = some (C, fs) ∧ den [x] M fun r M' => ∃ y : Str, r = .str y ∧ Q (.str y) M'
/-- o == p, o != p: both of the class -/
def rdEqO (C : Addr) (den : Den) (n : Bool) (x y : D) (M : Mp) (Q : KD) : Prop := ∃ fs gs, inst M x = some (C, fs) ∧ inst M y = some (C, gs) ∧ den [x, y] M fun r M' => ∃ b, r = .bl b ∧ Q (.bl (xor n b)) M'
theorem rdEqO.mono {C : Addr} {den : Den} {n : Bool} (h : MonoD den) : Mono2 (rdEqO C den n) := fun x y M Q Q' k ⟨fs, gs, h1, h2, h3⟩ => ⟨fs, gs, h1, h2, h _ _ _ _ (fun r M' ⟨b, e, q⟩ => ⟨b, e, k _ _ q⟩) h3⟩
/-- o != p where the class has no __ne__ of its own -/
structure NeC (K : PySem.W.Frag) (C f : Addr) : Prop where
  cls : ∃ nm q N bs hdct sn sub ab col dd k0 k1 k2 k3 k5 newId, K.lookup C = some (excClassObj nm q C N bs [.type "object"] hdct sn sub ab col dd k0 k1 k2 k3 k5 newId) ∧ PySem.W.nsOkIn K N = true ∧ PySem.W.nsIn K N "__eq__" = some (some (.ref f)) ∧ PySem.W.nsIn K N "__ne__" = some none
  fn : ∃ oc od dt sl, K.lookup f = some ⟨oc, od, dt, sl⟩ ∧ oc = .type "function"
theorem ns_at {K : PySem.W.Frag} {h : Heap} {N : Addr} {mg : Str → Option Value} {y : Str} {v : Value} (X : K.In h) (G : h.Ns N mg) (e : PySem.W.nsIn K N y = some (some v)) : mg y = some v := by
  obtain ⟨o, es, ep, ho, hd, _, hf⟩ := G
  unfold PySem.W.nsIn at e
  split at e
  · rename_i q
    have z := (X _ _ q).symm.trans ho
    cases z
    cases hd
    split at e
    · rename_i he
      rw [← hf]
      unfold nsFind findBy
      rw [← Array.find?_toList, he]
      simpa using e
    · split at e <;> cases e
  · cases e
theorem NeC.own {K : PySem.W.Frag} {C f p : Addr} {h : Heap} {o : Obj} (n : NeC K C f) (X : K.In h) (hp : h.get? p = some o) (hc : o.cls = .ref C) : h.OwnEqNoNe p C f "object" [.type "object"] := by
  obtain ⟨nm, q, N, bs, hdct, sn, sub, ab, col, dd, k0, k1, k2, k3, k5, newId, h1, h2, h3, h4⟩ := n.cls
  obtain ⟨oc, od, dt, sl, h5, rfl⟩ := n.fn
  have hns : h.Ns N (h.nsMap N) := .of_isNs (PySem.W.isNs_of_in X h2)
  exact ⟨o, _, nm, q, N, bs, hdct, sn, sub, ab, col, dd, k0, k1, k2, k3, k5, newId, _, _, hp, hc, X _ _ h1, hns, ns_at X hns h3, X _ _ h5, rfl, PySem.F.cmp_object.mro, PySem.F.cmp_object.eq.lookup, PySem.W.ns_none_of X hns h4⟩
end
end Q
set_option Elab.async false
set_option linter.all false
set_option maxRecDepth 100000
set_option maxHeartbeats 4000000
open PySem PySem.Spec PyProof.Rows
namespace PySem.W
end PySem.W
namespace Q
open L2 My
section
variable {X : Cx} {C f : Addr} {den : Den} {k : Nat} {fd : FuncData} {ps : List Str} {g0 : Gh} {e : Expr} {we : WE} {pos : Pos}
/-- f'{o!r}': an instance with its own __repr__ -/
def wFmtRO (C : Addr) (den : Den) (we : WE) : WE := fun z Q => we z fun d z1 => ∃ fs, inst z1.M d = some (C, fs) ∧ den [d] z1.M fun r M' => ∃ y : Str, r = .str y ∧ y.length ≤ sizeLine ∧ Q (.str y) ⟨z1.ρ, M'⟩
/-- f'{d!r}': a list, tuple or dict of plain data -/
def wFmtRD (we : WE) : WE := fun z Q => we z fun d z1 => ((∃ ds, look z1.M d = .lst ds) ∨ (∃ ds, look z1.M d = .tup ds) ∨ ∃ kvs, look z1.M d = .dct kvs) ∧ (look z1.M d).pr = true ∧ Shows (look z1.M d).py ∧ Q (.str (look z1.M d).py.shown) z1
end
end Q
set_option Elab.async false
set_option linter.all false
set_option maxRecDepth 100000
set_option maxHeartbeats 4000000
namespace Q
open PySem PySem.Spec PyProof.Rows L2 My
section
variable {X : Cx} {g0 : Gh} {k : Nat} {f C : Addr} {fd : FuncData} {ps : List Str} {den : DenX} {x m : Str} {p pos apos : Pos} {e o : Expr} {es : List Expr} {wa : WA} {we : WE} {xc : XC}
/-- o.m(..), m may raise -/
def wMethE (C : Addr) (m : Str) (den : DenX) (xc : XC) (we : WE) (wa : WA) : WE := fun z Q => we z fun d z1 => ∃ fs, inst z1.M d = some (C, fs) ∧ fs.lookup m = none ∧ wa z1 fun ds z2 => den (d :: ds) z2.M (fun r M => Q r ⟨z2.ρ, M⟩) (fun C' fs' M => xc C' fs' ⟨z2.ρ, M⟩)
end
section
variable {X : Cx} {g0 : Gh} {e : Expr} {we : WE} {pos : Pos}
def wFmt (we : WE) : WE := fun z Q => we z fun d z1 => ∃ y : Str, d = .str y ∧ y.length ≤ sizeLine ∧ Q (.str y) z1
/-- the texts one behind the other -/
def wJs : List WE → Str → Z → (Str → Z → Prop) → Prop
  | [], acc, z, Q => Q acc z
  | w :: ws, acc, z, Q => w z fun d z1 => ∃ y : Str, d = .str y ∧ (acc ++ y).length ≤ sizeLine ∧ wJs ws (acc ++ y) z1 Q
theorem wJs.mono : ∀ {ws : List WE}, (∀ w ∈ ws, MonoE w) → ∀ acc z Q Q', (∀ y z', Q y z' → Q' y z') → wJs ws acc z Q → wJs ws acc z Q'
  | [], _, acc, z, Q, Q', k, h => k _ _ h
  | w :: ws, m, acc, z, Q, Q', k, h => m w List.mem_cons_self _ _ _ (fun d z1 ⟨y, h1, h2, h3⟩ => ⟨y, h1, h2, wJs.mono (fun u hu => m u (List.mem_cons_of_mem _ hu)) _ _ _ _ k h3⟩) h
def wJoin (ws : List WE) : WE := fun z Q => wJs ws Str.empty z fun y z1 => Q (.str y) z1
end
end Q
set_option Elab.async false
set_option linter.all false
set_option maxRecDepth 100000
set_option maxHeartbeats 4000000
namespace Q
open PySem PySem.Spec PyProof.Rows L2 My
section
variable {X : Cx}
theorem hasL_sts {K : PySem.W.Frag} {g : Gh} : ∀ {ss : List Str} {vs : List V}, HasL K g vs (sts ss) → vs = ss.map V.str
  | [], _, h => by
    cases h
    rfl
  | a :: ss, _, h => by
    cases h with
    | cons h1 h2 =>
      cases h1
      rw [hasL_sts h2]
      rfl
end
def eqKs (kb : List (Key × D)) : List (Key × D) → Bool
  | [] => true
  | (k, d) :: r => match valD kb k with
    | none => false
    | some y => deq d y && eqKs kb r
def rdEqD (n : Bool) (x y : D) (M : Mp) (Q : KD) : Prop := ∃ ka kb, look M x = .dct ka ∧ look M y = .dct kb ∧ (∀ p ∈ ka, eqOk p.2 = true ∧ look M p.2 = p.2) ∧ (∀ p ∈ kb, eqOk p.2 = true ∧ look M p.2 = p.2) ∧ Q (.bl (xor n (ka.length == kb.length && eqKs kb ka))) M
section
variable {X : Cx}
theorem dp_of {K : PySem.W.Frag} {g : Gh} {M : Mp} {H : Hp} {v : V} {d : D} (w : WR K g M H) (h : Has K g v d) (q : eqOk d = true ∧ look M d = d) : Dp K H v d.py := by
  have z := w.dp h (by rw [q.2]; exact q.1)
  rw [q.2] at z
  exact z
theorem eq_hits {pins : List (Addr × Obj)} {σ : L2.St} {H : Hp} {s : Shared} {g : Gh} {M : Mp} (I : Inv X pins σ H s) (w : WR X.K g M H) (hu : X.A.units + 128 < cLine) {kb : List (Key × D)} {kbv : List (Key × V)} {kbu : List (Key × Value)}
    (b1 : kb.map (·.1) = kbv.map (·.1)) (b2 : HasL X.K g (kbv.map (·.2)) (kb.map (·.2))) (b3 : KV kbv kbu) (b4 : ∀ p ∈ kb, eqOk p.2 = true ∧ look M p.2 = p.2) :
    ∀ {ka : List (Key × D)} {kav : List (Key × V)} {kau : List (Key × Value)}, ka.map (·.1) = kav.map (·.1) → HasL X.K g (kav.map (·.2)) (ka.map (·.2)) → KV kav kau → (∀ p ∈ ka, eqOk p.2 = true ∧ look M p.2 = p.2) → PySem.W.KeqHits X.A.in1 s kbu kau (eqKs kb ka)
  | [], [], _, _, _, r, _ => by
    cases r
    exact .nil
  | [], _ :: _, _, h, _, _, _ => nomatch h
  | _ :: _, [], _, h, _, _, _ => nomatch h
  | (k, d) :: ka, (k', v) :: kav, kau, h, hv, r, ok => by
    rw [List.map_cons, List.map_cons, List.cons.injEq] at h
    obtain ⟨h1, h2⟩ := h
    have h1 : k = k' := h1
    subst h1
    rw [List.map_cons, List.map_cons] at hv
    cases hv with
    | cons v1 v2 =>
      cases r with
      | @cons _ q _ qs r1 r2 =>
        obtain ⟨ku, u⟩ := q
        obtain ⟨e1, e2⟩ := r1
        have e1 : k = ku := e1
        subst e1
        have hval := b3.val k
        have ih := eq_hits I w hu b1 b2 b3 b4 h2 v2 r2 fun p hp => ok p (List.mem_cons_of_mem _ hp)
        obtain ⟨o1, o2⟩ := val_ok (k := k) b1 b2
        show PySem.W.KeqHits X.A.in1 s kbu ((k, u) :: qs) (match valD kb k with | none => false | some y => deq d y && eqKs kb ka)
        cases q : valD kb k with
        | none =>
          rw [o2 q] at hval
          cases z : valueAt kbu k with
          | none => exact .miss z
          | some y => rw [z] at hval; exact hval.elim
        | some y =>
          obtain ⟨vy, z1, z2⟩ := o1 y q
          rw [z1] at hval
          cases z : valueAt kbu k with
          | none => rw [z] at hval; exact hval.elim
          | some uy =>
            rw [z] at hval
            obtain ⟨as, ra⟩ := Dp.reads I _ _ _ (dp_of w v1 (ok _ List.mem_cons_self)) e2
            have hy : eqOk y = true ∧ look M y = y := b4 (k, y) (valD_mem q)
            obtain ⟨bs, rb⟩ := Dp.reads I _ _ _ (dp_of w z2 hy) hval
            refine .hit z (PySem.W.keq_at ra rb (eqOk_two (ok _ List.mem_cons_self).1).2 (eqOk_two hy.1).2 (show X.A.units + 1 + 64 < cLine by omega)) ih
theorem d_eqD (hu : X.A.units + 200 < cLine) : DO2 X (compareOp .Eq) (rdEqD false) := by
  refine ⟨fun x y M Q Q' k ⟨ka, kb, h1, h2, h3, h4, h5⟩ => ⟨ka, kb, h1, h2, h3, h4, k _ _ h5⟩, fun pins s σ H v u ov uv Q I rv ru ⟨g, M, x, y, w, hx, hy, ka, kb, h1, h2, h3, h4, h5⟩ => ?_⟩
  obtain ⟨a, kav, rfl, a1, a2, a3⟩ := w.seeD hx h1
  obtain ⟨b, kbv, rfl, b1, b2, b3⟩ := w.seeD hy h2
  cases (show ov = Value.ref a from rv)
  cases (show uv = Value.ref b from ru)
  obtain ⟨_, sa, vsa, kva, da⟩ := dk_rd I.hok a1
  obtain ⟨_, sb, vsb, kvb, db⟩ := dk_rd I.hok b1
  have la : vsa.length = ka.length := by
    have := congrArg List.length a2
    have z := Paired.length kva
    simp at this
    omega
  have lb : vsb.length = kb.length := by
    have := congrArg List.length b2
    have z := Paired.length kvb
    simp at this
    omega
  refine PySem.W.keq_eq sa sb da db (by omega) (fun _ => eq_hits I w (by omega) b2 b3 kvb h4 a2 a3 kva h3) ?_
  rw [la, lb]
  rw [Bool.false_xor] at h5
  exact ⟨.bl _, H, I, rfl, lk_at h5 w (.bl _)⟩
end
end Q
set_option Elab.async false
set_option linter.all false
set_option maxRecDepth 100000
set_option maxHeartbeats 4000000
namespace Q
open PySem PySem.Spec PyProof.Rows L2 My
/-- much that is new, shared at once -/
theorem WR.many {K : PySem.W.Frag} {g : Gh} {M : Mp} {H H' : Hp} (w : WR K g M H) (hk : ∀ b o, H b = some o → H' b = some o) (new : Addr → Bool) (hn : ∀ b, new b = true → H b = none) :
    g.le ⟨fun b => if new b = true then H' b else g.Hs b, g.F, g.bg⟩ ∧ WR K ⟨fun b => if new b = true then H' b else g.Hs b, g.F, g.bg⟩ M H' := by
  have old : ∀ b o, H b = some o → ¬ new b = true := fun b o h z => by rw [hn b z] at h; cases h
  have le : g.le ⟨fun b => if new b = true then H' b else g.Hs b, g.F, g.bg⟩ := ⟨fun a o h => by
    show (if new a = true then H' a else g.Hs a) = some o
    rw [if_neg (old a o (w.sub _ _ h))]
    exact h, rfl, fun _ e => e⟩
  refine ⟨le, fun a o h => ?_, fun a o h => ?_, fun a mo h => ?_, fun B h => ?_⟩
  · have h : (if new a = true then H' a else g.Hs a) = some o := h
    split at h
    · exact h
    · exact hk _ _ (w.sub _ _ h)
  · obtain ⟨h1, h2⟩ := w.frm a o h
    refine ⟨hk _ _ h1, ?_, h2.2⟩
    show (if new a = true then H' a else g.Hs a) = none
    rw [if_neg (old a o h1)]
    exact h2.1
  · obtain ⟨h1, h2, h3⟩ := w.muts a mo h
    obtain ⟨u, hu⟩ : ∃ u, H a = some u := by
      cases q : H a with
      | none => exact absurd q h3.some
      | some u => exact ⟨u, rfl⟩
    refine ⟨?_, h2, (h3.same fun u hu => hk _ _ hu).le le⟩
    show (if new a = true then H' a else g.Hs a) = none
    rw [if_neg (old a u hu)]
    exact h1
  · obtain ⟨h1, h2, h3, h4, h5⟩ := w.bag B h
    obtain ⟨x, y, z, hb⟩ := id h1
    refine ⟨BagOk.at (fun u hu => hk _ _ hu) (fun u hu => hk _ _ hu) h1, ?_, h3, h4, ?_⟩
    · show (if new B.b = true then H' B.b else g.Hs B.b) = none
      rw [if_neg (old _ _ hb.at_)]
      exact h2
    · show (if new B.L = true then H' B.L else g.Hs B.L) = _
      rw [if_neg (old _ _ hb.cells)]
      exact h5
section
variable {X : Cx} {g0 : Gh} {e : Expr} {we : WE} {p apos cpos pos : Pos}
def itemsD (kvs : List (Key × D)) : List D := kvs.map fun q => .tup [kD q.1, q.2]
def wItemsL (we : WE) : WE := fun z Q => we z fun d z1 => ∃ kvs, look z1.M d = .dct kvs ∧ Q (.lst (itemsD kvs)) z1
end
end Q
set_option Elab.async false
set_option linter.all false
set_option maxRecDepth 100000
set_option maxHeartbeats 4000000
namespace Q
open PySem PySem.Spec PyProof.Rows L2 My
section
variable {X : Cx} {g0 : Gh} {st : Stmt} {wa wb : WS}
/-- a statement read in one of two ways -/
def wEither (a b : WS) : WS := fun E z => a E z ∨ b E z
end
/-- a list of texts, in hand or in its place -/
def IsL (M : Mp) (d : D) (ns : List Str) : Prop := d = .lst (sts ns) ∨ ∃ p, d = .ref p ∧ M p = some (.lst (sts ns))
theorem IsL.look {M : Mp} {d : D} {ns : List Str} (h : IsL M d ns) : look M d = .lst (sts ns) := by
  rcases h with rfl | ⟨p, rfl, hp⟩
  · rfl
  · exact lkL hp
end Q
set_option Elab.async false
set_option linter.all false
set_option maxRecDepth 100000
set_option maxHeartbeats 4000000
namespace Q
open PySem PySem.Spec PyProof.Rows L2 My
/-- rows as they are handed in: by table, in a list or a tuple -/
abbrev Hd := List (Str × Bool × List Rw)
structure HandOk (w : Wb) (H : Hd) : Prop where
  nd : (H.map (·.1)).Nodup
  nm : ∀ h ∈ H, h.1 ∈ w.map (·.1)
  wide : ∀ h ∈ H, ∀ r ∈ h.2.2, r.length = (colsF w h.1).length
  few : ∀ h ∈ H, h.2.2.length ≤ 60
end Q
set_option Elab.async false
set_option linter.all false
set_option maxRecDepth 100000
set_option maxHeartbeats 4000000
set_option Elab.async false
set_option linter.all false
set_option maxRecDepth 100000
set_option maxHeartbeats 4000000
namespace My
open PySem PySem.Spec PyProof.Rows L2
end My
set_option Elab.async false
set_option linter.all false
set_option maxRecDepth 100000
set_option maxHeartbeats 4000000
namespace L2
open PySem PySem.Spec PyProof.Rows
end L2
set_option Elab.async false
set_option linter.all false
set_option maxRecDepth 100000
set_option maxHeartbeats 4000000
namespace Q
open PySem PySem.Spec PyProof.Rows L2 My
section
variable {X : Cx} {g0 : Gh} {a b c e o : Expr} {es : List Expr} {we wa wb wc : WE} {w : WA} {pos p apos cpos : Pos} {x name : Str} {T id : String} {rd : RDM}
def wBMX (rd : RDM) (wo : WE) (wa : WA) : WE := fun z Q => wo z fun d z1 => (∃ ss, look z1.M d = .tux ss) ∧ wa z1 fun ds z2 => rd d ds z2.M fun r M => Q r ⟨z2.ρ, M⟩
/-- a tuple of texts: its methods may be called -/
def wTupX (w : WA) : WE := fun z Q => w z fun ds z1 => ds.length ≤ sizeLine ∧ ∃ ss : List Str, ds = sts ss ∧ Q (.tux ss) z1
/-- tuple(x) of a list of texts -/
def rdTupleX (ds : List D) (M : Mp) (Q : KD) : Prop := ∃ (x : D) (ss : List Str), ds = [x] ∧ look M x = .lst (sts ss) ∧ Q (.tux ss) M
theorem d_tupleX : DON X (.type "tuple") rdTupleX := by
  refine ⟨fun ds M Q Q' k ⟨x, ss, h1, h2, h3⟩ => ⟨x, ss, h1, h2, k _ _ h3⟩, fun pins s σ H vs us Q I rv ⟨g, M, ds, w, hx, x, ss, h1, h2, h3⟩ => ?_⟩
  subst h1
  obtain ⟨v, rfl, hv⟩ := has1 hx
  obtain ⟨p, xs, rfl, k1, k2⟩ := w.seeL hv h2
  obtain rfl := hasL_sts k2
  rw [Vals.ref1 rv]
  obtain ⟨its, r', pl, hz⟩ := I.list (SqL.of k1)
  have hlen := r'.length
  refine call_tuple_list pl.isList (fun h' kp => ?_) (by simp only [List.size_toArray] <;> omega)
  have I1 : Inv X pins σ H { s with heap := h' } := I.kept (t' := s.toks) kp
  have hf : H h'.objs.size = none := I1.hok.fresh (Nat.le_refl _)
  refine ⟨.ref h'.objs.size, upd H h'.objs.size (.frz { cls := .type "tuple", data := .seq its.toArray } (.tup (ss.map V.str))), I1.laid (t' := s.toks) (fun b o e => Heap.get?_push_of_some _ e) (Nat.le_refl _) ⟨Heap.get?_push_size _ rfl, hz, its, r', IsTup.new _ _⟩, rfl, ?_⟩
  exact h3 _ _ _ (Gh.le_add (w.hsn hf)) (w.new hf) (.tux Gh.add_same rfl)
end
end Q
set_option Elab.async false
set_option linter.all false
set_option maxRecDepth 100000
set_option maxHeartbeats 4000000
namespace Q
open PySem PySem.Spec PyProof.Rows L2 My
section
variable {X : Cx} {g0 : Gh} {e : Expr}
/-- the lists in the list at name i are lent for a test -/
def wLendL (i : Nat) (w : WT) : WT := fun z Q => ∃ (ps : List Addr) (dss : List (List D)), z.ρ[i]? = some (some (.lst (ps.map D.ref))) ∧ ps.map z.M = dss.map (fun ds => some (MO.lst ds)) ∧ w ⟨z.ρ.set i (some (.lst (dss.map D.lst))), fun _ => none⟩ fun b _ => Q b z
end
end Q
set_option Elab.async false
set_option linter.all false
set_option maxRecDepth 100000
set_option maxHeartbeats 4000000
namespace Q
open PySem PySem.Spec PyProof.Rows L2 My
def den_l_mixed60 : Den := fun ds M Q => ∃ (d : D) (ls : List D), ds = [.bag, d] ∧ (d = .lst ls ∨ d = .tup ls) ∧ ls.length ≤ 1000 ∧ ∀ ls' : List D, ls'.Perm ls → Q (.lst ls') M
theorem mo_l_mixed60 : MonoD den_l_mixed60 := fun ds M Q Q' k ⟨d, ls, h1, h0, h2, h3⟩ => ⟨d, ls, h1, h0, h2, fun l p => k _ _ (h3 l p)⟩
theorem ln_l_mixed60 : ∀ ds M Q, den_l_mixed60 ds M Q → ds.length = 2 := fun ds M Q ⟨_, ls, h1, _⟩ => by rw [h1]; rfl
end Q
set_option Elab.async false
set_option linter.all false
set_option maxRecDepth 100000
set_option maxHeartbeats 4000000
set_option Elab.async false
set_option linter.all false
set_option maxRecDepth 100000
set_option maxHeartbeats 4000000
namespace Q
open PySem PySem.Spec PyProof.Rows L2 My
def zsL : List Str := ["zq", "zqq", "zqqq", "zqqqq"]
def OneZ (ss : List Str) : Prop := ∀ a ∈ ss, ∀ b ∈ ss, a ∈ zsL → b ∈ zsL → a = b
theorem OneZ.sub {ss ts : List Str} (h : OneZ ss) (k : ∀ s ∈ ts, s ∈ ss) : OneZ ts := fun a ha b hb => h a (k a ha) b (k b hb)
theorem zs_len : ∀ a ∈ zsL, ∀ b ∈ zsL, a.length = b.length → a = b := by decide +kernel
theorem OneZ.len {ss : List Str} (n : Nat) (h : ∀ s ∈ ss, s.length = n) : OneZ ss := fun a ha b hb ka kb => zs_len a ka b kb ((h a ha).trans (h b hb).symm)
end Q
set_option Elab.async false
set_option linter.all false
set_option maxRecDepth 100000
set_option maxHeartbeats 4000000
namespace Q
open PySem PySem.Spec PyProof.Rows L2 My
theorem all_map {M : Mp} {α : Type} (f : α → Bool) (xs : List α) {Q : KD} (q : Q (.bl (xs.all f)) M) : rdAll [.lst (xs.map fun x => D.bl (f x))] M Q := by
  refine ⟨_, _, xs.map f, rfl, rfl, ?_, ?_⟩
  · have := blsD_map (xs.map f)
    rwa [List.map_map] at this
  · rw [List.all_map]
    exact q
theorem Gd.int {m : Nat} {i : Int} (h : i.natAbs < 10 ^ 12) : Gd m (.int i) := ⟨Pl.int h, by rw [D.py]; rfl⟩
end Q
set_option Elab.async false
set_option linter.all false
set_option maxRecDepth 100000
set_option maxHeartbeats 4000000
namespace Q
open PySem PySem.Spec PyProof.Rows L2 My
def Low (s : Str) : Prop := ∀ c ∈ s.cps.toList, c < 128
theorem Low.app {a b : Str} (ha : Low a) (hb : Low b) : Low (a ++ b) := app_let ha hb
end Q
set_option Elab.async false
set_option linter.all false
set_option maxRecDepth 100000
set_option maxHeartbeats 4000000
set_option Elab.async false
set_option linter.all false
set_option maxRecDepth 100000
set_option maxHeartbeats 4000000
namespace Q
open PySem PySem.Spec PyProof.Rows L2 My
def Med (s : Str) : Prop := ∀ c ∈ s.cps.toList, c < 0x110000
theorem Med.of {s : Str} (h : Low s) : Med s := fun c hc => Nat.lt_trans (h c hc) (by decide)
theorem Med.app {a b : Str} (ha : Med a) (hb : Med b) : Med (a ++ b) := fun c hc => by
  have e : (a ++ b).cps.toList = a.cps.toList ++ b.cps.toList := by
    show (a.cps ++ b.cps).toList = _
    simp
  rw [e, List.mem_append] at hc
  exact hc.elim (ha c) (hb c)
theorem Pl.big {m : Nat} {i : Int} (h : i.natAbs ≤ 10 ^ 39) : Pl m (.int i) := by
  refine ⟨by simp only [D.pr], ?_, ?_, by simp only [D.py, PyData.depth]; exact Nat.zero_le _⟩
  · simp only [D.py, PyData.showable, decide_eq_true_eq]
    by_cases q : i.natAbs = 0
    · rw [q]; decide
    · exact Nat.lt_of_lt_of_le ((Nat.log2_lt q).mpr (Nat.lt_of_le_of_lt h (show 10 ^ 39 < 2 ^ 130 by decide))) (by decide)
  · simp only [D.py, PyData.leavesShort, decide_eq_true_eq]
    have e := int_text_length_le10 (a := i) (k := 40) (by decide) (Nat.lt_of_le_of_lt h (by decide))
    show (Str.ofString (toString i)).length ≤ 50
    rw [PySem.ofString_length]
    omega
theorem wt_big {i : Int} (h : i.natAbs ≤ 10 ^ 39) : (D.int i).py.weight ≤ 130 := by
  simp only [D.py, PyData.weight]
  split
  · exact Nat.zero_le _
  · rename_i q
    have h0 : i.natAbs ≠ 0 := fun e => q (by rw [Int.natAbs_eq_zero.mp e]; rfl)
    exact (Nat.log2_lt h0).mpr (Nat.lt_of_le_of_lt h (by decide))
theorem row_pl {m : Nat} {r : Rw} (h : ∀ i ∈ r, i.natAbs ≤ 10 ^ 39) : Pl (m + 1) (rowT r) := Pl.tup fun d hd => by
  obtain ⟨i, hi, rfl⟩ := List.mem_map.mp hd
  exact Pl.big (h i hi)
theorem row_wt {r : Rw} (h : ∀ i ∈ r, i.natAbs ≤ 10 ^ 39) (hl : r.length ≤ 8) : (rowT r).py.weight ≤ 1048 := by
  unfold rowT
  rw [wt_tup]
  have := sumW_le (k := 131) (xs := r.map D.int) fun d hd => by
    obtain ⟨i, hi, rfl⟩ := List.mem_map.mp hd
    have := wt_big (h i hi)
    omega
  rw [List.length_map] at this
  have := Nat.mul_le_mul_right 131 hl
  omega
theorem rows_pl {m : Nat} {rs : List Rw} (h : ∀ r ∈ rs, ∀ i ∈ r, i.natAbs ≤ 10 ^ 39) : Pl (m + 2) (.lst (rowsT rs)) := Pl.lst fun d hd => by
  obtain ⟨r, hr, rfl⟩ := List.mem_map.mp hd
  exact row_pl (h r hr)
theorem len_rowsT (rs : List Rw) : (rowsT rs).length = rs.length := List.length_map ..
theorem rows_wt {rs : List Rw} (h : ∀ r ∈ rs, (∀ i ∈ r, i.natAbs ≤ 10 ^ 39) ∧ r.length ≤ 8) : (D.lst (rowsT rs)).py.weight ≤ rs.length * 1049 := by
  rw [wt_lst]
  have := sumW_le (k := 1049) (xs := rowsT rs) fun d hd => by
    obtain ⟨r, hr, rfl⟩ := List.mem_map.mp hd
    have := row_wt (h r hr).1 (h r hr).2
    omega
  rwa [len_rowsT] at this
theorem dctF_pl {m : Nat} {g : Str → D} : ∀ {ns : List Str}, (∀ n ∈ ns, Name n ∧ Pl m (g n)) →
    D.prk (ns.map fun n => ((.inr n : Key), g n)) = true ∧ PyData.showableKv (D.pyk (ns.map fun n => ((.inr n : Key), g n))) = true ∧ PyData.leavesShortKv 50 (D.pyk (ns.map fun n => ((.inr n : Key), g n))) = true ∧ PyData.depthKv (D.pyk (ns.map fun n => ((.inr n : Key), g n))) ≤ m
  | [], _ => ⟨rfl, rfl, rfl, Nat.zero_le _⟩
  | n :: ns, h => by
    obtain ⟨i1, i2, i3, i4⟩ := dctF_pl (ns := ns) (g := g) fun d hd => h d (List.mem_cons_of_mem _ hd)
    obtain ⟨hn, hd⟩ := h n List.mem_cons_self
    have hs := Pl.name (m := m) hn
    have s2 : (PyData.str n).showable = true := hs.able
    have s3 : (PyData.str n).leavesShort 50 = true := hs.short
    have s4 : (PyData.str n).depth ≤ m := hs.dp
    simp only [List.map_cons, D.prk, D.pyk, My.kD, PyData.showableKv, PyData.leavesShortKv, PyData.depthKv, Bool.and_eq_true]
    exact ⟨⟨hd.pr, i1⟩, ⟨⟨s2, hd.able⟩, i2⟩, ⟨⟨s3, hd.short⟩, i3⟩, Nat.max_le.mpr ⟨Nat.max_le.mpr ⟨s4, hd.dp⟩, i4⟩⟩
theorem Pl.dctF {m : Nat} {g : Str → D} {ns : List Str} (h : ∀ n ∈ ns, Name n ∧ Pl m (g n)) : Pl (m + 1) (.dct (ns.map fun n => ((.inr n : Key), g n))) := by
  obtain ⟨i1, i2, i3, i4⟩ := dctF_pl h
  refine ⟨by simp only [D.pr]; exact i1, by simp only [D.py, PyData.showable]; exact i2, by simp only [D.py, PyData.leavesShort]; exact i3, by simp only [D.py, PyData.depth]; exact Nat.succ_le_succ i4⟩
theorem wt_dctG {g : Str → D} {k : Str → Nat} : ∀ {ns : List Str}, (∀ n ∈ ns, Name n ∧ (g n).py.weight ≤ k n) → (D.dct (ns.map fun n => ((.inr n : Key), g n))).py.weight ≤ (ns.map k).sum + ns.length * 10
  | [], _ => Nat.zero_le _
  | n :: ns, h => by
    have ih := wt_dctG (ns := ns) (g := g) (k := k) fun d hd => h d (List.mem_cons_of_mem _ hd)
    obtain ⟨hn, hd⟩ := h n List.mem_cons_self
    have hs : (PyData.str n).weight ≤ 8 := wt_name hn
    simp only [D.py, PyData.weight] at ih
    simp only [PyData.weight] at hs
    simp only [D.py, PyData.weight, List.map_cons, D.pyk, My.kD, PyData.weightKv, List.length_cons, List.sum_cons]
    omega
/-- how many rows there are -/
def manyF (w : Wb) (f : Rws) : Nat := ((namesF w).map fun n => (f n).length).sum
theorem sum_map_le {α : Type} {g h : α → Nat} : ∀ {l : List α}, (∀ x ∈ l, g x ≤ h x) → (l.map g).sum ≤ (l.map h).sum
  | [], _ => Nat.le_refl _
  | x :: l, e => by
    have h1 := e x List.mem_cons_self
    have h2 := sum_map_le (l := l) fun y hy => e y (List.mem_cons_of_mem _ hy)
    rw [List.map_cons, List.map_cons, List.sum_cons, List.sum_cons]
    omega
theorem sum_map_mul {α : Type} (g : α → Nat) (k : Nat) : ∀ l : List α, (l.map fun x => g x * k).sum = (l.map g).sum * k
  | [] => (Nat.zero_mul _).symm
  | x :: l => by rw [List.map_cons, List.map_cons, List.sum_cons, List.sum_cons, sum_map_mul g k l, Nat.add_mul]
theorem sum_map_sub {α : Type} (g : α → Nat) {a b : List α} (s : a.Sublist b) : (a.map g).sum ≤ (b.map g).sum := by
  induction s with
  | slnil => exact Nat.le_refl _
  | cons x _ ih => rw [List.map_cons, List.sum_cons]; omega
  | cons_cons x _ ih => rw [List.map_cons, List.map_cons, List.sum_cons, List.sum_cons]; omega
theorem sum_map_const {α : Type} {g : α → Nat} {k : Nat} : ∀ {l : List α}, (∀ x ∈ l, g x ≤ k) → (l.map g).sum ≤ l.length * k
  | [], _ => Nat.zero_le _
  | x :: l, h => by
    have h1 := h x List.mem_cons_self
    have h2 := sum_map_const (l := l) fun y hy => h y (List.mem_cons_of_mem _ hy)
    rw [List.map_cons, List.sum_cons, List.length_cons, Nat.succ_mul]
    omega
structure RwsL (w : Wb) (f : Rws) : Prop where
  ok : RwsOk w f
  big : ∀ n ∈ w.map (·.1), ∀ r ∈ f n, ∀ i ∈ r, i.natAbs ≤ 10 ^ 39
  forty : ∀ n ∈ w.map (·.1), (f n).length ≤ 40
  many : manyF w f ≤ 120
theorem RwsL.of {w : Wb} {f : Rws} (ok : RwsOk w f) (big : ∀ n ∈ w.map (·.1), ∀ r ∈ f n, ∀ i ∈ r, i.natAbs ≤ 10 ^ 39) (lim : ∃ m : Nat, m ≤ 40 ∧ w.length * m ≤ 120 ∧ ∀ n ∈ w.map (·.1), (f n).length ≤ m) : RwsL w f where
  ok := ok
  big := big
  forty := fun n hn => by
    obtain ⟨m, a, _, c⟩ := lim
    exact Nat.le_trans (c n hn) a
  many := by
    obtain ⟨m, _, b, c⟩ := lim
    have := sum_map_const (g := fun n => (f n).length) (k := m) (l := namesF w) fun n hn => c n (names_mem.mp hn)
    rw [names_len] at this
    exact Nat.le_trans this b
theorem RwsL.cut {w : Wb} {f g : Rws} (h : RwsL w f) (s : ∀ n ∈ w.map (·.1), (g n).Sublist (f n)) : RwsL w g where
  ok := h.ok.cut s
  big := fun n hn r hr => h.big n hn r ((s n hn).subset hr)
  forty := fun n hn => Nat.le_trans (s n hn).length_le (h.forty n hn)
  many := Nat.le_trans (sum_map_le fun n hn => (s n (names_mem.mp hn)).length_le) h.many
theorem run_sub (w : Wb) : ∀ (ps : List Stp) (f : Rws) (n : Str), (runF w f ps n).Sublist (f n)
  | [], f, n => List.Sublist.refl _
  | p :: ps, f, n => (run_sub w ps (leaveF w f p) n).trans (leave_sub w f p n)
theorem RwsL.run {w : Wb} {f : Rws} (h : RwsL w f) (ps : List Stp) : RwsL w (runF w f ps) := h.cut fun n _ => run_sub w ps f n
section
variable {w : Wb} {f : Rws}
theorem cols8 (ok : WebOk w) {n : Str} (hn : n ∈ w.map (·.1)) : (colsF w n).length ≤ 8 := (ok.cols_ok hn).2
theorem RwsL.rows (h : RwsL w f) (ok : WebOk w) {n : Str} (hn : n ∈ w.map (·.1)) : ∀ r ∈ f n, (∀ i ∈ r, i.natAbs ≤ 10 ^ 39) ∧ r.length ≤ 8 := fun r hr =>
  ⟨h.big n hn r hr, by rw [h.ok.wide n hn r hr]; exact cols8 ok hn⟩
theorem RwsL.pl (h : RwsL w f) (ok : WebOk w) (ns : List Str) (hn : ∀ n ∈ ns, n ∈ w.map (·.1)) : Pl 3 (.dct (ns.map fun n => ((.inr n : Key), .lst (rowsT (f n))))) :=
  Pl.dctF fun n hm => ⟨ok.nm.ok n (hn n hm), rows_pl fun r hr => (h.rows ok (hn n hm) r hr).1⟩
theorem RwsL.wt (h : RwsL w f) (ok : WebOk w) (h6 : w.length ≤ 6) (ns : List Str) (hs : ns.Sublist (namesF w)) : (D.dct (ns.map fun n => ((.inr n : Key), .lst (rowsT (f n))))).py.weight ≤ 126000 := by
  have hn : ∀ n ∈ ns, n ∈ w.map (·.1) := fun n hn => names_mem.mp (hs.subset hn)
  have hl := hs.length_le
  rw [names_len] at hl
  have e1 := wt_dctG (ns := ns) (g := fun n => .lst (rowsT (f n))) (k := fun n => (f n).length * 1049) fun n hm => ⟨ok.nm.ok n (hn n hm), rows_wt (h.rows ok (hn n hm))⟩
  rw [sum_map_mul] at e1
  have e2 : (ns.map fun n => (f n).length).sum ≤ 120 := Nat.le_trans (sum_map_sub _ hs) h.many
  omega
end
/-- == of dicts, or of data -/
def rdEqE (n : Bool) (x y : D) (M : Mp) (Q : KD) : Prop := rdEq n x y M Q ∨ rdEqD n x y M Q
theorem d_eqE {X : Cx} (hu : X.A.units + 200 < cLine) : DO2 X (compareOp .Eq) (rdEqE false) := by
  have h1 := d_eq (X := X) (by omega)
  have h2 := d_eqD (X := X) hu
  refine ⟨fun x y M Q Q' k h => h.elim (fun h => .inl (h1.mono _ _ _ _ _ k h)) fun h => .inr (h2.mono _ _ _ _ _ k h), fun pins s σ H v u ov uv Q I rv ru ⟨g, M, x, y, w, hx, hy, h⟩ => ?_⟩
  rcases h with h | h
  · exact h1.run pins s σ H v u ov uv Q I rv ru ⟨g, M, x, y, w, hx, hy, h⟩
  · exact h2.run pins s σ H v u ov uv Q I rv ru ⟨g, M, x, y, w, hx, hy, h⟩
theorem eqE_both {n : Bool} {M : Mp} {x y d : D} {Q : KD} (hx : look M x = d) (hy : look M y = d) (h : eqOk d = true ∨ ∃ ka, d = .dct ka ∧ (∀ p ∈ ka, eqOk p.2 = true ∧ look M p.2 = p.2) ∧ eqKs ka ka = true) (q : Q (.bl (xor n true)) M) : rdEqE n x y M Q := by
  rcases h with h | ⟨ka, rfl, h1, h2⟩
  · exact .inl (eq_both hx hy h q)
  · refine .inr ⟨ka, ka, hx, hy, h1, h1, ?_⟩
    rw [h2]
    simpa using q
def den_l_alikeE : Den := fun ds M Q => ∃ x y d : D, ds = [x, y] ∧ look M x = d ∧ look M y = d ∧ (eqOk d = true ∨ ∃ ka, d = .dct ka ∧ (∀ p ∈ ka, eqOk p.2 = true ∧ look M p.2 = p.2) ∧ eqKs ka ka = true) ∧ d.pr = true ∧ Shows d.py ∧ Q (.bl true) M
theorem mo_l_alikeE : MonoD den_l_alikeE := fun ds M Q Q' k ⟨x, y, d, h1, h2, h3, h4, h5, h6, h7⟩ => ⟨x, y, d, h1, h2, h3, h4, h5, h6, k _ _ h7⟩
theorem ln_l_alikeE : ∀ ds M Q, den_l_alikeE ds M Q → ds.length = 2 := fun ds M Q ⟨x, y, d, h1, _⟩ => by rw [h1]; rfl
end Q
set_option Elab.async false
set_option linter.all false
set_option maxRecDepth 100000
set_option maxHeartbeats 4000000
namespace Q
open PySem PySem.Spec PyProof.Rows L2 My
theorem pow_i {M : Mp} {i j : Int} {Q : KD} (c : CPow i j) (h : Q (.int (i ^ j.toNat)) M) : rdPow (.int i) (.int j) M Q := ⟨c, h⟩
theorem putD_new' {κ : Type} [DecidableEq κ] {kvs : List (κ × D)} {k : κ} {v : D} (h : k ∉ kvs.map (·.1)) : putD kvs k v = kvs ++ [(k, v)] := by
  unfold putD
  rw [if_neg]
  intro e
  obtain ⟨x, hx, q⟩ := List.any_eq_true.mp e
  exact h (List.mem_map.mpr ⟨x, hx, of_decide_eq_true q⟩)
theorem inr_nd {ns : List Str} (h : ns.Nodup) : (ns.map (Sum.inr : Str → Key)).Nodup := List.pairwise_map.mpr (h.imp fun ne e => ne (Sum.inr.inj e))
/-- rows of some tables, at most m each -/
def RwsTo (w : Wb) (m : Nat) (f : Rws) (ns : List Str) : Prop := ∀ n ∈ ns, rset (f n) = f n ∧ (f n).length ≤ m ∧ ∀ r ∈ f n, r.length = (colsF w n).length ∧ ∀ i ∈ r, i.natAbs ≤ 10 ^ 39
theorem RwsTo.snoc {w : Wb} {m : Nat} {f : Rws} {l : List Str} {n : Str} {rs : List Rw} (h : RwsTo w m f l) (hn : n ∉ l) (hl : rs.length ≤ m) (hr : ∀ r ∈ rs, r.length = (colsF w n).length ∧ ∀ i ∈ r, i.natAbs ≤ 10 ^ 39) : RwsTo w m (fun q => if q = n then rset rs else f q) (l ++ [n]) := fun q hq => by
  rw [List.mem_append, List.mem_singleton] at hq
  by_cases e : q = n
  · simp only [if_pos e]
    refine ⟨rset_idem rs, Nat.le_trans (length_rset rs) hl, fun r h => ?_⟩
    rw [e]
    exact hr r (mem_rset.mp h)
  · simp only [if_neg e]
    exact h q (hq.resolve_right e)
/-- long tables: two of the letters each -/
def LongW (ls : List Str) (w : Wb) (l : List Str) : Prop := w.map (·.1) = l ∧ ∀ p ∈ w, ∃ a b, p.2 = [a, b] ∧ [a, b].Sublist (ssort ls)
def LongR (f : Rws) (l : List Str) : Prop := ∀ n ∈ l, rset (f n) = f n ∧ (f n).length ≤ 40 ∧ ∀ r ∈ f n, r.length = 2 ∧ ∀ i ∈ r, i.natAbs ≤ 10 ^ 39
theorem HandOk.snoc {w : Wb} {H : Hd} (h : HandOk w H) {n : Str} {b : Bool} {ts : List Rw} (hn : n ∉ H.map (·.1)) (nm : n ∈ w.map (·.1)) (hw : ∀ r ∈ ts, r.length = (colsF w n).length) (hf : ts.length ≤ 60) : HandOk w (H ++ [(n, b, ts)]) where
  nd := by
    rw [List.map_append, List.nodup_append]
    refine ⟨h.nd, by simp, fun a ha c hc e => ?_⟩
    rw [List.map_singleton, List.mem_singleton] at hc
    exact hn (by rw [← (e.trans hc : a = n)]; exact ha)
  nm := fun x hx => by
    rcases List.mem_append.mp hx with hx | hx
    · exact h.nm x hx
    · rw [List.mem_singleton.mp hx]; exact nm
  wide := fun x hx => by
    rcases List.mem_append.mp hx with hx | hx
    · exact h.wide x hx
    · rw [List.mem_singleton.mp hx]; exact hw
  few := fun x hx => by
    rcases List.mem_append.mp hx with hx | hx
    · exact h.few x hx
    · rw [List.mem_singleton.mp hx]; exact hf
end Q
set_option Elab.async false
set_option linter.all false
set_option maxRecDepth 100000
set_option maxHeartbeats 4000000
set_option Elab.async false
set_option linter.all false
set_option maxRecDepth 100000
set_option maxHeartbeats 4000000
set_option Elab.async false
set_option linter.all false
set_option maxRecDepth 100000
set_option maxHeartbeats 4000000
namespace Q
open PySem PySem.Spec PyProof.Rows L2 My
theorem LongW.ok {ls l : List Str} {w : Wb} (h : LongW ls w l) (hls : Names ls) (h4 : ls.length = 4) (hl : Names l) : WebOk w where
  nm := by rw [h.1]; exact hl
  cols := ⟨ls, by omega, hls, fun p hp c hc => by
    obtain ⟨a, b, e, s⟩ := h.2 p hp
    rw [e] at hc
    exact mem_ssort.mp (s.subset hc)⟩
  srt := fun p hp => by
    obtain ⟨a, b, e, s⟩ := h.2 p hp
    rw [e]
    refine sset_sub s (sorted_uniq ?_ (ssort_sorted _) (ssort_sorted _))
    exact (List.perm_ext_iff_of_nodup (nodup_sset _) ((ssort_perm ls).nodup_iff.mpr hls.nd)).mpr fun _ => mem_sset
theorem LongW.snoc {ls l : List Str} {w : Wb} {n a b : Str} (h : LongW ls w l) (s : [a, b].Sublist (ssort ls)) : LongW ls (w ++ [(n, [a, b])]) (l ++ [n]) :=
  ⟨by rw [List.map_append, h.1]; rfl, fun p hp => by
    rcases List.mem_append.mp hp with hp | hp
    · exact h.2 p hp
    · rw [List.mem_singleton.mp hp]
      exact ⟨a, b, rfl, s⟩⟩
theorem LongR.snoc {f : Rws} {l : List Str} {n : Str} {rs : List Rw} (h : LongR f l) (hn : n ∉ l) (hl : rs.length ≤ 40) (hr : ∀ r ∈ rs, r.length = 2 ∧ ∀ i ∈ r, i.natAbs ≤ 10 ^ 39) : LongR (fun q => if q = n then rset rs else f q) (l ++ [n]) := fun q hq => by
  rw [List.mem_append, List.mem_singleton] at hq
  by_cases e : q = n
  · simp only [if_pos e]
    exact ⟨rset_idem rs, Nat.le_trans (length_rset rs) hl, fun r h => hr r (mem_rset.mp h)⟩
  · simp only [if_neg e]
    exact h q (hq.resolve_right e)
end Q
set_option Elab.async false
set_option linter.all false
set_option maxRecDepth 100000
set_option maxHeartbeats 4000000
namespace Q
open PySem PySem.Spec PyProof.Rows L2 My
section
variable {X : Cx} {g0 : Gh} {e : Expr}
/-- the dict at name i is lent while a number is found -/
def wLendD (i : Nat) (w : WE) : WE := fun z Q => ∃ p kvs, z.ρ[i]? = some (some (.ref p)) ∧ z.M p = some (.dct kvs) ∧ w ⟨z.ρ.set i (some (.dct kvs)), fun _ => none⟩ fun d _ => ∃ j : Int, d = .int j ∧ Q (.int j) z
end
end Q
set_option Elab.async false
set_option linter.all false
set_option maxRecDepth 100000
set_option maxHeartbeats 4000000
set_option Elab.async false
set_option linter.all false
set_option maxRecDepth 100000
set_option maxHeartbeats 4000000
namespace Q
open PySem PySem.Spec PyProof.Rows L2 My
abbrev Rsn := Str × Rw × Str
def stepsF (w : Wb) : List Stp := allSteps (namesF w)
def passF (w : Wb) (f : Rws) : Rws := runF w f (stepsF w)
def tot (w : Wb) (f : Rws) : Nat := ((namesF w).map fun n => (f n).length).sum
/-- no step strikes a row -/
def Calm (w : Wb) (f : Rws) : Prop := ∀ p ∈ stepsF w, struckF w f p.1 p.2 = []
def Within (w : Wb) (f g : Rws) : Prop := ∀ n ∈ namesF w, ∀ r ∈ f n, r ∈ g n
inductive Ends (w : Wb) : Rws → Rws → Prop
  | done {f : Rws} : tot w (passF w f) = tot w f → Ends w f (passF w f)
  | step {f e : Rws} : tot w (passF w f) ≠ tot w f → Ends w (passF w f) e → Ends w f e
/-- the rows that some steps strike, one behind the other -/
def reasR (w : Wb) : Rws → List Stp → List Rsn
  | _, [] => []
  | f, p :: ps => (struckF w f p.1 p.2).map (fun r => (p.1, r, p.2)) ++ reasR w (leaveF w f p) ps
inductive EndsR (w : Wb) : Rws → List Rsn → Rws → Prop
  | done {f : Rws} : tot w (passF w f) = tot w f → EndsR w f (reasR w f (stepsF w)) (passF w f)
  | step {f e : Rws} {R : List Rsn} : tot w (passF w f) ≠ tot w f → EndsR w (passF w f) R e → EndsR w f (reasR w f (stepsF w) ++ R) e
section
variable {w : Wb} {f g e e' : Rws} {R : List Rsn}
theorem Ends.sub (h : Ends w f e) : ∀ n, (e n).Sublist (f n) := by
  induction h with
  | done _ => exact fun n => run_sub w _ _ n
  | step _ _ ih => exact fun n => (ih n).trans (run_sub w _ _ n)
theorem steps_mem {p : Stp} (h : p ∈ stepsF w) : p.1 ∈ w.map (·.1) ∧ p.2 ∈ w.map (·.1) := ⟨names_mem.mp (allSteps_mem h).1, names_mem.mp (allSteps_mem h).2⟩
theorem sum_upd {a b : Str → Nat} {n : Str} {k : Nat} : ∀ {l : List Str}, l.Nodup → n ∈ l → (∀ m ∈ l, m ≠ n → a m = b m) → a n + k = b n → (l.map a).sum + k = (l.map b).sum
  | [], _, h, _, _ => nomatch h
  | x :: l, nd, h, he, hn => by
    obtain ⟨n1, n2⟩ := List.nodup_cons.mp nd
    rw [List.map_cons, List.map_cons, List.sum_cons, List.sum_cons]
    by_cases q : x = n
    · subst q
      have e : l.map a = l.map b := List.map_congr_left fun m hm => he m (List.mem_cons_of_mem _ hm) fun z => n1 (z ▸ hm)
      rw [e]
      omega
    · have ih := sum_upd n2 ((List.mem_cons.mp h).resolve_left fun z => q z.symm) (fun m hm => he m (List.mem_cons_of_mem _ hm)) hn
      have := he x List.mem_cons_self q
      omega
theorem filter_two {α : Type} (P : α → Bool) : ∀ l : List α, (l.filter fun r => !P r).length + (l.filter P).length = l.length
  | [] => rfl
  | x :: l => by
    have ih := filter_two P l
    rw [List.filter_cons, List.filter_cons, List.length_cons]
    cases P x <;> simp <;> omega
theorem leave_len (w : Wb) (f : Rws) (p : Stp) : ((f p.1).filter fun r => !decide (r ∈ struckF w f p.1 p.2)).length + (struckF w f p.1 p.2).length = (f p.1).length := by
  have e : ((f p.1).filter fun r => !decide (r ∈ struckF w f p.1 p.2)) = (f p.1).filter fun r => !(!((f p.2).any fun s => agreeF w p.1 r p.2 s)) := List.filter_congr fun r hr => by
    congr 1
    unfold struckF
    rw [Bool.eq_iff_iff, decide_eq_true_eq, List.mem_filter]
    exact ⟨fun h => h.2, fun h => ⟨hr, h⟩⟩
  rw [e]
  unfold struckF
  exact filter_two _ _
theorem tot_leave (ok : WebOk w) {p : Stp} (hp : p.1 ∈ w.map (·.1)) : tot w (leaveF w f p) + (struckF w f p.1 p.2).length = tot w f := by
  refine sum_upd (n := p.1) (names_nd ok) (names_mem.mpr hp) (fun m _ hm => ?_) ?_
  · unfold leaveF
    rw [if_neg hm]
  · unfold leaveF
    rw [if_pos rfl]
    exact leave_len w f p
theorem tot_run (ok : WebOk w) : ∀ {ps : List Stp} {f : Rws}, (∀ p ∈ ps, p.1 ∈ w.map (·.1)) → tot w (runF w f ps) + (reasR w f ps).length = tot w f
  | [], f, _ => rfl
  | p :: ps, f, h => by
    have h1 := tot_run ok (ps := ps) (f := leaveF w f p) fun q hq => h q (List.mem_cons_of_mem _ hq)
    have h2 := tot_leave (f := f) ok (h p List.mem_cons_self)
    show tot w (runF w (leaveF w f p) ps) + ((struckF w f p.1 p.2).map (fun r => (p.1, r, p.2)) ++ reasR w (leaveF w f p) ps).length = _
    rw [List.length_append, List.length_map]
    omega
theorem reas_mem (w : Wb) : ∀ {ps : List Stp} {f : Rws} {t : Rsn}, t ∈ reasR w f ps → ∃ p ∈ ps, t.1 = p.1
  | [], _, _, h => nomatch h
  | p :: ps, f, t, h => by
    rcases List.mem_append.mp (show t ∈ (struckF w f p.1 p.2).map (fun r => (p.1, r, p.2)) ++ reasR w (leaveF w f p) ps from h) with h | h
    · obtain ⟨r, _, rfl⟩ := List.mem_map.mp h
      exact ⟨p, List.mem_cons_self, rfl⟩
    · obtain ⟨q, hq, e⟩ := reas_mem w h
      exact ⟨q, List.mem_cons_of_mem _ hq, e⟩
theorem tot_pass (ok : WebOk w) : tot w (passF w f) + (reasR w f (stepsF w)).length = tot w f := tot_run ok fun p hp => (steps_mem hp).1
theorem EndsR.len (ok : WebOk w) (h : EndsR w f R e) : tot w e + R.length = tot w f := by
  induction h with
  | done h => exact tot_pass ok
  | @step f e R h _ ih =>
    have := tot_pass (f := f) ok
    rw [List.length_append]
    omega
theorem EndsR.nm (h : EndsR w f R e) : ∀ t ∈ R, t.1 ∈ w.map (·.1) := by
  induction h with
  | done h =>
    intro t ht
    obtain ⟨p, hp, e⟩ := reas_mem w ht
    rw [e]
    exact (steps_mem hp).1
  | step h _ ih =>
    intro t ht
    rcases List.mem_append.mp ht with ht | ht
    · obtain ⟨p, hp, e⟩ := reas_mem w ht
      rw [e]
      exact (steps_mem hp).1
    · exact ih t ht
theorem struck_congr {a b : Str} (h1 : f a = g a) (h2 : f b = g b) : struckF w f a b = struckF w g a b := by
  unfold struckF
  rw [h1, h2]
/-- when as many rows are left, they are the same -/
theorem tot_same (s : ∀ n, (g n).Sublist (f n)) (h : tot w g = tot w f) : ∀ n ∈ namesF w, g n = f n := by
  have key : ∀ l : List Str, (l.map fun n => (g n).length).sum ≤ (l.map fun n => (f n).length).sum ∧ ((l.map fun n => (g n).length).sum = (l.map fun n => (f n).length).sum → ∀ n ∈ l, g n = f n) := by
    intro l
    induction l with
    | nil => exact ⟨Nat.le_refl _, fun _ _ h => nomatch h⟩
    | cons x l ih =>
      have hx := (s x).length_le
      simp only [List.map_cons, List.sum_cons]
      refine ⟨Nat.add_le_add hx ih.1, fun e n hn => ?_⟩
      rcases List.mem_cons.mp hn with rfl | hn
      · exact (s n).eq_of_length (by have := ih.1; omega)
      · exact ih.2 (by have := ih.1; omega) n hn
  exact (key _).2 h
theorem run_calm (ok : WebOk w) : ∀ {ps : List Stp} {f : Rws}, (∀ p ∈ ps, p ∈ stepsF w) → tot w (runF w f ps) = tot w f → ∀ p ∈ ps, struckF w f p.1 p.2 = []
  | [], _, _, _, _, h => nomatch h
  | q :: ps, f, hs, ht, p, hp => by
    have q1 := steps_mem (hs q List.mem_cons_self)
    have h1 := tot_leave (f := f) ok q1.1
    have h2 := tot_run (ps := ps) (f := leaveF w f q) ok fun x hx => (steps_mem (hs x (List.mem_cons_of_mem _ hx))).1
    have h3 : tot w (runF w (leaveF w f q) ps) = tot w f := ht
    have e1 : struckF w f q.1 q.2 = [] := List.eq_nil_of_length_eq_zero (by omega)
    rcases List.mem_cons.mp hp with rfl | hp
    · exact e1
    · have h4 := run_calm ok (ps := ps) (f := leaveF w f q) (fun x hx => hs x (List.mem_cons_of_mem _ hx)) (by omega) p hp
      have same := tot_same (w := w) (g := leaveF w f q) (f := f) (leave_sub w f q) (by omega)
      have pm := steps_mem (hs p (List.mem_cons_of_mem _ hp))
      rw [← struck_congr (same _ (names_mem.mpr pm.1)) (same _ (names_mem.mpr pm.2))]
      exact h4
theorem Ends.calm (ok : WebOk w) (h : Ends w f e) : Calm w e := by
  induction h with
  | @done f h =>
    have c := run_calm ok (ps := stepsF w) (f := f) (fun p hp => hp) h
    have same := tot_same (w := w) (g := passF w f) (f := f) (run_sub w _ _) h
    intro p hp
    have pm := steps_mem hp
    rw [struck_congr (same _ (names_mem.mpr pm.1)) (same _ (names_mem.mpr pm.2))]
    exact c p hp
  | step _ _ ih => exact ih
theorem Within.leave {p : Stp} (hp : p ∈ stepsF w) (c : Calm w g) (h : Within w g f) : Within w g (leaveF w f p) := fun n hn r hr => by
  unfold leaveF
  by_cases q : n = p.1
  · rw [if_pos q]
    rw [q] at hn hr
    refine List.mem_filter.mpr ⟨h _ hn r hr, ?_⟩
    have c1 := c p hp
    have hnot : r ∉ struckF w f p.1 p.2 := fun hz => by
      have h1 := (List.mem_filter.mp hz).2
      have h2 : r ∉ struckF w g p.1 p.2 := by rw [c1]; exact fun z => nomatch z
      unfold struckF at h2
      rw [List.mem_filter] at h2
      have h3 : (!((g p.2).any fun s => agreeF w p.1 r p.2 s)) ≠ true := fun z => h2 ⟨hr, z⟩
      have h4 : ((g p.2).any fun s => agreeF w p.1 r p.2 s) = true := by simpa using h3
      obtain ⟨s, hs, ha⟩ := List.any_eq_true.mp h4
      have h5 : ((f p.2).any fun s => agreeF w p.1 r p.2 s) = true := List.any_eq_true.mpr ⟨s, h _ (allSteps_mem hp).2 s hs, ha⟩
      rw [h5] at h1
      cases h1
    rw [decide_eq_false hnot]
    rfl
  · rw [if_neg q]
    exact h n hn r hr
theorem Within.run (c : Calm w g) : ∀ {ps : List Stp} {f : Rws}, (∀ p ∈ ps, p ∈ stepsF w) → Within w g f → Within w g (runF w f ps)
  | [], _, _, h => h
  | p :: ps, f, hs, h => Within.run c (ps := ps) (f := leaveF w f p) (fun q hq => hs q (List.mem_cons_of_mem _ hq)) (h.leave (hs p List.mem_cons_self) c)
theorem Ends.keep (c : Calm w g) (h : Ends w f e) (k : Within w g f) : Within w g e := by
  induction h with
  | done _ => exact k.run c fun p hp => hp
  | step _ _ ih => exact ih (k.run c fun p hp => hp)
end
end Q
set_option Elab.async false
set_option linter.all false
set_option maxRecDepth 100000
set_option maxHeartbeats 4000000
namespace Q
open PySem PySem.Spec PyProof.Rows L2 My
/-- two tables of at most two columns, or three of at most one -/
structure SmallW (w : Wb) : Prop where
  ok : WebOk w
  two : 2 ≤ w.length
  three : w.length ≤ 3
  cols : ∀ p ∈ w, p.2.length ≤ 2
  one : w.length = 3 → ∀ p ∈ w, p.2.length ≤ 1
theorem intsD_fun {α : Type} (f : α → Int) : ∀ l : List α, intsD (l.map fun x => D.int (f x)) = some (l.map f)
  | [] => rfl
  | x :: l => by
    rw [List.map_cons]
    unfold intsD
    rw [intsD_fun f l]
    rfl
/-- small tables, so far -/
def SmallT (ls : List Str) (t : Nat) (w : Wb) (l : List Str) : Prop := w.map (·.1) = l ∧ ∀ p ∈ w, ∃ xs : List Str, p.2 = ssort xs ∧ xs.Sublist ls ∧ xs.length + t ≤ 2
theorem SmallT.snoc {ls l : List Str} {t : Nat} {w : Wb} {n : Str} {xs : List Str} (h : SmallT ls t w l) (s : xs.Sublist ls) (hl : xs.length + t ≤ 2) : SmallT ls t (w ++ [(n, ssort xs)]) (l ++ [n]) :=
  ⟨by rw [List.map_append, h.1]; rfl, fun p hp => by
    rcases List.mem_append.mp hp with hp | hp
    · exact h.2 p hp
    · rw [List.mem_singleton.mp hp]
      exact ⟨xs, rfl, s, hl⟩⟩
theorem sset_ssort {xs : List Str} (nd : xs.Nodup) : sset (ssort xs) = ssort xs := by
  refine sorted_uniq ?_ (ssort_sorted _) (ssort_sorted _)
  exact (List.perm_ext_iff_of_nodup (nodup_sset _) ((ssort_perm xs).nodup_iff.mpr nd)).mpr fun _ => mem_sset
theorem SmallT.small {ls l : List Str} {t : Nat} {w : Wb} (h : SmallT ls t w l) (hls : Names ls) (h8 : ls.length ≤ 8) (hl : Names l) (hn : l.length = 2 + t) (ht : t ≤ 1) : SmallW w := by
  have wl : w.length = 2 + t := by
    have := congrArg List.length h.1
    rw [List.length_map] at this
    omega
  refine ⟨⟨by rw [h.1]; exact hl, ⟨ls, h8, hls, fun p hp c hc => ?_⟩, fun p hp => ?_⟩, by omega, by omega, fun p hp => ?_, fun w3 p hp => ?_⟩
  · obtain ⟨xs, e, s, _⟩ := h.2 p hp
    rw [e] at hc
    exact s.subset (mem_ssort.mp hc)
  · obtain ⟨xs, e, s, _⟩ := h.2 p hp
    rw [e]
    exact sset_ssort (hls.nd.sublist s)
  · obtain ⟨xs, e, s, hx⟩ := h.2 p hp
    rw [e, length_ssort]
    omega
  · obtain ⟨xs, e, s, hx⟩ := h.2 p hp
    rw [e, length_ssort]
    omega
end Q
set_option Elab.async false
set_option linter.all false
set_option maxRecDepth 100000
set_option maxHeartbeats 4000000
set_option Elab.async false
set_option linter.all false
set_option maxRecDepth 100000
set_option maxHeartbeats 4000000
set_option Elab.async false
set_option linter.all false
set_option maxRecDepth 100000
set_option maxHeartbeats 4000000
namespace Q
open PySem PySem.Spec PyProof.Rows L2 My
section
variable {X : Cx} {g0 : Gh} {a b : Expr} {rest : List Expr} {pos : Pos} {wa wb : WE}
def wOrD (wa wb : WE) : WE := fun z Q => wa z fun d z1 => ∃ p kvs, d = .ref p ∧ z1.M p = some (.dct kvs) ∧ (kvs = [] → wb ⟨z1.ρ, mupd z1.M p none⟩ Q) ∧ (kvs ≠ [] → Q (.dct kvs) ⟨z1.ρ, mupd z1.M p none⟩)
end
end Q
set_option Elab.async false
set_option linter.all false
set_option maxRecDepth 100000
set_option maxHeartbeats 4000000
namespace Q
open PySem PySem.Spec PyProof.Rows L2 My
theorem sl_r {M : Mp} {x : D} {ds : List D} {lo hi : Option Int} {Q : KD} (h : look M x = .lst ds) (q : Q (.lst (cutD ds lo hi)) M) : rdSl x lo hi M Q := by
  unfold rdSl
  rw [h]
  exact q
end Q
set_option Elab.async false
set_option linter.all false
set_option maxRecDepth 100000
set_option maxHeartbeats 4000000
namespace My
open PySem PySem.Spec PyProof.Rows L2
end My
set_option Elab.async false
set_option linter.all false
set_option maxRecDepth 100000
set_option maxHeartbeats 4000000
namespace Q
open PySem PySem.Spec PyProof.Rows L2 My
def BigR (r : Rw) : Prop := ∀ i ∈ r, i.natAbs ≤ 10 ^ 39
end Q
namespace Q
open PySem PySem.Spec PyProof.Rows L2 My
theorem add_str {M : Mp} {a b : Str} {Q : KD} (h : a.length + b.length ≤ sizeLine) (q : Q (.str (a ++ b)) M) : rdAdd (.str a) (.str b) M Q := ⟨h, q⟩
end Q
namespace Q
open PySem PySem.Spec PyProof.Rows L2 My
theorem sum_nat {α : Type} {M : Mp} {Q : KD} (l : List α) (g : α → Nat) (q : Q (.int ((l.map g).sum : Nat)) M) : rdSum [.lst (l.map fun n => .int (g n : Nat))] M Q := by
  refine ⟨_, _, l.map fun n => ((g n : Nat) : Int), rfl, rfl, intsD_fun (fun n => ((g n : Nat) : Int)) l, ?_⟩
  have e : (l.map fun n => ((g n : Nat) : Int)).sum = (((l.map g).sum : Nat) : Int) := by
    clear q
    induction l with
    | nil => rfl
    | cons x l ih => rw [List.map_cons, List.sum_cons, ih, List.map_cons, List.sum_cons]; omega
  rw [e]
  exact q
end Q
set_option Elab.async false
set_option linter.all false
set_option maxRecDepth 100000
set_option maxHeartbeats 4000000
namespace Q
open PySem PySem.Spec PyProof.Rows L2 My
def rIsP3 (K : PySem.W.Frag) (p : Addr × Obj) : List V → Hp → VK → Prop := fun xs H Q => ∃ D : Addr, IsP H p D ∧ ExcC K D ∧ ∃ (n : String) (b : Bool), xs = [.ref p.1, .ty n] ∧ PySem.W.kitOne K (.ref D) (.type n) = some b ∧ Q (.bl b) H
theorem call_isP3 {X : Cx} {p : Addr × Obj} (hp : p ∈ X.pn) : CallR X (.builtin "isinstance") (rIsP3 X.K p) := by
  intro pins s σ H xs us Q I r ⟨D, ⟨hc1, ⟨vs, hd⟩, hx⟩, C, n, b, e0, e, q⟩
  have hg := (I.pin p (List.mem_append_left _ hp)).1
  obtain ⟨od, J⟩ : ∃ od, PySem.W.InstAt s.heap p.1 p.2 D od := by
    rcases hx with hx | ⟨dd, fs, h3, h4⟩
    · exact ⟨none, ⟨hg, hc1, by unfold PySem.W.notCls; rw [hd] <;> rfl, by rw [hx]; trivial⟩⟩
    · obtain ⟨mA, hns, _⟩ := (I.hok dd _ h4 : ObjOk X.prog X.w H s.heap dd (.xd fs))
      obtain ⟨od, ho, _⟩ := lookIn_ns hns
      exact ⟨some od, ⟨hg, hc1, by unfold PySem.W.notCls; rw [hd] <;> rfl, by rw [h3]; exact ho⟩⟩
  obtain ⟨cd, hc, _⟩ := PySem.W.any_some C.hd
  subst e0
  obtain ⟨u1, u2, rfl, r1, r2⟩ := vals2 r
  cases (show u1 = Value.ref p.1 from r1)
  cases (show u2 = Value.type n from r2)
  refine PySem.W.kia_one (PySem.W.kitx_exc (by rw [hc]; rfl) C.hg C.hk C.hs C.ha C.hn C.ht C.hm) I.kIn J e (fun z => nomatch z) fun tk => ?_
  exact ⟨.bl b, H, I.kept (t' := tk) fun _ _ z => z, rfl, q⟩
def rdIsEV (K : PySem.W.Frag) (a C : Addr) (ds : List D) (M : Mp) (Q : KD) : Prop := ExcC K C ∧ ∃ (n : String) (b : Bool), ds = [.ref a, .ty n] ∧ PySem.W.kitOne K (.ref C) (.type n) = some b ∧ Q (.bl b) M
section
variable {X : Cx} {g0 g1 : Gh} {a C : Addr} {oe : Obj} {d : Option Addr} {pn : List (Addr × Obj)} {fs : List (Str × D)} {wa : WA} {we : WE} {p pos : Pos} {e : Expr} {es : List Expr}
theorem qe_isEV (K : PySem.W.Frag) (hp : (a, oe) ∈ X.pn) (hz : Zc (.ref C) d oe) (hf : ∃ vs, oe.data = .fields vs) (er : ErrAt X.K g1 d fs) (hm : X.mg "isinstance" = none) (ha : QA X g1 (e :: es) wa) (hg : Gl X "isinstance" := by rfl)
    (he : starEach (e :: es) X.env = (false, eval e X.env) :: starEach es X.env := by rfl) (hpl : (backTo pos (starEach es X.env)).any (·.1) = false := by rfl) (hK : X.K = K := by rfl) :
    QE X g1 (.Call (.Name "isinstance" p) (e :: es) [] pos) (wN (rdIsEV K a C) wa) := by
  subst hK
  have mo : ∀ ds M Q Q', (∀ d M', Q d M' → Q' d M') → rdIsEV X.K a C ds M Q → rdIsEV X.K a C ds M Q' := fun ds M Q Q' k ⟨T, n, b, h1, h2, h3⟩ => ⟨T, n, b, h1, h2, k _ _ h3⟩
  refine ⟨fun z Q Q' k h => ha.mono _ _ _ (fun ds z1 h1 => mo _ _ _ _ (fun d M q => k _ _ q) h1) h, (pe_callB (call_isP3 hp) hg hm (by decide +kernel) ha.run (by decide) (by decide) he hpl).imp fun σ H Q ⟨g, z, l0, r, h⟩ => ?_⟩
  refine ⟨g, z, l0, r, ha.mono _ _ _ (fun ds z1 ⟨T, n, b, h1, k2, k3⟩ vs g2 H2 e2 r2 a2 => ⟨C, (er.le (l0.trans e2)).isP r2.wr hz hf, T, n, b, ?_, k2, k3 (.bl b) g2 H2 e2 ⟨r2.wr, r2.sl⟩ (.bl b)⟩) h⟩
  subst h1
  obtain ⟨v, u, rfl, hv, hu⟩ := has2 a2
  cases hv
  cases hu
  rfl
end
def leftW (w : Wb) (ns : List Str) : Wb := w.filter fun p => !decide (p.1 ∈ ns)
section
variable {w : Wb} {f : Rws} {ns ms : List Str}
theorem left_fst : (leftW w ns).map (·.1) = (w.map (·.1)).filter fun n => !decide (n ∈ ns) := by
  unfold leftW
  rw [List.filter_map]
  rfl
theorem left_mem {n : Str} : n ∈ (leftW w ns).map (·.1) ↔ n ∈ w.map (·.1) ∧ n ∉ ns := by
  rw [left_fst, List.mem_filter, Bool.not_eq_true', decide_eq_false_iff_not]
theorem left_pos (nd : ns.Nodup) (hs : ∀ n ∈ ns, n ∈ w.map (·.1)) (hl : ns.length < w.length) (ok : WebOk w) : (leftW w ns).length = w.length - ns.length := by
  have h1 : ((w.map (·.1)).filter fun n => decide (n ∈ ns)).Perm ns := by
    refine (List.perm_ext_iff_of_nodup (ok.nm.nd.filter _) nd).mpr fun n => ?_
    rw [List.mem_filter, decide_eq_true_eq]
    exact ⟨fun h => h.2, fun h => ⟨hs n h, h⟩⟩
  have h2 := filter_two (fun n => decide (n ∈ ns)) (w.map (·.1))
  have h3 : ((w.map (·.1)).filter fun n => !decide (n ∈ ns)).length = (leftW w ns).length := by rw [← left_fst, List.length_map]
  rw [h1.length_eq, List.length_map, h3] at h2
  omega
end
/-- some tables, not all, each once -/
structure SomeOut (w : Wb) (ns : List Str) : Prop where
  nd : ns.Nodup
  sub : ∀ n ∈ ns, n ∈ w.map (·.1)
  len : ns.length < w.length
theorem SomeOut.pos {w : Wb} {ns : List Str} (h : SomeOut w ns) (ok : WebOk w) : (leftW w ns).length = w.length - ns.length := left_pos h.nd h.sub h.len ok
theorem SomeOut.ne {w : Wb} {ns : List Str} (h : SomeOut w ns) (ok : WebOk w) : leftW w ns ≠ [] := fun e => by
  have := h.pos ok
  have := h.len
  rw [e, List.length_nil] at *
  omega
theorem SomeOut.app {w : Wb} {ns ms : List Str} (h : SomeOut w ns) (ok : WebOk w) (k : SomeOut (leftW w ns) ms) : SomeOut w (ms ++ ns) where
  nd := List.nodup_append.mpr ⟨k.nd, h.nd, fun a ha b hb e => (left_mem.mp (k.sub a ha)).2 (e ▸ hb)⟩
  sub := fun n hn => (List.mem_append.mp hn).elim (fun hn => (left_mem.mp (k.sub n hn)).1) (h.sub n)
  len := by
    have h1 := k.len
    have h2 := h.pos ok
    have h3 := h.len
    rw [List.length_append]
    omega
end Q
set_option Elab.async false
set_option linter.all false
set_option maxRecDepth 100000
set_option maxHeartbeats 4000000
namespace Q
open PySem PySem.Spec PyProof.Rows L2 My
def oddY : List Str := ["zzzzzzzz", "a", "ab", "zzz", "q"]
def OneY (ss : List Str) : Prop := (∃ a ∈ ss, a ∈ oddY) → ("yyyyyyyy" : Str) ∉ ss
theorem OneY.sub {ss ts : List Str} (h : OneY ss) (k : ∀ s ∈ ts, s ∈ ss) : OneY ts := fun ⟨a, ha, hz⟩ hy => h ⟨a, k a ha, hz⟩ (k _ hy)
/-- rows in a list of their own, or one that changes later -/
def IsR (M : Mp) (d : D) (rs : List Rw) : Prop := d = .lst (rowsT rs) ∨ ∃ p, d = .ref p ∧ M p = some (.lst (rowsT rs))
theorem IsR.look {M : Mp} {d : D} {rs : List Rw} (h : IsR M d rs) : look M d = .lst (rowsT rs) := by
  rcases h with rfl | ⟨p, rfl, hp⟩
  · rfl
  · exact lkL hp
theorem IsR.put {M : Mp} {d : D} {rs : List Rw} {p : Addr} {x : Option MO} (h : IsR M d rs) (hp : M p = none) : IsR (mupd M p x) d rs := by
  rcases h with rfl | ⟨q, rfl, hq⟩
  · exact .inl rfl
  · refine .inr ⟨q, rfl, ?_⟩
    rw [mupd_ne (fun e => by rw [e, hp] at hq; cases hq)]
    exact hq
section
variable {w : Wb} {f g : Rws} {n : Str} {rs : List Rw}
theorem many_put (ok : WebOk w) {c : Nat} (h1 : ∀ m, m ≠ n → (g m).length ≤ (f m).length) (h2 : (g n).length ≤ (f n).length + c) : manyF w g ≤ manyF w f + c := by
  have key : ∀ l : List Str, l.Nodup → (l.map fun m => (g m).length).sum ≤ (l.map fun m => (f m).length).sum + c := by
    intro l
    induction l with
    | nil => exact fun _ => Nat.zero_le _
    | cons x l ih =>
      intro nd
      obtain ⟨a, b⟩ := List.nodup_cons.mp nd
      rw [List.map_cons, List.map_cons, List.sum_cons, List.sum_cons]
      by_cases e : x = n
      · subst e
        have := sum_map_le (l := l) (g := fun m => (g m).length) (h := fun m => (f m).length) fun y hy => h1 y fun z => a (z ▸ hy)
        omega
      · have := ih b
        have := h1 x e
        omega
  exact key _ (names_nd ok)
end
/-- contents that come up in the law, behind some steps -/
structure Made (w : Wb) (i : Nat) (f : Rws) : Prop where
  ok : RwsOk w f
  big : ∀ n ∈ w.map (·.1), ∀ r ∈ f n, BigR r
  each : ∀ n ∈ w.map (·.1), (f n).length ≤ 5 + 2 * i
  many : manyF w f ≤ 30 + 2 * i
section
variable {w : Wb} {f : Rws} {n : Str} {rs : List Rw} {i j : Nat}
theorem Made.mono (h : Made w i f) (hi : i ≤ j) : Made w j f := ⟨h.ok, h.big, fun n hn => Nat.le_trans (h.each n hn) (by omega), Nat.le_trans h.many (by omega)⟩
end
end Q
set_option Elab.async false
set_option linter.all false
set_option maxRecDepth 100000
set_option maxHeartbeats 4000000
namespace Q
open PySem PySem.Spec PyProof.Rows L2 My
section
variable {X : Cx} {g0 : Gh} {C f : Addr} {k : Nat} {fd : FuncData} {ps : List Str} {op : Operator} {a b : Expr} {pos pos' p : Pos} {x : Str} {wa wb : WE} {xc : XC}
/-- x op y by the class's own method -/
def rdBinO (C : Addr) (den : Den) (x y : D) (M : Mp) (Q : KD) : Prop := ∃ fs gs, inst M x = some (C, fs) ∧ inst M y = some (C, gs) ∧ den [x, y] M fun r M' => (∃ hs, inst M' r = some (C, hs)) ∧ Q r M'
/-- the same, where it may raise -/
def wBinE (C : Addr) (den : DenX) (xc : XC) (wa wb : WE) : WE := fun z Q => wa z fun x z1 => wb z1 fun y z2 => ∃ fs gs, inst z2.M x = some (C, fs) ∧ inst z2.M y = some (C, gs) ∧ den [x, y] z2.M (fun r M => (∃ hs, inst M r = some (C, hs)) ∧ Q r ⟨z2.ρ, M⟩) (fun C' fs' M => xc C' fs' ⟨z2.ρ, M⟩)
/-- raise C() -/
def wRaise0 (C : Addr) (xc : XC) : WS := fun _ z => xc C [] z
def wFrzDO (i : Nat) : WE := fun z Q => wFrzD i z Q ∨ wVar i z Q
def rdSlX (x : D) (lo hi : Option Int) (M : Mp) (Q : KD) : Prop := ∃ ss, look M x = .tux ss ∧ ¬ (HT.sIx ss.length 0 lo = 0 ∧ HT.sIx ss.length ss.length hi = ss.length) ∧ Q (.tup (cutD (sts ss) lo hi)) M
def wSlX (we : WE) (wl wh : WO) : WE := fun z Q => we z fun d z1 => wl z1 fun lo z2 => wh z2 fun hi z3 => rdSlX d lo hi z3.M fun r M => Q r ⟨z3.ρ, M⟩
end
end Q
set_option Elab.async false
set_option linter.all false
set_option maxRecDepth 100000
set_option maxHeartbeats 4000000
namespace Q
open PySem PySem.Spec PyProof.Rows L2 My
def joinF (way : Int) (f g : Rws) : Rws := fun n => if way = 0 then rset (f n ++ g n) else if way = 1 then (f n).filter (fun r => decide (r ∈ g n)) else (f n).filter (fun r => !decide (r ∈ g n))
def JoinOk (w : Wb) (f g : Rws) : Prop := ∀ n ∈ w.map (·.1), (f n).length + (g n).length ≤ 60
section
variable {w : Wb} {f g : Rws}
theorem RwsOk.joinI (h : RwsOk w f) {i : Int} (hi : i ≠ 0) : RwsOk w (joinF i f g) := h.cut fun n _ => by
  unfold joinF
  rw [if_neg hi]
  split <;> exact List.filter_sublist
theorem join_mem {i : Int} {n : Str} {r : Rw} (h : r ∈ joinF i f g n) : r ∈ f n ∨ r ∈ g n := by
  unfold joinF at h
  split at h
  · exact List.mem_append.mp (mem_rset.mp h)
  · split at h <;> exact .inl (List.mem_filter.mp h).1
theorem RwsOk.join (hf : RwsOk w f) (hg : RwsOk w g) (hj : JoinOk w f g) {i : Int} : RwsOk w (joinF i f g) := by
  by_cases hi : i = 0
  · subst hi
    refine ⟨fun n hn => rset_idem _, fun n hn r hr => (join_mem hr).elim (hf.wide n hn r) (hg.wide n hn r), fun n hn => ?_⟩
    refine Nat.le_trans (length_rset _) ?_
    rw [List.length_append]
    exact hj n hn
  · exact hf.joinI hi
end
end Q
namespace Q
open PySem PySem.Spec PyProof.Rows L2 My
section
variable {w : Wb} {n : Str} {cs : List Str} {f g : Rws}
theorem RwsOk.none : RwsOk w fun _ => [] := ⟨(fun n _ => List.eq_nil_of_length_eq_zero (Nat.le_zero.mp (length_rset []))), (fun n _ r hr => nomatch hr), fun n _ => Nat.zero_le _⟩
end
end Q
namespace Q
open PySem PySem.Spec PyProof.Rows L2 My
/-- contents whose rows are among some rows -/
structure InU (w : Wb) (U f : Rws) : Prop where
  ok : RwsOk w f
  big : ∀ n ∈ w.map (·.1), ∀ r ∈ f n, BigR r
  sub : ∀ n ∈ w.map (·.1), ∀ r ∈ f n, r ∈ U n
structure UOk (w : Wb) (i : Nat) (U : Rws) : Prop where
  each : ∀ n ∈ w.map (·.1), (U n).length ≤ 10 + i
  many : manyF w U ≤ 60 + i
section
variable {w : Wb} {U f g : Rws} {i : Nat} {n : Str} {r : Rw}
theorem InU.len (h : InU w U f) (hn : n ∈ w.map (·.1)) : (f n).length ≤ (U n).length := by
  have nd := nodup_rset (f n)
  rw [h.ok.srt n hn] at nd
  exact nd.length_le_of_subset (h.sub n hn)
def addU (U : Rws) (n : Str) (r : Rw) : Rws := fun m => if m = n then U n ++ [r] else U m
theorem addU_sub {m : Str} {x : Rw} (h : x ∈ U m) : x ∈ addU U n r m := by
  unfold addU
  split
  · rename_i e
    rw [e] at h
    exact List.mem_append_left _ h
  · exact h
theorem UOk.add (u : UOk w i U) (ok : WebOk w) : UOk w (i + 1) (addU U n r) where
  each := fun m hm => by
    have := u.each m hm
    unfold addU
    split
    · rename_i e
      rw [e] at this
      rw [List.length_append]
      show _ + 1 ≤ _
      omega
    · omega
  many := by
    have := many_put (f := U) (g := addU U n r) (n := n) ok (c := 1) (fun m e => by unfold addU; rw [if_neg e]; exact Nat.le_refl _) (by unfold addU; rw [if_pos rfl, List.length_append]; exact Nat.le_refl _)
    have := u.many
    omega
theorem InU.mono (h : InU w U f) : InU w (addU U n r) f := ⟨h.ok, h.big, fun m hm x hx => addU_sub (h.sub m hm x hx)⟩
theorem InU.joinOk (hf : InU w U f) (hg : InU w U g) (u : UOk w i U) (hi : i ≤ 13) : JoinOk w f g := fun n hn => by
  have := hf.len hn
  have := hg.len hn
  have := u.each n hn
  omega
theorem InU.join (hf : InU w U f) (hg : InU w U g) (u : UOk w i U) (hi : i ≤ 13) {way : Int} : InU w U (joinF way f g) where
  ok := hf.ok.join hg.ok (hf.joinOk hg u hi)
  big := fun n hn r hr => (join_mem hr).elim (hf.big n hn r) (hg.big n hn r)
  sub := fun n hn r hr => (join_mem hr).elim (hf.sub n hn r) (hg.sub n hn r)
theorem InU.two (hf : RwsOk w f) (bf : ∀ n ∈ w.map (·.1), ∀ r ∈ f n, BigR r) (h : ∀ n ∈ w.map (·.1), ∀ r ∈ f n, r ∈ U n) : InU w U f := ⟨hf, bf, h⟩
theorem UOk.two (ok : WebOk w) (h6 : w.length ≤ 6) (hf : ∀ n ∈ w.map (·.1), (f n).length ≤ 5) (hg : ∀ n ∈ w.map (·.1), (g n).length ≤ 5) : UOk w 0 fun n => f n ++ g n where
  each := fun n hn => by
    have := hf n hn
    have := hg n hn
    rw [List.length_append]
    omega
  many := by
    have := sum_map_const (g := fun n => (f n ++ g n).length) (k := 10) (l := namesF w) fun n hn => by
      have := hf n (names_mem.mp hn)
      have := hg n (names_mem.mp hn)
      rw [List.length_append]
      omega
    rw [names_len] at this
    exact Nat.le_trans (show manyF w (fun n => f n ++ g n) ≤ w.length * 10 from this) (by omega)
end
end Q
set_option Elab.async false
set_option linter.all false
set_option maxRecDepth 100000
set_option maxHeartbeats 4000000
namespace Q
open PySem PySem.Spec PySem.Calls PyProof.Rows PyProof.V L2 My
/-- a zip of two tuples behind i items, its tuples kept elsewhere; S stands apart -/
structure ZSx (h : Heap) (z TI TO i1 i2 l1 l2 : Addr) (xs ys : Array Value) (S : Addr) (i : Nat) : Prop where
  ti : IsPair h TI (.ref i1) (.ref i2)
  a1 : h.IsTupleIter i1 l1 i
  a2 : h.IsTupleIter i2 l2 i
  b1 : h.IsTuple l1 xs
  b2 : h.IsTuple l2 ys
  z : (IsZip h z TI TO .none ∧ ∃ a b, IsPair h TO a b) ∨ ∃ T f oT, IsZipHeld h z TI TO T f ∧ h.get? T = some oT ∧ T ≠ z ∧ T ≠ i1 ∧ T ≠ i2 ∧ T ≠ S
section
variable {z TI TO i1 i2 l1 l2 S : Addr} {xs ys : Array Value} {i : Nat}
theorem ZSx.keep {h h' : Heap} (x : ZSx h z TI TO i1 i2 l1 l2 xs ys S i) (F : ZF z TI TO i1 i2 l1 l2 S) (hk : ∀ b o, b ≠ S → h.get? b = some o → h'.get? b = some o) : ZSx h' z TI TO i1 i2 l1 l2 xs ys S i := by
  refine ⟨hk _ _ F.ti x.ti, x.a1.at fun o e => hk _ o F.i1 e, x.a2.at fun o e => hk _ o F.i2 e, x.b1.at fun o e => hk _ o F.l1 e, x.b2.at fun o e => hk _ o F.l2 e, ?_⟩
  rcases x.z with ⟨h1, a, b, h2⟩ | ⟨T, f, oT, h1, h2, h3, h4, h5, h6⟩
  · exact .inl ⟨hk _ _ F.z h1, a, b, hk _ _ F.to h2⟩
  · exact .inr ⟨T, f, oT, hk _ _ F.z h1, hk _ _ h6 h2, h3, h4, h5, h6⟩
end
section
variable {prog : Program} {w : World} {A : Around} {s : Shared} {z TI TO i1 i2 l1 l2 S : Addr} {xs ys : Array Value} {i : Nat}
theorem ZSx.ty (st : ZSx s.heap z TI TO i1 i2 l1 l2 xs ys S i) : s.TypeIs (.ref z) "zip" := by
  rcases st.z with ⟨h1, _⟩ | ⟨T, f, oT, h1, _⟩
  · exact ⟨_, h1, rfl⟩
  · exact ⟨_, h1, rfl⟩
end
end Q
set_option Elab.async false
set_option linter.all false
set_option maxRecDepth 100000
set_option maxHeartbeats 4000000
namespace Q
open PySem PySem.Spec PyProof.Rows L2 My
def mdel (M : Mp) (qs : List Addr) : Mp := qs.foldl (fun M q => mupd M q none) M
def wFrzDD (i : Nat) : WE := fun z Q => ∃ (a : Addr) (L : List (Key × Addr × List D)), z.ρ[i]? = some (some (.ref a)) ∧ z.M a = some (.dct (L.map fun t => (t.1, .ref t.2.1))) ∧ (∀ t ∈ L, z.M t.2.1 = some (.lst t.2.2)) ∧ (L.map fun t => t.2.1).Nodup ∧
  Q (.dct (L.map fun t => (t.1, .lst t.2.2))) ⟨z.ρ.set i (some (.dct (L.map fun t => (t.1, .lst t.2.2)))), mupd (mdel z.M (L.map fun t => t.2.1)) a none⟩
end Q
set_option Elab.async false
set_option linter.all false
set_option maxRecDepth 100000
set_option maxHeartbeats 4000000
namespace Q
open PySem PySem.Spec PyProof.Rows L2 My
structure MoreR (w : Wb) (f g : Rws) : Prop where
  ok : RwsOk w g
  big : ∀ n ∈ w.map (·.1), ∀ r ∈ g n, BigR r
  len : ∀ n ∈ w.map (·.1), (g n).length ≤ (f n).length + 2
  wit : Within w f g
section
variable {w : Wb} {f g e e' : Rws} {k : Str → Int}
theorem Within.step {p : Stp} (hp : p ∈ stepsF w) (k : Within w f g) : Within w (leaveF w f p) (leaveF w g p) := fun n hn r hr => by
  have pm := steps_mem hp
  unfold leaveF at hr ⊢
  by_cases e : n = p.1
  · rw [if_pos e] at hr ⊢
    rw [List.mem_filter] at hr ⊢
    obtain ⟨h1, h2⟩ := hr
    refine ⟨k _ (names_mem.mpr pm.1) r h1, ?_⟩
    rw [Bool.not_eq_true', decide_eq_false_iff_not] at h2 ⊢
    intro h3
    refine h2 ?_
    unfold struckF at h3 ⊢
    rw [List.mem_filter] at h3 ⊢
    refine ⟨h1, ?_⟩
    rw [Bool.not_eq_true', Bool.eq_false_iff] at h3 ⊢
    intro h4
    refine h3.2 ?_
    rw [List.any_eq_true] at h4 ⊢
    obtain ⟨s, hs, ha⟩ := h4
    exact ⟨s, k _ (names_mem.mpr pm.2) s hs, ha⟩
  · rw [if_neg e] at hr ⊢
    exact k n hn r hr
end
end Q
namespace Q
open PySem PySem.Spec PyProof.Rows L2 My
structure LLs (M M' : Mp) (ns : List Str) (ps : List Addr) (F : Rws) : Prop where
  len : ps.length = ns.length
  nd : ps.Nodup
  fresh : ∀ q ∈ ps, M q = none
  at_ : ∀ x ∈ ns.zip ps, M' x.2 = some (.lst (rowsT (F x.1)))
  le : Mle M M'
theorem zip_fst {ns : List Str} {ps : List Addr} (h : ps.length = ns.length) : (ns.zip ps).map (·.1) = ns := List.map_fst_zip (by omega)
theorem zip_snd {ns : List Str} {ps : List Addr} (h : ps.length = ns.length) : (ns.zip ps).map (·.2) = ps := List.map_snd_zip (by omega)
theorem inj_fst {α β : Type} {l : List (α × β)} (nd : (l.map (·.1)).Nodup) {a b : α × β} (ha : a ∈ l) (hb : b ∈ l) (e : a.1 = b.1) : a = b := by
  induction l with
  | nil => cases ha
  | cons x l ih =>
    obtain ⟨n1, n2⟩ := List.nodup_cons.mp nd
    rcases List.mem_cons.mp ha with ea | ia <;> rcases List.mem_cons.mp hb with eb | ib
    · exact ea.trans eb.symm
    · exact absurd (show x.1 ∈ l.map (·.1) from List.mem_map.mpr ⟨b, ib, by rw [← e, ea]⟩) n1
    · exact absurd (show x.1 ∈ l.map (·.1) from List.mem_map.mpr ⟨a, ia, by rw [e, eb]⟩) n1
    · exact ih n2 ia ib
theorem inj_snd {α β : Type} {l : List (α × β)} (nd : (l.map (·.2)).Nodup) {a b : α × β} (ha : a ∈ l) (hb : b ∈ l) (e : a.2 = b.2) : a = b := by
  induction l with
  | nil => cases ha
  | cons x l ih =>
    obtain ⟨n1, n2⟩ := List.nodup_cons.mp nd
    rcases List.mem_cons.mp ha with ea | ia <;> rcases List.mem_cons.mp hb with eb | ib
    · exact ea.trans eb.symm
    · exact absurd (show x.2 ∈ l.map (·.2) from List.mem_map.mpr ⟨b, ib, by rw [← e, ea]⟩) n1
    · exact absurd (show x.2 ∈ l.map (·.2) from List.mem_map.mpr ⟨a, ia, by rw [e, eb]⟩) n1
    · exact ih n2 ia ib
section
variable {M M' : Mp} {ns : List Str} {ps : List Addr} {F : Rws} {p : Addr} {n : Str}
theorem LLs.mem_at (h : LLs M M' ns ps F) {q : Addr} (hq : q ∈ ps) : ∃ x ∈ ns.zip ps, x.2 = q := by
  rw [← zip_snd h.len] at hq
  obtain ⟨x, hx, e⟩ := List.mem_map.mp hq
  exact ⟨x, hx, e⟩
theorem LLs.off (h : LLs M M' ns ps F) (hp : M' p = none) : p ∉ ps := fun z => by
  obtain ⟨x, hx, e⟩ := h.mem_at z
  have := h.at_ x hx
  rw [e, hp] at this
  cases this
theorem LLs.nil : LLs M M [] [] F := ⟨rfl, List.nodup_nil, (fun _ h => nomatch h), (fun _ h => nomatch h), .refl M⟩
theorem LLs.snoc (h : LLs M M' ns ps F) (hp : M' p = none) (hF : F n = []) : LLs M (mupd M' p (some (.lst []))) (ns ++ [n]) (ps ++ [p]) F where
  len := by rw [List.length_append, List.length_append, h.len]; rfl
  nd := List.nodup_append.mpr ⟨h.nd, by simp, fun a ha b hb e => h.off hp (by rw [List.mem_singleton.mp hb] at e; exact e ▸ ha)⟩
  fresh := fun q hq => by
    rcases List.mem_append.mp hq with hq | hq
    · exact h.fresh q hq
    · rw [List.mem_singleton.mp hq]
      exact h.le.free hp
  at_ := fun x hx => by
    rw [List.zip_append h.len.symm] at hx
    rcases List.mem_append.mp hx with hx | hx
    · rw [mupd_ne (fun e => h.off hp (by rw [← e]; exact (List.of_mem_zip hx).2))]
      exact h.at_ x hx
    · rw [List.mem_singleton.mp hx, mupd_same, hF]
      rfl
  le := h.le.put (h.le.free hp)
theorem LLs.side {x : Option MO} (h : LLs M M' ns ps F) (hp : M' p = none) : LLs M (mupd M' p x) ns ps F := ⟨h.len, h.nd, h.fresh, fun y hy => by
  rw [mupd_ne (fun e => h.off hp (by rw [← e]; exact (List.of_mem_zip hy).2))]
  exact h.at_ y hy, h.le.put (h.le.free hp)⟩
theorem LLs.add (h : LLs M M' ns ps F) (nd : ns.Nodup) {q : Addr} (hq : (n, q) ∈ ns.zip ps) (r : Rw) : LLs M (mupd M' q (some (.lst (rowsT (F n) ++ [rowT r])))) ns ps (fun m => if m = n then F n ++ [r] else F m) where
  len := h.len
  nd := h.nd
  fresh := h.fresh
  at_ := fun x hx => by
    by_cases e : x.2 = q
    · have := inj_snd (by rw [zip_snd h.len]; exact h.nd) hx hq e
      subst this
      rw [mupd_same, if_pos rfl]
      unfold rowsT
      rw [List.map_append]
      rfl
    · have ne : x.1 ≠ n := fun z => e (congrArg Prod.snd (inj_fst (by rw [zip_fst h.len]; exact nd) hx hq z))
      rw [mupd_ne e, if_neg ne]
      exact h.at_ x hx
  le := h.le.put (h.fresh q (List.of_mem_zip hq).2)
theorem LLs.get (h : LLs M M' ns ps F) (hn : n ∈ ns) : ∃ q, (n, q) ∈ ns.zip ps := by
  rw [← zip_fst h.len] at hn
  obtain ⟨x, hx, rfl⟩ := List.mem_map.mp hn
  exact ⟨x.2, hx⟩
end
end Q
namespace Q
open PySem PySem.Spec PyProof.Rows L2 My
structure MoreOf (w : Wb) (f : Rws) (n : Str) (rs : List Rw) : Prop where
  has : ∀ r ∈ f n, r ∈ rs
  ok : ∀ r ∈ rs, r.length = (colsF w n).length ∧ ∀ i ∈ r, i.natAbs ≤ 10 ^ 39
def MoreTo (w : Wb) (f g : Rws) (ns : List Str) : Prop := ∀ n ∈ ns, ∃ rs, g n = rset rs ∧ MoreOf w f n rs ∧ rs.length ≤ (f n).length + 2
section
variable {w : Wb} {f g : Rws} {n : Str} {l : List Str} {rs : List Rw}
theorem MoreTo.snoc (h : MoreTo w f g l) (hn : n ∉ l) (mo : MoreOf w f n rs) (rl : rs.length ≤ (f n).length + 2) : MoreTo w f (fun q => if q = n then rset rs else g q) (l ++ [n]) := fun q hq => by
  rw [List.mem_append, List.mem_singleton] at hq
  by_cases e : q = n
  · simp only [if_pos e]
    exact ⟨rs, rfl, e ▸ mo, e ▸ rl⟩
  · simp only [if_neg e]
    exact h q (hq.resolve_right e)
theorem MoreTo.done (h : MoreTo w f g (namesF w)) (h4 : ∀ n ∈ w.map (·.1), (f n).length ≤ 4) : MoreR w f g where
  ok := ⟨fun n hn => by
      obtain ⟨rs, e, _⟩ := h n (names_mem.mpr hn)
      rw [e, rset_idem],
    fun n hn r hr => by
      obtain ⟨rs, e, mo, _⟩ := h n (names_mem.mpr hn)
      rw [e] at hr
      exact (mo.ok r (mem_rset.mp hr)).1,
    fun n hn => by
      obtain ⟨rs, e, mo, rl⟩ := h n (names_mem.mpr hn)
      rw [e]
      have := h4 n hn
      exact Nat.le_trans (length_rset rs) (by omega)⟩
  big := fun n hn r hr => by
      obtain ⟨rs, e, mo, _⟩ := h n (names_mem.mpr hn)
      rw [e] at hr
      exact (mo.ok r (mem_rset.mp hr)).2
  len := fun n hn => by
      obtain ⟨rs, e, mo, rl⟩ := h n (names_mem.mpr hn)
      rw [e]
      exact Nat.le_trans (length_rset rs) rl
  wit := fun n hn r hr => by
      obtain ⟨rs, e, mo, _⟩ := h n hn
      rw [e]
      exact mem_rset.mpr (mo.has r hr)
theorem MoreOf.add (mo : MoreOf w f n rs) {r : Rw} (h1 : r.length = (colsF w n).length) (h2 : ∀ i ∈ r, i.natAbs ≤ 10 ^ 39) : MoreOf w f n (if r ∈ rs then rs else rs ++ [r]) := by
  split
  · exact mo
  · refine ⟨fun x hx => List.mem_append_left _ (mo.has x hx), fun x hx => ?_⟩
    rcases List.mem_append.mp hx with hx | hx
    · exact mo.ok x hx
    · rw [List.mem_singleton.mp hx]
      exact ⟨h1, h2⟩
end
end Q
set_option Elab.async false
set_option linter.all false
set_option maxRecDepth 100000
set_option maxHeartbeats 4000000
namespace Q
open PySem PySem.Spec PyProof.Rows L2 My
section
variable {X : Cx} {g0 : Gh} {tg e : Expr} {we : WE} {p pos : Pos}
def wRevI (we : WE) : WI := fun z Q => we z fun d z1 => ∃ ds, (d = .lst ds ∨ d = .tup ds) ∧ Q ds.reverse z1
end
/-- with its lists -/
def wFrzTT (i : Nat) : WE := fun z Q => ∃ (a : Addr) (L : List (List Key × Addr × List D)), z.ρ[i]? = some (some (.ref a)) ∧ z.M a = some (.dcT (L.map fun t => (t.1, .ref t.2.1))) ∧ (∀ t ∈ L, z.M t.2.1 = some (.lst t.2.2)) ∧ (L.map fun t => t.2.1).Nodup ∧
  Q (.dcT (L.map fun t => (t.1, .lst t.2.2))) ⟨z.ρ.set i (some (.dcT (L.map fun t => (t.1, .lst t.2.2)))), mupd (mdel z.M (L.map fun t => t.2.1)) a none⟩
/-- the dict at a name that holds no lists that change -/
def wFrzT (i : Nat) : WE := fun z Q => ∃ a kvs, z.ρ[i]? = some (some (.ref a)) ∧ z.M a = some (.dcT kvs) ∧ Q (.dcT kvs) ⟨z.ρ.set i (some (.dcT kvs)), mupd z.M a none⟩
end Q
set_option Elab.async false
set_option linter.all false
set_option maxRecDepth 100000
set_option maxHeartbeats 4000000
namespace Q
open PySem PySem.Spec PyProof.Rows L2 My
abbrev Way := List Str
def lastT (a : Way) : Str := a.getLastD ""
section
variable {w : Wb} {f : Rws} {ns : List Str} {ws : List Way} {a b k : Way}
theorem TreeOk.two (ok : TreeOk ns ws) (h : b ∈ ws.tail) : 2 ≤ b.length := by
  obtain ⟨r, rest, e, hr⟩ := ok.root
  rw [e] at h
  exact hr b h
end
end Q
set_option Elab.async false
set_option linter.all false
set_option maxRecDepth 100000
set_option maxHeartbeats 4000000
namespace Q
open PySem PySem.Spec PyProof.Rows L2 My
structure LLg {α : Type} (M M' : Mp) (ns : List α) (ps : List Addr) (F : α → List D) : Prop where
  len : ps.length = ns.length
  nd : ps.Nodup
  fresh : ∀ q ∈ ps, M q = none
  at_ : ∀ x ∈ ns.zip ps, M' x.2 = some (.lst (F x.1))
  le : Mle M M'
section
variable {α : Type} {M M' : Mp} {ns : List α} {ps : List Addr} {F G : α → List D} {p : Addr} {n : α}
theorem zip_fstG {ns : List α} {ps : List Addr} (h : ps.length = ns.length) : (ns.zip ps).map (·.1) = ns := List.map_fst_zip (by omega)
theorem zip_sndG {ns : List α} {ps : List Addr} (h : ps.length = ns.length) : (ns.zip ps).map (·.2) = ps := List.map_snd_zip (by omega)
theorem LLg.mem_at (h : LLg M M' ns ps F) {q : Addr} (hq : q ∈ ps) : ∃ x ∈ ns.zip ps, x.2 = q := by
  rw [← zip_sndG h.len] at hq
  obtain ⟨x, hx, e⟩ := List.mem_map.mp hq
  exact ⟨x, hx, e⟩
theorem LLg.off (h : LLg M M' ns ps F) (hp : M' p = none) : p ∉ ps := fun z => by
  obtain ⟨x, hx, e⟩ := h.mem_at z
  have := h.at_ x hx
  rw [e, hp] at this
  cases this
theorem LLg.nil : LLg M M ([] : List α) [] F := ⟨rfl, List.nodup_nil, (fun _ h => nomatch h), (fun _ h => nomatch h), .refl M⟩
theorem LLg.snoc (h : LLg M M' ns ps F) (hp : M' p = none) (hF : F n = []) : LLg M (mupd M' p (some (.lst []))) (ns ++ [n]) (ps ++ [p]) F where
  len := by rw [List.length_append, List.length_append, h.len]; rfl
  nd := List.nodup_append.mpr ⟨h.nd, by simp, fun a ha b hb e => h.off hp (by rw [List.mem_singleton.mp hb] at e; exact e ▸ ha)⟩
  fresh := fun q hq => by
    rcases List.mem_append.mp hq with hq | hq
    · exact h.fresh q hq
    · rw [List.mem_singleton.mp hq]
      exact h.le.free hp
  at_ := fun x hx => by
    rw [List.zip_append h.len.symm] at hx
    rcases List.mem_append.mp hx with hx | hx
    · rw [mupd_ne (fun e => h.off hp (by rw [← e]; exact (List.of_mem_zip hx).2))]
      exact h.at_ x hx
    · rw [List.mem_singleton.mp hx, mupd_same, hF]
  le := h.le.put (h.le.free hp)
theorem LLg.side {x : Option MO} (h : LLg M M' ns ps F) (hp : M' p = none) : LLg M (mupd M' p x) ns ps F := ⟨h.len, h.nd, h.fresh, fun y hy => by
  rw [mupd_ne (fun e => h.off hp (by rw [← e]; exact (List.of_mem_zip hy).2))]
  exact h.at_ y hy, h.le.put (h.le.free hp)⟩
theorem LLg.add (h : LLg M M' ns ps F) (nd : ns.Nodup) {q : Addr} (hq : (n, q) ∈ ns.zip ps) {d : D} (hG : ∀ m ∈ ns, (m = n → G m = F n ++ [d]) ∧ (m ≠ n → G m = F m)) : LLg M (mupd M' q (some (.lst (F n ++ [d])))) ns ps G where
  len := h.len
  nd := h.nd
  fresh := h.fresh
  at_ := fun x hx => by
    have xm : x.1 ∈ ns := (List.of_mem_zip hx).1
    by_cases e : x.2 = q
    · have := inj_snd (by rw [zip_sndG h.len]; exact h.nd) hx hq e
      subst this
      rw [mupd_same, (hG _ xm).1 rfl]
    · have ne : x.1 ≠ n := fun z => e (congrArg Prod.snd (inj_fst (by rw [zip_fstG h.len]; exact nd) hx hq z))
      rw [mupd_ne e, (hG _ xm).2 ne]
      exact h.at_ x hx
  le := h.le.put (h.fresh q (List.of_mem_zip hq).2)
theorem LLg.get (h : LLg M M' ns ps F) (hn : n ∈ ns) : ∃ q, (n, q) ∈ ns.zip ps := by
  rw [← zip_fstG h.len] at hn
  obtain ⟨x, hx, rfl⟩ := List.mem_map.mp hn
  exact ⟨x.2, hx⟩
end
end Q
set_option Elab.async false
set_option linter.all false
set_option maxRecDepth 100000
set_option maxHeartbeats 4000000
namespace Q
open PySem PySem.Spec PyProof.Rows L2 My
inductive Gz : Z → Z → Prop
  | refl (z : Z) : Gz z z
  | listT {z : Z} {a q : Addr} {us vs : List (List Key × D)} {k : List Key} {ds : List D} : z.M a = some (.dcT (us ++ (k, .ref q) :: vs)) → z.M q = some (.lst ds) → Gz z ⟨z.ρ, mupd (mupd z.M q none) a (some (.dcT (us ++ (k, .lst ds) :: vs)))⟩
  | listK {z : Z} {a q : Addr} {us vs : List (Key × D)} {k : Key} {ds : List D} : z.M a = some (.dct (us ++ (k, .ref q) :: vs)) → z.M q = some (.lst ds) → Gz z ⟨z.ρ, mupd (mupd z.M q none) a (some (.dct (us ++ (k, .lst ds) :: vs)))⟩
theorem hasL_mid {K : PySem.W.Frag} {g g' : Gh} (le : g.le g') {d d' : D} : ∀ {us vs : List D} {xs : List V}, HasL K g xs (us ++ d :: vs) → (∀ v, Has K g v d → Has K g' v d') → HasL K g' xs (us ++ d' :: vs)
  | [], vs, _, .cons h t, k => .cons (k _ h) (t.le le)
  | u :: us, vs, _, .cons h t, k => .cons (h.le le) (hasL_mid le t k)
theorem Gz.go {K : PySem.W.Frag} {g : Gh} {z z' : Z} {σ : L2.St} {H : Hp} (h : Gz z z') (r : RR K g z σ H) : ∃ g', g.le g' ∧ RR K g' z' σ H := by
  cases h with
  | refl => exact ⟨g, .refl g, r⟩
  | @listT a q us vs k ds h1 h2 =>
    obtain ⟨kv, k1, k2, k3⟩ := r.wr.mt h1
    obtain ⟨ws, m1, m2⟩ := r.wr.mt h2
    have ne : a ≠ q := fun e => by rw [e, h2] at h1; cases h1
    have hn := (r.wr.muts _ _ h2).1
    have le := Gh.le_add (o := .lst ws) hn
    have w1 := r.wr.freeze h2 m1
    have hh : Has K (g.add q (.lst ws)) (.ref q) (.lst ds) := has_lst m2 hn
    have h1' : mupd z.M q none a = some (.dcT (us ++ (k, .ref q) :: vs)) := by rw [mupd_ne ne]; exact h1
    obtain ⟨n1, n2, _⟩ := w1.muts _ _ h1'
    have bg : ∀ B, (g.add q (.lst ws)).bg = some B → a ≠ B.b := fun B hB e => by
      obtain ⟨_, _, _, h4, _⟩ := w1.bag B hB
      rw [← e, h1'] at h4
      cases h4
    refine ⟨_, le, w1.open' n1 n2 bg ⟨kv, k1, ?_, ?_⟩ fun _ _ _ q => q, r.sl.le le⟩
    · rw [← k2, List.map_append, List.map_append]
      rfl
    · rw [List.map_append, List.map_cons] at k3 ⊢
      exact hasL_mid le k3 fun v hv => by cases hv; exact hh
  | @listK a q us vs k ds h1 h2 =>
    obtain ⟨kv, k1, k2, k3⟩ := r.wr.mt h1
    obtain ⟨ws, m1, m2⟩ := r.wr.mt h2
    have ne : a ≠ q := fun e => by rw [e, h2] at h1; cases h1
    have hn := (r.wr.muts _ _ h2).1
    have le := Gh.le_add (o := .lst ws) hn
    have w1 := r.wr.freeze h2 m1
    have hh : Has K (g.add q (.lst ws)) (.ref q) (.lst ds) := has_lst m2 hn
    have h1' : mupd z.M q none a = some (.dct (us ++ (k, .ref q) :: vs)) := by rw [mupd_ne ne]; exact h1
    obtain ⟨n1, n2, _⟩ := w1.muts _ _ h1'
    have bg : ∀ B, (g.add q (.lst ws)).bg = some B → a ≠ B.b := fun B hB e => by
      obtain ⟨_, _, _, h4, _⟩ := w1.bag B hB
      rw [← e, h1'] at h4
      cases h4
    refine ⟨_, le, w1.open' n1 n2 bg ⟨kv, k1, ?_, ?_⟩ fun _ _ _ q => q, r.sl.le le⟩
    · rw [← k2, List.map_append, List.map_append]
      rfl
    · rw [List.map_append, List.map_cons] at k3 ⊢
      exact hasL_mid le k3 fun v hv => by cases hv; exact hh
def wGz (w : WS) : WS := fun E z => ∃ z', Gz z z' ∧ w E z'
/-- {k: v} with one key, a tuple -/
def wDisp1T (wk wv : WE) : WE := fun z Q => wk z fun x z1 => wv z1 fun y z2 => ∃ ks, keyT x = some ks ∧ ∀ p, z2.M p = none → Q (.ref p) ⟨z2.ρ, mupd z2.M p (some (.dcT [(ks, y)]))⟩
end Q
set_option Elab.async false
set_option linter.all false
set_option maxRecDepth 100000
set_option maxHeartbeats 4000000
namespace Q
open PySem PySem.Spec PyProof.Rows L2 My
abbrev Lay := List (Way × Rw)
def rowAt (X : Lay) (a : Way) : Rw := (X.lookup a).getD []
/-- a list that lays the tree with its root on r -/
structure Lays (w : Wb) (f : Rws) (ws : List Way) (r : Rw) (X : Lay) : Prop where
  fst : X.map (·.1) = ws
  row : ∀ p ∈ X, p.2 ∈ f (lastT p.1)
  root : ∃ t rest, X = ([t], r) :: rest
  par : ∀ p ∈ X, 2 ≤ p.1.length → ∃ s, (p.1.dropLast, s) ∈ X ∧ agreeF w (lastT p.1.dropLast) s (lastT p.1) p.2 = true
section
variable {w : Wb} {f : Rws} {ns : List Str} {ws : List Way} {a b k : Way} {r s : Rw} {X : Lay} {sel : List Rw → Rw}
theorem lookup_in {X : Lay} (nd : (X.map (·.1)).Nodup) {p : Way × Rw} (h : p ∈ X) : X.lookup p.1 = some p.2 := by
  induction X with
  | nil => cases h
  | cons q X ih =>
    obtain ⟨n1, n2⟩ := List.nodup_cons.mp nd
    rw [List.lookup_cons]
    rcases List.mem_cons.mp h with rfl | h
    · rw [beq_self_eq_true]
    · rw [show (p.1 == q.1) = false from beq_false_of_ne fun e => n1 (List.mem_map.mpr ⟨p, h, e⟩)]
      exact ih n2 h
theorem rowAt_in (nd : (X.map (·.1)).Nodup) {p : Way × Rw} (h : p ∈ X) : rowAt X p.1 = p.2 := by
  unfold rowAt
  rw [lookup_in nd h]
  rfl
theorem TreeOk.cons (ok : TreeOk ns ws) : ∃ t, ws = [t] :: ws.tail ∧ ws.headD [] = [t] := by
  obtain ⟨t, rest, e, _⟩ := ok.root
  exact ⟨t, by rw [e]; rfl, by rw [e]; rfl⟩
theorem take_snoc {i : Nat} (h : ws.tail[i]? = some k) (ok : TreeOk ns ws) : ws.take (i + 2) = ws.take (i + 1) ++ [k] := by
  obtain ⟨t, e, _⟩ := ok.cons
  have h2 : ws[i + 1]? = some k := by rw [e]; exact h
  rw [List.take_succ (i := i + 1), h2]
  rfl
end
end Q
namespace Q
open PySem PySem.Spec PyProof.Rows L2 My
theorem way_two {a : Way} (h : 2 ≤ a.length) : a.dropLast ≠ [] := fun e => by
  have := List.length_dropLast (xs := a)
  rw [e, List.length_nil] at this
  omega
end Q
set_option Elab.async false
set_option linter.all false
set_option maxRecDepth 100000
set_option maxHeartbeats 4000000
namespace Q
open PySem PySem.Spec PyProof.Rows L2 My
section
variable {ns : List Str} {w : Wb} {f g : Rws} {ws us : List Way} {r : Rw} {X : Lay} {k : Str → Int}
/-- a tree without some nodes, as it grows -/
structure CutTo (ws us : List Way) (i : Nat) : Prop where
  sub : us.Sublist (ws.take (i + 1))
  root : ∃ rest, us = ws.headD [] :: rest
  up : ∀ a ∈ us, 2 ≤ a.length → a.dropLast ∈ us
theorem CutTo.start (ok : TreeOk ns ws) : CutTo ws [ws.headD []] 0 := by
  obtain ⟨t, e, e2⟩ := ok.cons
  refine ⟨?_, ⟨[], rfl⟩, fun a ha h2 => ?_⟩
  · rw [e2, e]
    exact List.Sublist.refl _
  · rw [List.mem_singleton.mp ha, e2] at h2
    simp at h2
theorem CutTo.keep {i : Nat} (h : CutTo ws us i) : CutTo ws us (i + 1) := ⟨h.sub.trans (List.take_sublist_take_left (by omega)), h.root, h.up⟩
theorem CutTo.add {i : Nat} {k : Way} (ok : TreeOk ns ws) (h : CutTo ws us i) (hk : ws.tail[i]? = some k) (hu : k.dropLast ∈ us) : CutTo ws (us ++ [k]) (i + 1) := by
  obtain ⟨rest, e⟩ := h.root
  refine ⟨?_, ⟨rest ++ [k], by rw [e]; rfl⟩, fun a ha h2 => ?_⟩
  · rw [take_snoc hk ok]
    exact h.sub.append (List.Sublist.refl _)
  · rcases List.mem_append.mp ha with ha | ha
    · exact List.mem_append_left _ (h.up a ha h2)
    · rw [List.mem_singleton.mp ha]
      exact List.mem_append_left _ hu
theorem CutTo.done {i : Nat} (ok : TreeOk ns ws) (h : CutTo ws us i) : us.Sublist ws ∧ TreeOk ns us := by
  have sub := h.sub.trans (List.take_sublist _ _)
  obtain ⟨t, e, e2⟩ := ok.cons
  obtain ⟨rest, er⟩ := h.root
  refine ⟨sub, fun a ha => ok.way a (sub.subset ha), ok.asc.sublist sub, ⟨t, rest, by rw [er, e2], fun a ha => ?_⟩, h.up, Nat.le_trans sub.length_le ok.few⟩
  rw [er, e2] at sub
  have s2 : rest.Sublist ws.tail := by
    rw [e] at sub
    exact List.cons_sublist_cons.mp sub
  exact ok.two (s2.subset ha)
end
end Q
namespace Q
open PySem PySem.Spec PyProof.Rows L2 My
theorem eqN_l {M : Mp} {x : D} {ds : List D} {Q : KD} (h : look M x = .lst ds) (q : Q (.bl ds.isEmpty) M) : rdEqN x (.lst []) M Q := ⟨ds, h, rfl, q⟩
end Q
set_option Elab.async false
set_option linter.all false
set_option maxRecDepth 100000
set_option maxHeartbeats 4000000
namespace Q
open PySem PySem.Spec PyProof.Rows L2 My
mutual
/-- prints one to one -/
def D.cl : D → Bool
  | .non | .bl _ | .int _ => true
  | .str s => s.cps.toList.all fun c => decide (97 ≤ c ∧ c ≤ 122)
  | .lst ds => D.cls ds
  | .tup ds => D.cls ds
  | _ => false
def D.cls : List D → Bool
  | [] => true
  | x :: xs => x.cl && D.cls xs
end
theorem cls_of : ∀ {ds : List D}, (∀ d ∈ ds, d.cl = true) → D.cls ds = true
  | [], _ => rfl
  | x :: xs, h => by
    rw [D.cls, Bool.and_eq_true]
    exact ⟨h x List.mem_cons_self, cls_of fun d hd => h d (List.mem_cons_of_mem _ hd)⟩
end Q
namespace Q
open PySem PySem.Spec PyProof.Rows L2 My
theorem name_cl {s : Str} (h : Name s) : (D.str s).cl = true := by
  rw [D.cl, List.all_eq_true]
  exact fun c hc => decide_eq_true (by have := h.let c hc; omega)
end Q
set_option Elab.async false
set_option linter.all false
set_option maxRecDepth 100000
set_option maxHeartbeats 4000000
namespace Q
open PySem PySem.Spec PyProof.Rows L2 My
def ltr (c : Nat) : Bool := decide (c = 65) || decide (97 ≤ c ∧ c ≤ 122)
mutual
def D.clo : D → Bool
  | .non | .bl _ | .int _ | .dct _ => true
  | .str s => s.cps.toList.all ltr
  | .lst ds => D.clos ds
  | .tup ds => D.clos ds
  | _ => false
def D.clos : List D → Bool
  | [] => true
  | x :: xs => x.clo && D.clos xs
end
theorem clos_mem : ∀ {ds : List D}, D.clos ds = true → ∀ d ∈ ds, d.clo = true
  | [], _, _, h => nomatch h
  | x :: xs, h, d, hd => by
    rw [D.clos, Bool.and_eq_true] at h
    rcases List.mem_cons.mp hd with rfl | hd
    · exact h.1
    · exact clos_mem h.2 d hd
theorem clos_of : ∀ {ds : List D}, (∀ d ∈ ds, d.clo = true) → D.clos ds = true
  | [], _ => rfl
  | x :: xs, h => by
    rw [D.clos, Bool.and_eq_true]
    exact ⟨h x List.mem_cons_self, clos_of fun d hd => h d (List.mem_cons_of_mem _ hd)⟩
end Q
set_option Elab.async false
set_option linter.all false
set_option maxRecDepth 100000
set_option maxHeartbeats 4000000
namespace Q
open PySem PySem.Spec PyProof.Rows L2 My
/-- a key that is a tuple -/
def NK.isT : NK → Prop
  | .tup _ => True
  | _ => False
def dcGoN (g : WG) (tt : WT) (tk tv : WE) (ρ : List (Option D)) (Q : List (NK × D) → Mp → Prop) : List D → List (NK × D) → Mp → Prop
  | [], acc, M => Q acc M
  | d :: ds, acc, M => g d ⟨ρ, M⟩ fun z2 => tt z2 fun b z3 => if b = true then tk z3 fun y z4 => tv z4 fun v z5 => ∃ k, ofN k = y ∧ NK.isT k ∧ k.depth ≤ 8 ∧ dcGoN g tt tk tv ρ Q ds (putD acc k v) z5.M else dcGoN g tt tk tv ρ Q ds acc z3.M
theorem dcGoN.mono {g : WG} {tt : WT} {tk tv : WE} {ρ : List (Option D)} {Q Q' : List (NK × D) → Mp → Prop} (hg : MonoG g) (ht : MonoT tt) (hk : MonoE tk) (he : MonoE tv) (k : ∀ ds M, Q ds M → Q' ds M) : ∀ ds acc M, dcGoN g tt tk tv ρ Q ds acc M → dcGoN g tt tk tv ρ Q' ds acc M
  | [], acc, M, h => k _ _ h
  | d :: ds, acc, M, h => hg _ _ _ _ (fun z2 h2 => ht _ _ _ (fun b z3 h3 => by
    cases b with
    | true => exact hk _ _ _ (fun y z4 h4 => he _ _ _ (fun v z5 ⟨k', e, e2, e3, h5⟩ => ⟨k', e, e2, e3, dcGoN.mono hg ht hk he k ds _ _ h5⟩) h4) h3
    | false => exact dcGoN.mono hg ht hk he k ds _ _ h3) h2) h
/-- the new dict may change -/
def wDcN (P : Program) (w : World) (wi : WI) (g : WG) (tt : WT) (tk tv : WE) (vs : List Nat) : WE := fun z Q => wi z fun ds z1 => ds.length ≤ sizeLine ∧ dcGoN g tt tk tv (wipeD z1.ρ vs) (fun acc M => ∀ p, M p = none → Q (.ref p) ⟨z1.ρ, mupd M p (some (.dcN P w acc))⟩) ds [] z1.M
end Q
set_option Elab.async false
set_option linter.all false
set_option maxRecDepth 100000
set_option maxHeartbeats 4000000
namespace Q
open PySem PySem.Spec PyProof.Rows L2 My
/-- the top of a node at a column -/
def topN (w : Wb) (c : Str) (a : Way) : Nat → Nat
  | 0 => 0
  | 1 => 1
  | n + 2 => if c ∈ colsF w (a.getD n "") then topN w c a (n + 1) else n + 2
def topF (w : Wb) (c : Str) (a : Way) : Way := a.take (topN w c a a.length)
/-- a place of a node goes with the place of its parent -/
def relF (w : Wb) (k p s : Way) : Bool := (commonF w (lastT k.dropLast) (lastT k)).all fun c => decide (topF w c s = topF w c p)
def placesAt (us : List Way) (t : Str) : List Way := us.filter fun p => decide (lastT p = t)
abbrev MapW := List (Way × Way)
def plAt (X : MapW) (a : Way) : Way := (X.lookup a).getD []
/-- a list that lays the tree with its root on r -/
structure Maps (w : Wb) (us : List Way) (ws : List Way) (r : Way) (X : MapW) : Prop where
  fst : X.map (·.1) = ws
  row : ∀ p ∈ X, p.2 ∈ placesAt us (lastT p.1)
  root : ∃ t rest, X = ([t], r) :: rest
  par : ∀ p ∈ X, 2 ≤ p.1.length → ∃ s, (p.1.dropLast, s) ∈ X ∧ relF w p.1 s p.2 = true
section
variable {w : Wb} {us : List Way} {ns : List Str} {ws : List Way} {a b k : Way} {r s : Way} {X : MapW} {sel : List Way → Way}
theorem lookup_inM {X : MapW} (nd : (X.map (·.1)).Nodup) {p : Way × Way} (h : p ∈ X) : X.lookup p.1 = some p.2 := by
  induction X with
  | nil => cases h
  | cons q X ih =>
    obtain ⟨n1, n2⟩ := List.nodup_cons.mp nd
    rw [List.lookup_cons]
    rcases List.mem_cons.mp h with rfl | h
    · rw [beq_self_eq_true]
    · rw [show (p.1 == q.1) = false from beq_false_of_ne fun e => n1 (List.mem_map.mpr ⟨p, h, e⟩)]
      exact ih n2 h
theorem plAt_in (nd : (X.map (·.1)).Nodup) {p : Way × Way} (h : p ∈ X) : plAt X p.1 = p.2 := by
  unfold plAt
  rw [lookup_inM nd h]
  rfl
end
end Q
set_option Elab.async false
set_option linter.all false
set_option maxRecDepth 100000
set_option maxHeartbeats 4000000
namespace Q
open PySem PySem.Spec PyProof.Rows L2 My
section
variable {w : Wb} {c : Str} {a b : Way}
theorem topN_spec (w : Wb) (c : Str) (a : Way) : ∀ n, 1 ≤ n → 1 ≤ topN w c a n ∧ topN w c a n ≤ n ∧ (∀ i, topN w c a n ≤ i + 1 → i + 1 < n → c ∈ colsF w (a.getD i "")) ∧ (topN w c a n = 1 ∨ c ∉ colsF w (a.getD (topN w c a n - 2) ""))
  | 0, h => absurd h (by decide)
  | 1, _ => ⟨Nat.le_refl _, Nat.le_refl _, fun i _ h => by omega, .inl rfl⟩
  | n + 2, _ => by
    obtain ⟨h1, h2, h3, h4⟩ := topN_spec w c a (n + 1) (by omega)
    by_cases e : c ∈ colsF w (a.getD n "")
    · have t : topN w c a (n + 2) = topN w c a (n + 1) := by show (if _ then _ else _) = _; rw [if_pos e]
      rw [t]
      refine ⟨h1, by omega, fun i hi hn => ?_, h4⟩
      by_cases q : i = n
      · rw [q]; exact e
      · exact h3 i hi (by omega)
    · have t : topN w c a (n + 2) = n + 2 := by show (if _ then _ else _) = _; rw [if_neg e]
      rw [t]
      exact ⟨by omega, Nat.le_refl _, fun i hi hn => by omega, .inr e⟩
/-- how far two ways go together -/
def cpl : List Str → List Str → Nat
  | a :: l, b :: m => if a = b then cpl l m + 1 else 0
  | _, _ => 0
/-- .. the first table counted in any case -/
def mF (a b : Way) : Nat := cpl a.tail b.tail + 1
/-- the tables on the way between two nodes -/
def pathF (a b : Way) : List Str := a.drop (mF a b - 1) ++ b.drop (mF a b - 1)
def tiedF (w : Wb) (a b : Way) : List Str := (colsF w (lastT a)).filter fun c => (pathF a b).all fun t => decide (c ∈ colsF w t)
theorem last_getD (ha : a ≠ []) : a.getD (a.length - 1) "" = lastT a := by
  unfold lastT
  rw [List.getLastD_eq_getLast?, List.getLast?_eq_getElem?, List.getD_eq_getElem?_getD]
end
end Q
set_option Elab.async false
set_option linter.all false
set_option maxRecDepth 100000
set_option maxHeartbeats 4000000
namespace Q
open PySem PySem.Spec PyProof.Rows L2 My
theorem map_injT {α β : Type} {f : α → β} (hf : ∀ x y, f x = f y → x = y) : ∀ {l m : List α}, l.map f = m.map f → l = m
  | [], [], _ => rfl
  | [], _ :: _, h => nomatch h
  | _ :: _, [], h => nomatch h
  | a :: l, b :: m, h => by
    rw [List.map_cons, List.map_cons] at h
    obtain ⟨h1, h2⟩ := List.cons.inj h
    rw [hf _ _ h1, map_injT hf h2]
def wayN (a : Way) : NK := .tup (a.map .text)
theorem wayN_inj {a b : Way} (h : wayN a = wayN b) : a = b := by
  unfold wayN at h
  injection h with h
  exact map_injT (fun x y e => by injection e) h
/-- a way of tables that there are -/
structure WayIn (w : Wb) (a : Way) : Prop where
  ne : a ≠ []
  nm : ∀ s ∈ a, s ∈ w.map (·.1)
  len : a.length ≤ 60
theorem WayIn.up {w : Wb} {a : Way} (h : WayIn w a) (h2 : 2 ≤ a.length) : WayIn w a.dropLast := ⟨way_two h2, fun s hs => h.nm s ((List.dropLast_sublist a).subset hs), by rw [List.length_dropLast]; have := h.len; omega⟩
theorem WayIn.names {w : Wb} {a : Way} (h : WayIn w a) (ok : WebOk w) : ∀ s ∈ a, Name s := fun s hs => ok.nm.ok _ (h.nm s hs)
end Q
set_option Elab.async false
set_option linter.all false
set_option maxRecDepth 100000
set_option maxHeartbeats 4000000
set_option Elab.async false
set_option linter.all false
set_option maxRecDepth 100000
set_option maxHeartbeats 4000000
namespace Q
open PySem PySem.Spec PyProof.Rows L2 My
section
variable {w : Wb} {us vs ws : List Way} {ns ms : List Str} {a b k p s : Way} {r r2 : Way} {X X1 X2 : MapW} {c : Str}
theorem topN_same : ∀ (n : Nat), (∀ i, i + 1 < n → a.getD i "" = b.getD i "") → topN w c a n = topN w c b n
  | 0, _ => rfl
  | 1, _ => rfl
  | n + 2, h => by
    show (if c ∈ colsF w (a.getD n "") then _ else _) = (if c ∈ colsF w (b.getD n "") then _ else _)
    rw [h n (by omega), topN_same (n + 1) fun i hi => h i (by omega)]
theorem drop_getD {i : Nat} (h : i + 1 < a.length) : a.dropLast.getD i "" = a.getD i "" := by
  rw [List.getD_eq_getElem?_getD, List.getD_eq_getElem?_getD, List.dropLast_eq_take, List.getElem?_take, if_pos (by omega)]
theorem up_last (h2 : 2 ≤ a.length) : lastT a.dropLast = a.getD (a.length - 2) "" := by
  rw [← last_getD (way_two h2), List.length_dropLast, show a.length - 1 - 1 = a.length - 2 from by omega]
  exact drop_getD (by omega)
theorem top_up (h2 : 2 ≤ a.length) (h : c ∈ colsF w (lastT a.dropLast)) : topF w c a = topF w c a.dropLast := by
  obtain ⟨n, hn⟩ : ∃ n, a.length = n + 2 := ⟨a.length - 2, by omega⟩
  rw [up_last h2, hn, Nat.add_sub_cancel] at h
  have e1 : topN w c a a.length = topN w c a (n + 1) := by
    rw [hn]
    show (if _ then _ else _) = _
    rw [if_pos h]
  have e2 : topN w c a (n + 1) = topN w c a.dropLast (n + 1) := topN_same _ fun i hi => (drop_getD (by omega)).symm
  have l : a.dropLast.length = n + 1 := by rw [List.length_dropLast, hn]; rfl
  obtain ⟨_, t2, _, _⟩ := topN_spec w c a.dropLast (n + 1) (by omega)
  unfold topF
  rw [e1, l, e2]
  generalize topN w c a.dropLast (n + 1) = m at t2
  rw [List.dropLast_eq_take, List.take_take, hn, Nat.min_eq_left (by omega)]
theorem rel_top : relF w k p s = true ↔ ∀ c ∈ commonF w (lastT k.dropLast) (lastT k), topF w c s = topF w c p := by
  unfold relF
  rw [List.all_eq_true]
  exact forall_congr' fun c => imp_congr_right fun _ => decide_eq_true_iff
theorem rel_self (h2 : 2 ≤ k.length) : relF w k k.dropLast k = true := rel_top.mpr fun c hc => top_up h2 (common_mem.mp hc).1
theorem Maps.nd (ok : TreeOk ns ws) (m : Maps w us ws r X) : (X.map (·.1)).Nodup := by rw [m.fst]; exact asc_nodup ok.asc
theorem Maps.at_ (ok : TreeOk ns ws) (m : Maps w us ws r X) (ha : a ∈ ws) : (a, plAt X a) ∈ X := by
  rw [← m.fst] at ha
  obtain ⟨p, hp, rfl⟩ := List.mem_map.mp ha
  rw [plAt_in (m.nd ok) hp]
  exact hp
/-- made from a place for each node -/
theorem Maps.of {f : Way → Way} (ok : TreeOk ns ws) (hp : ∀ a ∈ ws, f a ∈ us ∧ lastT (f a) = lastT a) (he : ∀ a ∈ ws, 2 ≤ a.length → relF w a (f a.dropLast) (f a) = true) : Maps w us ws (f (ws.headD [])) (ws.map fun a => (a, f a)) := by
  refine ⟨?_, fun p h => ?_, ?_, fun p h h2 => ?_⟩
  · rw [List.map_map]
    exact (List.map_congr_left fun a _ => rfl).trans (List.map_id _)
  · obtain ⟨a, ha, rfl⟩ := List.mem_map.mp h
    exact List.mem_filter.mpr ⟨(hp a ha).1, decide_eq_true (hp a ha).2⟩
  · obtain ⟨t, e, e2⟩ := ok.cons
    refine ⟨t, ws.tail.map fun a => (a, f a), ?_⟩
    conv => lhs; rw [e]
    rw [e2]
    rfl
  · obtain ⟨a, ha, rfl⟩ := List.mem_map.mp h
    exact ⟨f a.dropLast, List.mem_map.mpr ⟨a.dropLast, ok.up a ha h2, rfl⟩, he a ha h2⟩
/-- a tree without some nodes -/
theorem Maps.sub (ok : TreeOk ns ws) (sub : ∀ a ∈ ws, a ∈ us) : Maps w us ws (ws.headD []) (ws.map fun a => (a, a)) :=
  Maps.of (f := fun a => a) ok (fun a ha => ⟨sub a ha, rfl⟩) fun a _ h2 => rel_self h2
variable {f : Rws} {rr : Rw} {L : Lay}
theorem Lays.nd (ok : TreeOk ns ws) (m : Lays w f ws rr L) : (L.map (·.1)).Nodup := by rw [m.fst]; exact asc_nodup ok.asc
theorem Lays.at_ (ok : TreeOk ns ws) (m : Lays w f ws rr L) (ha : a ∈ ws) : (a, rowAt L a) ∈ L := by
  rw [← m.fst] at ha
  obtain ⟨p, hp, rfl⟩ := List.mem_map.mp ha
  rw [rowAt_in (m.nd ok) hp]
  exact hp
theorem Lays.of {g : Way → Rw} (ok : TreeOk ns ws) (hp : ∀ a ∈ ws, g a ∈ f (lastT a)) (he : ∀ a ∈ ws, 2 ≤ a.length → agreeF w (lastT a.dropLast) (g a.dropLast) (lastT a) (g a) = true) : Lays w f ws (g (ws.headD [])) (ws.map fun a => (a, g a)) := by
  refine ⟨?_, fun p h => ?_, ?_, fun p h h2 => ?_⟩
  · rw [List.map_map]
    exact (List.map_congr_left fun a _ => rfl).trans (List.map_id _)
  · obtain ⟨a, ha, rfl⟩ := List.mem_map.mp h
    exact hp a ha
  · obtain ⟨t, e, e2⟩ := ok.cons
    refine ⟨t, ws.tail.map fun a => (a, g a), ?_⟩
    conv => lhs; rw [e]
    rw [e2]
    rfl
  · obtain ⟨a, ha, rfl⟩ := List.mem_map.mp h
    exact ⟨g a.dropLast, List.mem_map.mpr ⟨a.dropLast, ok.up a ha h2, rfl⟩, he a ha h2⟩
end
end Q
set_option Elab.async false
set_option linter.all false
set_option maxRecDepth 100000
set_option maxHeartbeats 4000000
namespace Q
open PySem PySem.Spec PyProof.Rows L2 My
def wKeysT (we : WE) : WI := fun z Q => we z fun d z1 => ∃ kvs, d = .dcT kvs ∧ Q (kvs.map fun p => .tup (p.1.map kD)) z1
end Q
set_option Elab.async false
set_option linter.all false
set_option maxRecDepth 100000
set_option maxHeartbeats 4000000
set_option Elab.async false
set_option linter.all false
set_option maxRecDepth 100000
set_option maxHeartbeats 4000000
namespace Q
open PySem PySem.Spec PyProof.Rows L2 My
section
variable {X : Cx} {g0 : Gh} {e : Expr}
/-- the list at name i is lent while a number, or None, is found -/
def wLendN (i : Nat) (w : WE) : WE := fun z Q => ∃ p ds, z.ρ[i]? = some (some (.ref p)) ∧ z.M p = some (.lst ds) ∧ w ⟨z.ρ.set i (some (.lst ds)), fun _ => none⟩ fun d _ => (d = .non ∨ ∃ j, d = .int j) ∧ Q d z
end
section
variable {w : Wb} {st a b c : List Stp} {t : Str} {f : Rws}
theorem Ten.size (h : Ten w st) (t : Str) : sizeF st t st.length ≤ 144 := size_ten (fun s hs => (h.ok s hs).2.2) h.few t
theorem Ten.erase (h : Ten w st) (k : Nat) : Ten w (st.eraseIdx k) := ⟨by have := h.few; have := List.length_eraseIdx_le st k; omega, fun s hs => h.ok s ((List.eraseIdx_sublist st k).subset hs)⟩
end
end Q
set_option Elab.async false
set_option linter.all false
set_option maxRecDepth 100000
set_option maxHeartbeats 4000000
set_option Elab.async false
set_option linter.all false
set_option maxRecDepth 100000
set_option maxHeartbeats 4000000
set_option Elab.async false
set_option linter.all false
set_option maxRecDepth 100000
set_option maxHeartbeats 4000000
namespace Q
open PySem PySem.Spec PyProof.Rows L2 My
section
variable {X : Cx} {g0 : Gh} {e : Expr} {we : WE}
/-- a dict keyed by tuples stands still from here on -/
def wFzT (w : WE) : WE := fun z Q => w z fun d z1 => ∃ p kvs, d = .ref p ∧ z1.M p = some (.dcT kvs) ∧ Q (.dcT kvs) ⟨z1.ρ, mupd z1.M p none⟩
end
end Q
set_option Elab.async false
set_option linter.all false
set_option maxRecDepth 100000
set_option maxHeartbeats 4000000
namespace Q
open PySem PySem.Spec PyProof.Rows L2 My
section
variable {w : Wb} {us ws : List Way} {ns ms : List Str} {a b k : Way} {c t : Str}
/-- the row of a node in the frozen contents of its tree -/
def frow (w : Wb) (us : List Way) (a : Way) : Rw := (colsF w (lastT a)).map fun c => ((us.idxOf (topF w c a) : Nat) : Int)
end
section
variable {w : Wb} {a b m : List Stp} {f g : Rws} {t : Str}
structure Eight (w : Wb) (st : List Stp) : Prop where
  few : st.length ≤ 8
  ok : ∀ s ∈ st, StP w s
theorem Eight.size (h : Eight w a) (t : Str) : sizeF a t a.length ≤ 55 := Nat.le_trans ((size_most (fun p hp => (h.ok p hp).2.2) a.length).1 t) (Nat.le_trans (most_mono h.few) (by decide))
end
end Q
set_option Elab.async false
set_option linter.all false
set_option maxRecDepth 100000
set_option maxHeartbeats 4000000
set_option Elab.async false
set_option linter.all false
set_option maxRecDepth 100000
set_option maxHeartbeats 4000000
namespace Q
open PySem PySem.Spec PyProof.Rows L2 My
section
variable {w : Wb} {ws : List Way} {M M2 : Mp} {p q : Addr} {ns : List Str} {ps : List Addr} {j : Nat}
theorem LLg.dict {α : Type} {ns : List α} {F : α → List D} {kvs : List (Key × D)} {x : Option MO} (h : LLg M M2 ns ps F) (hp : M2 p = some (.dct kvs)) (hM : M p = none) : LLg M (mupd M2 p x) ns ps F := ⟨h.len, h.nd, h.fresh, fun y hy => by
  have z := h.at_ y hy
  rw [mupd_ne (fun e => by rw [← e] at hp; rw [hp] at z; cases z)]
  exact z, h.le.put hM⟩
def zipS (ns : List Str) (ps : List Addr) : List (Key × D) := (ns.zip ps).map fun q => (.inr q.1, .ref q.2)
def prF (w : Wb) (ws : List Way) (j : Nat) (n : Str) : List Rw := ((ws.take j).filter fun a => decide (lastT a = n)).map (frow w ws)
structure FrI (w : Wb) (ws : List Way) (j : Nat) (M : Mp) (p : Addr) (ns : List Str) (ps : List Addr) (M2 : Mp) : Prop where
  ll : LLg M M2 ns ps fun n => rowsT (prF w ws j n)
  at_ : M2 p = some (.dct (zipS ns ps))
  nd : ns.Nodup
  nm : ∀ n ∈ ns, n ∈ w.map (·.1)
  no : ∀ n, n ∉ ns → prF w ws j n = []
theorem FrI.init (hp : M p = none) : FrI w ws 0 M p [] [] (mupd M p (some (.dct []))) where
  ll := (LLg.nil).side hp
  at_ := mupd_same
  nd := List.nodup_nil
  nm := fun _ h => nomatch h
  no := fun _ _ => rfl
theorem prF_snoc {a : Way} (h : ws[j]? = some a) (n : Str) : prF w ws (j + 1) n = prF w ws j n ++ (if lastT a = n then [frow w ws a] else []) := by
  unfold prF
  rw [List.take_succ, h]
  simp only [Option.toList_some, List.filter_append, List.map_append]
  by_cases e : lastT a = n
  · simp [e]
  · simp [e]
theorem FrI.new (h : FrI w ws j M p ns ps M2) {a : Way} (ha : ws[j]? = some a) (hq : M2 q = none) (hM : M p = none) (hn : lastT a ∉ ns) (hw : lastT a ∈ w.map (·.1)) :
    FrI w ws (j + 1) M p (ns ++ [lastT a]) (ps ++ [q]) (mupd (mupd (mupd M2 q (some (.lst []))) p (some (.dct (putD (zipS ns ps) (.inr (lastT a)) (.ref q))))) q (some (.lst [rowT (frow w ws a)]))) := by
  have nqp : q ≠ p := fun e => by rw [e, h.at_] at hq; cases hq
  have z := h.ll.snoc hq (n := lastT a) (by rw [h.no _ hn]; rfl)
  have hp2 : (mupd M2 q (some (.lst []))) p = some (.dct (zipS ns ps)) := by rw [mupd_ne nqp.symm]; exact h.at_
  have z2 := z.dict (x := some (.dct (putD (zipS ns ps) (.inr (lastT a)) (.ref q)))) hp2 hM
  have nd2 : (ns ++ [lastT a]).Nodup := List.nodup_append.mpr ⟨h.nd, by simp, fun x hx y hy e => hn (by rw [List.mem_singleton] at hy; rw [← hy, ← e]; exact hx)⟩
  have hq2 : (lastT a, q) ∈ (ns ++ [lastT a]).zip (ps ++ [q]) := by
    rw [List.zip_append h.ll.len.symm]
    exact List.mem_append_right _ (List.mem_singleton.mpr rfl)
  refine ⟨?_, ?_, nd2, fun n hn => ?_, fun n hn2 => ?_⟩
  · have e0 : (rowsT (prF w ws j (lastT a)) ++ [rowT (frow w ws a)] : List D) = [rowT (frow w ws a)] := by rw [h.no _ hn]; rfl
    have := z2.add nd2 hq2 (d := rowT (frow w ws a)) (G := fun n => rowsT (prF w ws (j + 1) n)) fun m _ => ⟨fun e => by subst e; rw [prF_snoc ha, if_pos rfl]; unfold rowsT; rw [List.map_append]; rfl, fun e => by rw [prF_snoc ha, if_neg (Ne.symm e), List.append_nil]⟩
    rwa [e0] at this
  · rw [mupd_ne nqp.symm, mupd_same]
    congr 2
    rw [putD_new' (fun z => by
      unfold zipS at z
      rw [List.map_map] at z
      obtain ⟨x, hx, e⟩ := List.mem_map.mp z
      have e : (Sum.inr x.1 : Key) = .inr (lastT a) := e
      exact hn (Sum.inr.inj e ▸ (List.of_mem_zip hx).1))]
    unfold zipS
    rw [List.zip_append h.ll.len.symm, List.map_append]
    rfl
  · rcases List.mem_append.mp hn with k | k
    · exact h.nm n k
    · rw [List.mem_singleton.mp k]
      exact hw
  · have k1 : n ∉ ns := fun z => hn2 (List.mem_append_left _ z)
    have k2 : lastT a ≠ n := fun e => hn2 (List.mem_append_right _ (List.mem_singleton.mpr e.symm))
    rw [prF_snoc ha, if_neg k2, List.append_nil]
    exact h.no n k1
end
end Q
set_option Elab.async false
set_option linter.all false
set_option maxRecDepth 100000
set_option maxHeartbeats 4000000
namespace Q
open PySem PySem.Spec PyProof.Rows L2 My
section
variable {X : Cx}
theorem HasL.erase {K : PySem.W.Frag} {g : Gh} {vs : List V} {ds : List D} (h : HasL K g vs ds) (i : Nat) : HasL K g (vs.eraseIdx i) (ds.eraseIdx i) := by
  rw [List.eraseIdx_eq_take_drop_succ, List.eraseIdx_eq_take_drop_succ]
  exact (h.take _).append (h.drop _)
end
end Q
set_option Elab.async false
set_option linter.all false
set_option maxRecDepth 100000
set_option maxHeartbeats 4000000
namespace Q
open PySem PySem.Spec PyProof.Rows L2 My
section
variable {X : Cx} {P : Program} {w : World}
def gSetN (P : Program) (w : World) (wo wi : WE) : WG := fun d z Q => wo z fun x z1 => wi z1 fun y z2 => ∃ p kvs k, x = .ref p ∧ z2.M p = some (.dcN P w kvs) ∧ ofN k = y ∧ NK.isT k ∧ k.depth ≤ 8 ∧ kvs.length < sizeLine ∧ Q ⟨z2.ρ, mupd z2.M p (some (.dcN P w (putD kvs k d)))⟩
/-- {} for keys that are nested tuples -/
def wDnewN (P : Program) (w : World) : WE := fun z Q => ∀ p, z.M p = none → Q (.ref p) ⟨z.ρ, mupd z.M p (some (.dcN P w []))⟩
end
end Q
set_option Elab.async false
set_option linter.all false
set_option maxRecDepth 100000
set_option maxHeartbeats 4000000
namespace L2
open PySem PySem.Spec PyProof.Rows
theorem tuple_mul1 (l : Addr) (items : Array Value) (n : Nat) (dd : Option Addr) (sl : Array (Option Value)) (u : Tok) :
    Meets (Builtin.«tuple.__mul__» ⟨[.ref l, .int 1 u], []⟩) (fun _ R s => s.heap.get? l = some { cls := .type "tuple", dict := dd, data := .seq items n, slots := sl } ∧ R (.ok (.ret (Value.ref l))) s) :=
  .of_wp fun prog w A R s h => by
    obtain ⟨hp, g, d, tk, os⟩ := s
    obtain ⟨hl, h⟩ := h
    have f1 := AutoSeq1.idx_int
    wp_walk using wpAny_loadPart' hl
    exact ⟨_, rfl, h⟩
theorem tuple_mul0 (l : Addr) (items : Array Value) (n : Nat) (dd : Option Addr) (sl : Array (Option Value)) (u : Tok) (hi : items.isEmpty = false) :
    Meets (Builtin.«tuple.__mul__» ⟨[.ref l, .int 0 u], []⟩) (fun _ R s => s.heap.get? l = some { cls := .type "tuple", dict := dd, data := .seq items n, slots := sl } ∧
      R (.ok (.ret (Value.ref s.heap.objs.size))) { s with heap := s.heap.push { cls := Value.type "tuple", data := Data.seq #[] }, toks := s.toks }) :=
  .of_wp fun prog w A R s h => by
    obtain ⟨hp, g, d, tk, os⟩ := s
    obtain ⟨hl, h⟩ := h
    have f1 := AutoSeq1.idx_int
    wp_walk using wpAny_loadPart' hl
    exact ⟨_, rfl, h⟩
end L2
set_option Elab.async false
set_option linter.all false
set_option maxRecDepth 100000
set_option maxHeartbeats 4000000
namespace Q
open PySem PySem.Spec PyProof.Rows L2 My
section
variable {w : Wb} {ws us : List Way} {ns : List Str} {a b d : Way} {c : Str}
def twoN (a b : Way) : NK := .tup [wayN a, wayN b]
theorem twoN_inj {a b a' b' : Way} (h : twoN a b = twoN a' b') : a = a' ∧ b = b' := by
  unfold twoN at h
  injection h with h
  obtain ⟨h1, h2⟩ := List.cons.inj h
  obtain ⟨h2, _⟩ := List.cons.inj h2
  exact ⟨wayN_inj h1, wayN_inj h2⟩
def tieD (w : Wb) (a b : Way) : D := .tup (sts (tiedF w a b))
theorem valD_putNe {k k' : NK} {v : D} (h : k' ≠ k) (kvs : List (NK × D)) : valD (putD kvs k v) k' = valD kvs k' := by
  unfold putD
  split
  · rename_i hh
    clear hh
    induction kvs with
    | nil => rfl
    | cons q l ih =>
      unfold valD at ih ⊢
      rw [List.map_cons]
      by_cases e : q.1 = k
      · have e2 : ¬ q.1 = k' := fun z => h (z.symm.trans e)
        rw [List.find?_cons_of_neg (by simp [e, Ne.symm h]), List.find?_cons_of_neg (by simp [e2])]
        exact ih
      · by_cases e2 : q.1 = k'
        · rw [if_neg e, List.find?_cons_of_pos (by exact decide_eq_true e2), List.find?_cons_of_pos (by exact decide_eq_true e2)]
        · rw [List.find?_cons_of_neg (by simp [e, e2]), List.find?_cons_of_neg (by simp [e2])]
          exact ih
  · unfold valD
    rw [List.find?_append, List.find?_cons_of_neg (by simp [Ne.symm h])]
    simp
theorem valD_putN {kvs : List (NK × D)} {k k' : NK} {v : D} : valD (putD kvs k v) k' = if k' = k then some v else valD kvs k' := by
  by_cases e : k' = k
  · subst e
    rw [if_pos rfl]
    exact valD_put kvs k' v
  · rw [if_neg e]
    exact valD_putNe e kvs
/-- the ties of some pairs stand in a dict -/
def Ties (w : Wb) (S : Way → Way → Prop) (kvs : List (NK × D)) : Prop := ∀ a b, S a b → valD kvs (twoN a b) = some (tieD w a b)
theorem Ties.put {S : Way → Way → Prop} {kvs : List (NK × D)} (h : Ties w S kvs) (a b : Way) : Ties w (fun x y => S x y ∨ (x = a ∧ y = b)) (putD kvs (twoN a b) (tieD w a b)) := fun x y hs => by
  rw [valD_putN]
  by_cases e : twoN x y = twoN a b
  · obtain ⟨rfl, rfl⟩ := twoN_inj e
    rw [if_pos rfl]
  · rw [if_neg e]
    rcases hs with hs | ⟨rfl, rfl⟩
    · exact h x y hs
    · exact absurd rfl e
end
end Q
set_option Elab.async false
set_option linter.all false
set_option maxRecDepth 100000
set_option maxHeartbeats 4000000
set_option Elab.async false
set_option linter.all false
set_option maxRecDepth 100000
set_option maxHeartbeats 4000000
set_option Elab.async false
set_option linter.all false
set_option maxRecDepth 100000
set_option maxHeartbeats 4000000
namespace Q
open PySem PySem.Spec PyProof.Rows L2 My
def D.noTx : D → Bool
  | .int _ | .tup _ => true
  | _ => false
def D.fstOk : List D → Bool
  | [] => true
  | .tup xs :: _ => xs.isEmpty || xs.any D.noTx
  | .str _ :: _ | .int _ :: _ | .bl _ :: _ | .non :: _ => true
  | _ => false
mutual
def D.clr : D → Bool
  | .scr _ | .bag => false
  | .lst xs => D.fstOk xs && D.clrs xs
  | .tup xs => D.clrs xs
  | .dct kvs => D.clrk kvs
  | .dcT kvs => D.clrT kvs
  | .obj _ fs => D.clrf fs
  | _ => true
def D.clrs : List D → Bool
  | [] => true
  | d :: ds => d.clr && D.clrs ds
def D.clrk : List (Key × D) → Bool
  | [] => true
  | (_, d) :: r => d.clr && D.clrk r
def D.clrT : List (List Key × D) → Bool
  | [] => true
  | (_, d) :: r => d.clr && D.clrT r
def D.clrf : List (Str × D) → Bool
  | [] => true
  | (_, d) :: r => d.clr && D.clrf r
end
def wayLst (ds : List D) : Prop := ∃ (a : Way) (rest : List D), ds = wayD a :: rest ∧ a ≠ []
section
variable {X : Cx} {g0 : Gh} {e : Expr}
/-- the list of ways at name i is lent while a value is made that does not hold it -/
def wLendW (i : Nat) (w : WE) : WE := fun z Q => ∃ p ds, z.ρ[i]? = some (some (.ref p)) ∧ z.M p = some (.lst ds) ∧ wayLst ds ∧ w ⟨z.ρ.set i (some (.lst ds)), fun _ => none⟩ fun d _ => d.clr = true ∧ Q d z
end
end Q
set_option Elab.async false
set_option linter.all false
set_option maxRecDepth 100000
set_option maxHeartbeats 4000000
namespace Q
open PySem PySem.Spec PyProof.Rows L2 My
/-- no built-in type is above or below the class -/
def oddTs : List String := ["list", "str", "NoneType", "int", "tuple", "dict"]
def oddC (K : PySem.W.Frag) (C : Addr) : Bool := oddTs.all fun T => PySem.W.mroIn K C (.type T) == some false && PySem.W.notFirst K C (.type T)
theorem oddC.mro {K : PySem.W.Frag} {C : Addr} {T : String} (h : oddC K C = true) (hT : T ∈ oddTs) : PySem.W.mroIn K C (.type T) = some false := eq_of_beq (Bool.and_eq_true_iff.mp (List.all_eq_true.mp h T hT)).1
end Q
namespace Q
open PySem PySem.Spec PyProof.Rows L2 My
section
variable {X : Cx} {C f : Addr} {den : Den} {k : Nat} {fd : FuncData} {ps : List Str}
/-- o == y, o != y, y == o: y plain data -/
def rdEqX (C : Addr) (den : Den) (n : Bool) (x y : D) (M : Mp) (Q : KD) : Prop := ∃ fs T, inst M x = some (C, fs) ∧ tyNm (look M y) = some T ∧ T ∈ oddTs ∧ den [x, y] M fun r M' => ∃ b, r = .bl b ∧ Q (.bl (xor n b)) M'
theorem rdEqX.mono {C : Addr} {den : Den} {n : Bool} (h : MonoD den) : Mono2 (rdEqX C den n) := fun x y M Q Q' k ⟨fs, T, h1, h2, h4, h3⟩ => ⟨fs, T, h1, h2, h4, h _ _ _ _ (fun r M' ⟨b, e, q⟩ => ⟨b, e, k _ _ q⟩) h3⟩
end
end Q
set_option Elab.async false
set_option linter.all false
set_option maxRecDepth 100000
set_option maxHeartbeats 4000000
namespace Q
open PySem PySem.Spec PySem.Calls PyProof.Rows L2 My
def pairX (p : Str × List Str) : D := .tup [.str p.1, .tux p.2]
theorem dle_lt (a b : D) : dle a b = !PyProof.Rows.lexLt PyProof.Rows.itemOrd (PySem.W.keyToks b.py) (PySem.W.keyToks a.py) := rfl
def sortW (w : Wb) : Wb := w.mergeSort fun p q => dle (pairX p) (pairX q)
theorem dsort_pairX (w : Wb) : dsort (w.map pairX) = (sortW w).map pairX := (List.map_mergeSort (f := pairX) (r := fun p q => dle (pairX p) (pairX q)) (s := dle) (l := w) fun a _ b _ => rfl).symm
def pairK (p : Str × List Str) : NK := .tup [.text p.1, .tup (p.2.map .text)]
theorem ofNs_texts : ∀ ss : List Str, ofNs (ss.map NestedKey.text) = sts ss
  | [] => rfl
  | s :: ss => by
    rw [List.map_cons, ofNs, ofNs_texts ss]
    rfl
theorem pairK_py (p : Str × List Str) : (ofN (pairK p)).py = (pairX p).py := by
  show (D.tup (ofNs [.text p.1, .tup (p.2.map .text)])).py = (D.tup [.str p.1, .tux p.2]).py
  rw [ofNs, ofNs, ofNs, ofN, ofN, ofNs_texts]
  show PyData.tuple [.str p.1, (D.tup (sts p.2)).py] = PyData.tuple [.str p.1, (D.tux p.2).py]
  rw [← tux_py]
theorem texts_alikeD : ∀ a b : List Str, PySem.W.alikeAll (a.map PyData.str) (b.map PyData.str) = true
  | [], _ => by simp [PySem.W.alikeAll]
  | _ :: _, [] => by simp [PySem.W.alikeAll]
  | x :: a, y :: b => by
    rw [List.map_cons, List.map_cons, PySem.W.alikeAll, texts_alikeD a b]
    simp [PySem.W.alike]
theorem pairX_py (p : Str × List Str) : (pairX p).py = .tuple [.str p.1, .tuple (p.2.map .str)] := rfl
theorem pairK_data (p : Str × List Str) : (pairK p).data = (pairX p).py := by
  rw [← pairK_py]
  exact (ofN_py _).symm
theorem pairs_alikeK (w : Wb) : AlikeN (w.map pairK) := fun d hd d' hd' => by
  obtain ⟨k, hk, rfl⟩ := List.mem_map.mp hd
  obtain ⟨k', hk', rfl⟩ := List.mem_map.mp hd'
  obtain ⟨p, hp, rfl⟩ := List.mem_map.mp hk
  obtain ⟨p', hp', rfl⟩ := List.mem_map.mp hk'
  rw [pairK_data, pairK_data, pairX_py, pairX_py]
  simp [PySem.W.alike, PySem.W.alikeAll, texts_alikeD]
def pairY (b : Str → Bool) (p : Str × List Str) : D := .tup [.str p.1, if b p.1 then .tup (sts p.2) else .tux p.2]
theorem pairY_py (b : Str → Bool) (p : Str × List Str) : (pairY b p).py = (pairX p).py := by
  unfold pairY
  split
  · show PyData.tuple [.str p.1, (D.tup (sts p.2)).py] = PyData.tuple [.str p.1, (D.tux p.2).py]
    rw [← tux_py]
  · rfl
theorem pairY_srtOk (w : Wb) (b : Str → Bool) : SrtOk (w.map (pairY b)) := by
  refine ⟨prs_of fun d hd => ?_, fun d hd d' hd' => ?_, .inl fun d hd => ?_, fun y hy => ?_⟩
  · obtain ⟨a, ha, rfl⟩ := List.mem_map.mp hd
    unfold pairY
    split
    · show (D.tup [D.str a.1, .tup (sts a.2)]).pr = true
      rw [D.pr, D.prs, D.prs, D.prs, D.pr, D.pr, prs_of fun d hd => by obtain ⟨s, hs, rfl⟩ := List.mem_map.mp hd; rfl]
      rfl
    · rfl
  · rw [List.map_map] at hd hd'
    obtain ⟨p, hp, rfl⟩ := List.mem_map.mp hd
    obtain ⟨p', hp', rfl⟩ := List.mem_map.mp hd'
    show PySem.W.alike (pairY b p).py (pairY b p').py = true
    rw [pairY_py, pairY_py, pairX_py, pairX_py]
    simp [PySem.W.alike, PySem.W.alikeAll, texts_alikeD]
  · rw [List.map_map] at hd
    obtain ⟨p, hp, rfl⟩ := List.mem_map.mp hd
    exact ⟨_, _, (pairY_py b p).trans (pairX_py _)⟩
  · obtain ⟨p, hp, rfl⟩ := List.mem_map.mp hy
    rw [pairY_py, pairX_py]
    have : ∀ l : List Str, PyData.depthAll (l.map PyData.str) ≤ 1 := by
      intro l
      induction l with
      | nil => simp [PyData.depthAll]
      | cons s l ih => simp only [List.map_cons, PyData.depthAll, PyData.depth]; omega
    have := this p.2
    simp only [PyData.depth, PyData.depthAll]
    omega
theorem sortW_uniq {w v : Wb} (h : w.Perm v) : sortW w = sortW v := by
  have key : ∀ w : Wb, (sortW w).map pairK = nsort (w.map pairK) := fun w => by
    unfold sortW nsort
    refine List.map_mergeSort fun a _ b _ => ?_
    unfold nle
    show dle (pairX a) (pairX b) = _
    rw [dle_lt, dle_lt, pairK_py, pairK_py]
  have e : (sortW w).map pairK = (sortW v).map pairK := by
    rw [key, key]
    refine nle_uniq ((pairs_alikeK w).sub fun k hk => (nsort_perm _).mem_iff.mp hk) ?_ (nsort_pw _) (nsort_pw _)
    exact (nsort_perm _).trans ((h.map _).trans (nsort_perm _).symm)
  refine (List.map_inj_right fun a b h => ?_).mp e
  unfold pairK at h
  injection h with h
  obtain ⟨h1, h2⟩ := List.cons.inj h
  obtain ⟨h2, _⟩ := List.cons.inj h2
  injection h1 with h1
  injection h2 with h2
  have h2 := (List.map_inj_right fun x y z => by injection z).mp h2
  exact Prod.ext h1 h2
end Q
set_option Elab.async false
set_option linter.all false
set_option maxRecDepth 100000
set_option maxHeartbeats 4000000
namespace Q
open PySem PySem.Spec PyProof.Rows L2 My
def colQ (d : D) (ss : List Str) : Prop := d = .tup (sts ss) ∨ d = .tux ss
theorem colQ.of {M : Mp} {x : D} {ss : List Str} (h : colQ (look M x) ss) : colQ x ss := by
  cases x with
  | ref a =>
    unfold Q.look at h
    simp only at h
    split at h <;> rcases h with h | h <;> cases h
  | _ => exact h
theorem colQ.py {d : D} {ss : List Str} (h : colQ d ss) : d.py = (D.tux ss).py := by
  rcases h with rfl | rfl
  · rw [← tux_py]
  · rfl
def isTup : D → Bool
  | .tup _ => true
  | _ => false
theorem colQ.eq {d : D} {ss : List Str} (h : colQ d ss) : d = if isTup d then .tup (sts ss) else .tux ss := by rcases h with rfl | rfl <;> rfl
section
variable {X : Cx} {g0 : Gh} {K : PySem.W.Frag} {g : Gh} {M : Mp} {H : Hp} {v : V} {x : D} {ss : List Str} {wa : WE} {pos : Pos}
def rdSlQ (x : D) (lo hi : Option Int) (M : Mp) (Q : KD) : Prop := ∃ ss tt, colQ (look M x) ss ∧ cutD (sts ss) lo hi = sts tt ∧ ∀ d, colQ d tt → Q d M
def wSlQ (we : WE) (wl wh : WO) : WE := fun z Q => we z fun d z1 => wl z1 fun lo z2 => wh z2 fun hi z3 => rdSlQ d lo hi z3.M fun r M => Q r ⟨z3.ρ, M⟩
end
end Q
set_option Elab.async false
set_option linter.all false
set_option maxRecDepth 100000
set_option maxHeartbeats 4000000
namespace Q
open PySem PySem.Spec PyProof.Rows L2 My
section
variable {X : Cx}
theorem flat_one {α : Type} (c : α) : ∀ n : Nat, (List.replicate n [c]).flatten = List.replicate n c
  | 0 => rfl
  | n + 1 => by rw [List.replicate_succ, List.flatten_cons, flat_one c n]; rfl
/-- (x,) * k -/
def rdMulT (x y : D) (M : Mp) (Q : KD) : Prop := ∃ (c : D) (k : Int), x = .tup [c] ∧ y = .int k ∧ 0 ≤ k ∧ k ≤ 1000 ∧ Q (.tup (List.replicate k.toNat c)) M
theorem d_mulT : DO2 X (binaryOp .Mult) rdMulT := by
  refine ⟨fun x y M Q Q' k ⟨c, i, h1, h2, h3, h4, h5⟩ => ⟨c, i, h1, h2, h3, h4, k _ _ h5⟩, fun pins s σ H v u ov uv Q I rv ru ⟨g, M, x, y, w, hx, hy, c, k, h1, h2, h3, h4, q⟩ => ?_⟩
  subst h2 h1
  cases hy
  obtain ⟨a, vs, rfl, e1, e2⟩ := w.seeT hx (show look M (.tup [c]) = .tup [c] from rfl)
  obtain ⟨v, rfl, hv⟩ := has1 e2
  by_cases hk : 2 ≤ k
  · refine op_repT pins s σ H _ _ ov uv Q I rv ru ⟨a, k, [v], rfl, rfl, SqT.of e1, List.cons_ne_nil _ _, hk, h4, (show 1 ≤ 1000 by decide), fun p hp => ?_⟩
    refine lk_new q w hp (has_tup ?_ (w.hsn hp))
    rw [← flat_one c]
    exact HasL.rep e2 _
  obtain ⟨its, r, ⟨⟨cls, dd, data, sl⟩, ho, hc, n, hd⟩, hs⟩ := I.tuple (SqT.of e1)
  simp only at hc hd
  subst hc hd
  obtain ⟨t, rfl⟩ := ru
  cases (show ov = Value.ref a from rv)
  have hi : its.toArray.isEmpty = false := by
    cases r with
    | cons _ _ => rfl
  obtain rfl | rfl : k = 0 ∨ k = 1 := by omega
  · refine wpAny_binaryOp_repeat_ref (T := "tuple") (U := "int") (by decide) ⟨_, ho, rfl⟩ (fun s' => typeIs_int s' 0 t) noFill_tuple_mul F.fills_int_mul F.slot_int_rmul repeat_tuple F.slot_int_index.lookup
      (call_meets F.slot_int_rmul (typeIs_int s 0 t) F.entry_int_rmul (F.args_int_rmul_2 _ _) (int_rmul_tuple 0 t a its.toArray n dd sl)
        ⟨ho, rfl, ⟨_, ho, rfl⟩, call_meets F.slot_tuple_mul ⟨_, ho, rfl⟩ F.entry_tuple_mul (F.args_tuple_mul_2 _ _) (tuple_mul0 a its.toArray n dd sl t hi) ⟨ho, ?_⟩⟩)
    have hp : H s.heap.objs.size = none := I.hok.fresh (Nat.le_refl _)
    exact ⟨.ref s.heap.objs.size, upd H s.heap.objs.size (.tup []), I.laid (t' := s.toks) (fun b u e => Heap.get?_push_of_some _ e) (Nat.le_refl _) ⟨Nat.zero_le _, [], .nil, IsTup.new _ _⟩, rfl, lk_new q w hp (has_tup .nil (w.hsn hp))⟩
  · refine wpAny_binaryOp_repeat_ref (T := "tuple") (U := "int") (by decide) ⟨_, ho, rfl⟩ (fun s' => typeIs_int s' 1 t) noFill_tuple_mul F.fills_int_mul F.slot_int_rmul repeat_tuple F.slot_int_index.lookup
      (call_meets F.slot_int_rmul (typeIs_int s 1 t) F.entry_int_rmul (F.args_int_rmul_2 _ _) (int_rmul_tuple 1 t a its.toArray n dd sl)
        ⟨ho, rfl, ⟨_, ho, rfl⟩, call_meets F.slot_tuple_mul ⟨_, ho, rfl⟩ F.entry_tuple_mul (F.args_tuple_mul_2 _ _) (tuple_mul1 a its.toArray n dd sl t) ⟨ho, ?_⟩⟩)
    exact ⟨.ref a, H, I, rfl, lk_at q w hx⟩
end
end Q
set_option Elab.async false
set_option linter.all false
set_option maxRecDepth 100000
set_option maxHeartbeats 4000000
namespace L2
open PySem PySem.Spec PyProof.Rows
end L2
namespace Q
open PySem PySem.Spec PyProof.Rows L2 My
theorem isL_eq {d : D} (h : isL d = true) : ∃ ds, d = .lst ds := by
  cases d <;> first | exact ⟨_, rfl⟩ | (cases h; done)
theorem Pl.mem_tup {m : Nat} {ds : List D} (h : Pl m (.tup ds)) {d : D} (hd : d ∈ ds) : Pl m d := by
  have key : ∀ l : List D, (PyData.showableAll (D.pys l) = true → ∀ d ∈ l, d.py.showable = true) ∧ (PyData.leavesShortAll 50 (D.pys l) = true → ∀ d ∈ l, d.py.leavesShort 50 = true) ∧ ∀ d ∈ l, d.py.depth ≤ PyData.depthAll (D.pys l) := by
    intro l
    induction l with
    | nil => exact ⟨(fun _ d h => nomatch h), (fun _ d h => nomatch h), (fun d h => nomatch h)⟩
    | cons x l ih =>
      obtain ⟨i1, i2, i3⟩ := ih
      refine ⟨fun h d hd => ?_, fun h d hd => ?_, fun d hd => ?_⟩
      · simp only [D.pys, PyData.showableAll, Bool.and_eq_true] at h
        rcases List.mem_cons.mp hd with rfl | hd
        · exact h.1
        · exact i1 h.2 d hd
      · simp only [D.pys, PyData.leavesShortAll, Bool.and_eq_true] at h
        rcases List.mem_cons.mp hd with rfl | hd
        · exact h.1
        · exact i2 h.2 d hd
      · simp only [D.pys, PyData.depthAll]
        rcases List.mem_cons.mp hd with rfl | hd
        · exact Nat.le_max_left _ _
        · exact Nat.le_trans (i3 d hd) (Nat.le_max_right _ _)
  obtain ⟨k1, k2, k3⟩ := key ds
  obtain ⟨h1, h2, h3, h4⟩ := h
  simp only [D.pr] at h1
  simp only [D.py, PyData.showable] at h2
  simp only [D.py, PyData.leavesShort] at h3
  simp only [D.py, PyData.depth] at h4
  exact ⟨prs_mem h1 d hd, k1 h2 d hd, k2 h3 d hd, by have := k3 d hd; omega⟩
theorem Pl.mem_lst {m : Nat} {ds : List D} (h : Pl m (.lst ds)) {d : D} (hd : d ∈ ds) : Pl m d := by
  obtain ⟨h1, h2, h3, h4⟩ := h
  exact Pl.mem_tup (ds := ds) ⟨by simpa only [D.pr] using h1, by simpa only [D.py, PyData.showable] using h2, by simpa only [D.py, PyData.leavesShort] using h3, by simpa only [D.py, PyData.depth] using h4⟩ hd
theorem sumW_mem : ∀ {ds : List D} {d : D}, d ∈ ds → d.py.weight + 1 ≤ sumW ds
  | x :: ds, d, h => by
    rw [sumW_cons]
    rcases List.mem_cons.mp h with rfl | h
    · omega
    · have := sumW_mem h
      omega
theorem sumW_subl {a b : List D} (h : a.Sublist b) : sumW a ≤ sumW b := by
  induction h with
  | slnil => exact Nat.le_refl _
  | cons x _ ih => rw [sumW_cons]; omega
  | cons_cons x _ ih => rw [sumW_cons, sumW_cons]; omega
/-- what stands in a row, spoilt or not -/
def Cell (y : D) : Prop := (∃ i : Int, y = .int i ∧ i.natAbs ≤ 10 ^ 39) ∨ (∃ b, y = .bl b) ∨ y = .lst [.int 0]
theorem Cell.cl {y : D} (h : Cell y) : y.cl = true := by
  rcases h with ⟨i, rfl, _⟩ | ⟨b, rfl⟩ | rfl <;> rfl
theorem Cell.pl {y : D} (h : Cell y) : Pl 1 y := by
  rcases h with ⟨i, rfl, h⟩ | ⟨b, rfl⟩ | rfl
  · exact Pl.big h
  · exact Pl.bl
  · exact Pl.lst fun d hd => by
      rw [List.mem_singleton.mp hd]
      exact Pl.int (by decide)
theorem Cell.wt {y : D} (h : Cell y) : y.py.weight ≤ 130 := by
  rcases h with ⟨i, rfl, h⟩ | ⟨b, rfl⟩ | rfl
  · exact wt_big h
  · simp [D.py, PyData.weight]
  · decide
/-- a tuple of three with a tuple in the middle -/
def isT3 : D → Bool
  | .tup [_, .tup _, _] => true
  | _ => false
structure Sol (j : Nat) (z : D) : Prop where
  cl : z.cl = true
  pl : Pl (j + 1) z
  wt : z.py.weight ≤ 20 + 2 * j
theorem Sol.name {j : Nat} {s : Str} (h : Name s) : Sol j (.str s) := ⟨name_cl h, Pl.name h, by have := wt_name h; omega⟩
theorem Sol.up {j k : Nat} {z : D} (h : Sol j z) (q : j ≤ k) : Sol k z := ⟨h.cl, h.pl.mono (by omega), by have := h.wt; omega⟩
structure Rw3 (j : Nat) (d : D) : Prop where
  ex : ∃ (x : Str) (ys : List D) (z : D), d = .tup [.str x, .tup ys, z] ∧ Name x ∧ (∀ y ∈ ys, Cell y) ∧ ys.length ≤ 8 + j ∧ Sol j z
theorem Rw3.up {j k : Nat} {d : D} (h : Rw3 j d) (q : j ≤ k) : Rw3 k d := by
  obtain ⟨x, ys, z, h1, h2, h3, h4, h5⟩ := h.ex
  exact ⟨x, ys, z, h1, h2, h3, by omega, h5.up q⟩
structure Itm (j : Nat) (d : D) : Prop where
  cl : d.cl = true
  pl : Pl (j + 5) d
  t3 : isT3 d = true → Rw3 j d
theorem Itm.up {j k : Nat} {d : D} (h : Itm j d) (q : j ≤ k) : Itm k d := ⟨h.cl, h.pl.mono (by omega), fun e => (h.t3 e).up q⟩
theorem cells_cl {ys : List D} (h : ∀ y ∈ ys, Cell y) : (D.tup ys).cl = true := cls_of fun d hd => (h d hd).cl
theorem cells_pl {ys : List D} (h : ∀ y ∈ ys, Cell y) : Pl 2 (.tup ys) := Pl.tup fun d hd => (h d hd).pl
theorem cells_wt {ys : List D} (h : ∀ y ∈ ys, Cell y) : sumW ys ≤ ys.length * 131 := sumW_le fun d hd => by have := (h d hd).wt; omega
theorem Rw3.wt {j : Nat} {d : D} (h : Rw3 j d) (hj : j ≤ 3) : d.py.weight ≤ 1500 := by
  obtain ⟨x, ys, z, rfl, h2, h3, h4, h5⟩ := h.ex
  have a := wt_name h2
  have b := cells_wt h3
  have c := h5.wt
  have e : sumW [] = 0 := rfl
  rw [wt_tup, sumW_cons, sumW_cons, sumW_cons, wt_tup]
  have := Nat.mul_le_mul_right 131 h4
  omega
structure Tg (j n : Nat) (L : List D) : Prop where
  it : ∀ d ∈ L, Itm j d
  wt : sumW L ≤ n
theorem Tg.up {j k n m : Nat} {L : List D} (h : Tg j n L) (q : j ≤ k) (r : n ≤ m) : Tg k m L := ⟨fun d hd => (h.it d hd).up q, Nat.le_trans h.wt r⟩
theorem Tg.cl {j n : Nat} {L : List D} (h : Tg j n L) : (D.lst L).cl = true := cls_of fun d hd => (h.it d hd).cl
theorem Tg.pl {j n : Nat} {L : List D} (h : Tg j n L) : Pl (j + 6) (.lst L) := Pl.lst fun d hd => (h.it d hd).pl
def Bent37 (j n : Nat) (d : D) : Prop := (∃ L, d = .lst L ∧ Tg j n L) ∨ (isL d = false ∧ Pl (j + 6) d ∧ d.py.weight ≤ n)
theorem Bent37.pl {j n : Nat} {d : D} (h : Bent37 j n d) : Pl (j + 6) d := by
  rcases h with ⟨L, rfl, h⟩ | ⟨_, h, _⟩
  · exact h.pl
  · exact h
theorem Bent37.cl {j n : Nat} {d : D} (h : Bent37 j n d) (e : isL d = true) : d.cl = true := by
  rcases h with ⟨L, rfl, h⟩ | ⟨q, _, _⟩
  · exact h.cl
  · rw [q] at e; cases e
theorem Bent37.wt {j n : Nat} {d : D} (h : Bent37 j n d) : d.py.weight ≤ n := by
  rcases h with ⟨L, rfl, h⟩ | ⟨_, _, h⟩
  · rw [wt_lst]; exact h.wt
  · exact h
theorem Bent37.up {j k n m : Nat} {d : D} (h : Bent37 j n d) (q : j ≤ k) (r : n ≤ m) : Bent37 k m d := by
  rcases h with ⟨L, rfl, h⟩ | ⟨h1, h2, h3⟩
  · exact .inl ⟨L, rfl, h.up q r⟩
  · exact .inr ⟨h1, h2.mono (by omega), Nat.le_trans h3 r⟩
/-- a part of a thing -/
structure Prt (j : Nat) (d : D) : Prop where
  cl : d.cl = true
  pl : Pl (j + 4) d
  wt : d.py.weight ≤ 1400
theorem Prt.name {j : Nat} {s : Str} (h : Name s) : Prt j (.str s) := ⟨name_cl h, Pl.name h, by have := wt_name h; omega⟩
theorem Prt.row {j : Nat} {ys : List D} (h : ∀ y ∈ ys, Cell y) (l : ys.length ≤ 10) : Prt j (.tup ys) := ⟨cells_cl h, (cells_pl h).mono (by omega), by rw [wt_tup]; have := cells_wt h; have := Nat.mul_le_mul_right 131 l; omega⟩
end Q
set_option Elab.async false
set_option linter.all false
set_option maxRecDepth 100000
set_option maxHeartbeats 4000000
namespace Q
open PySem PySem.Spec PyProof.Rows L2 My
def nmB : D → Bool
  | .str s => nameS s
  | _ => false
/-- values that a bent paper has -/
structure Vs (j n : Nat) (L : List D) : Prop where
  clo : ∀ d ∈ L, d.clo = true
  pl : ∀ d ∈ L, Pl j d
  wt : sumW L ≤ n
def odd78a : List D := [.non, .bl true, .bl false, .int (-1), .int 0, .int 1, .int (10 ^ (39 : Int).toNat), .int (-(10 ^ (39 : Int).toNat)), .str "", .str "a", .str "ab", .str "A", .tup [], .tup [.str "a"], .tup [.str "a", .str "a"], .lst [.str "a"], .lst [.int 0], .tup [.int 0], .tup [.bl true], .tup [.int 0, .int (-1)], .tup [.non], .dct [], .dct (mergeD [] [(.inr "a", .int 1)])]
def odd78b : List D := [.tup [.str "a", .int 1], .tup [.tup [.str "a"]], .lst []]
def odd78 (d : D) : List D := odd78a ++ (d :: odd78b) ++ [.tup (List.replicate (900 : Int).toNat (.int 0)), .tup [.str "a", .str "b"]]
def okB (d : D) : Bool := d.clo && d.pr && d.py.showable && d.py.leavesShort 50 && decide (d.py.depth ≤ 15) && decide (d.py.weight ≤ 2000)
theorem okB_ok {d : D} (h : okB d = true) : d.clo = true ∧ Pl 15 d ∧ d.py.weight ≤ 2000 := by
  unfold okB at h
  simp only [Bool.and_eq_true, decide_eq_true_eq] at h
  obtain ⟨⟨⟨⟨⟨h1, h2⟩, h3⟩, h4⟩, h5⟩, h6⟩ := h
  exact ⟨h1, ⟨h2, h3, h4, h5⟩, h6⟩
theorem odd78a_ok : odd78a.all okB = true := by decide +kernel
theorem odd78b_ok : odd78b.all okB = true := by decide +kernel
theorem odd78_ok {d : D} (h1 : d.clo = true) (h2 : Pl 15 d) (h3 : d.py.weight ≤ 12) : ∀ x ∈ odd78 d, x.clo = true ∧ Pl 15 x ∧ x.py.weight ≤ 2000 := fun x hx => by
  unfold odd78 at hx
  rcases List.mem_append.mp hx with hx | hx
  · rcases List.mem_append.mp hx with hx | hx
    · exact okB_ok (List.all_eq_true.mp odd78a_ok x hx)
    · rcases List.mem_cons.mp hx with rfl | hx
      · exact ⟨h1, h2, by omega⟩
      · exact okB_ok (List.all_eq_true.mp odd78b_ok x hx)
  · simp only [List.mem_cons, List.not_mem_nil, or_false] at hx
    rcases hx with rfl | rfl
    · refine ⟨clos_of fun y hy => ?_, Pl.tup fun y hy => ?_, ?_⟩
      · rw [List.eq_of_mem_replicate hy]
        rfl
      · rw [List.eq_of_mem_replicate hy]
        exact Pl.int (by decide)
      · rw [wt_tup, sumW_rep]
        decide
    · exact okB_ok (by decide +kernel)
structure Vl (j n : Nat) (d : D) : Prop where
  clo : d.clo = true
  pl : Pl j d
  wt : d.py.weight ≤ n
theorem Vl.up {j k n m : Nat} {d : D} (h : Vl j n d) (a : j ≤ k) (b : n ≤ m) : Vl k m d := ⟨h.clo, h.pl.mono a, Nat.le_trans h.wt b⟩
theorem Vs.up {j k n m : Nat} {L : List D} (h : Vs j n L) (a : j ≤ k) (b : n ≤ m) : Vs k m L := ⟨h.clo, fun d hd => (h.pl d hd).mono a, Nat.le_trans h.wt b⟩
theorem Vs.lst {j n : Nat} {L : List D} (h : Vs j n L) : Vl (j + 1) n (.lst L) := ⟨clos_of h.clo, Pl.lst h.pl, by rw [wt_lst]; exact h.wt⟩
theorem Vs.tup {j n : Nat} {L : List D} (h : Vs j n L) : Vl (j + 1) n (.tup L) := ⟨clos_of h.clo, Pl.tup h.pl, by rw [wt_tup]; exact h.wt⟩
theorem Vs.nil {j n : Nat} : Vs j n [] := ⟨(fun _ h => nomatch h), (fun _ h => nomatch h), Nat.zero_le _⟩
theorem Vs.cons {j n m : Nat} {d : D} {L : List D} (h : Vl j n d) (k : Vs j m L) : Vs j (n + 1 + m) (d :: L) where
  clo := fun x hx => by
    rcases List.mem_cons.mp hx with rfl | hx
    · exact h.clo
    · exact k.clo x hx
  pl := fun x hx => by
    rcases List.mem_cons.mp hx with rfl | hx
    · exact h.pl
    · exact k.pl x hx
  wt := by
    rw [sumW_cons]
    have := h.wt
    have := k.wt
    omega
theorem Vs.app {j n m : Nat} {A B : List D} (h : Vs j n A) (k : Vs j m B) : Vs j (n + m) (A ++ B) where
  clo := fun x hx => by
    rcases List.mem_append.mp hx with hx | hx
    · exact h.clo x hx
    · exact k.clo x hx
  pl := fun x hx => by
    rcases List.mem_append.mp hx with hx | hx
    · exact h.pl x hx
    · exact k.pl x hx
  wt := by
    rw [sumW_app]
    have := h.wt
    have := k.wt
    omega
theorem Vs.sub {j n : Nat} {A B : List D} (h : Vs j n B) (s : A.Sublist B) : Vs j n A := ⟨fun x hx => h.clo x (s.subset hx), fun x hx => h.pl x (s.subset hx), Nat.le_trans (sumW_subl s) h.wt⟩
theorem Vs.map {j k n : Nat} {A : List D} {f : D → D} (h : Vs j n A) (hf : ∀ x ∈ A, Vl k x.py.weight (f x)) : Vs k n (A.map f) where
  clo := fun x hx => by
    obtain ⟨y, hy, rfl⟩ := List.mem_map.mp hx
    exact (hf y hy).clo
  pl := fun x hx => by
    obtain ⟨y, hy, rfl⟩ := List.mem_map.mp hx
    exact (hf y hy).pl
  wt := by
    have key : ∀ l : List D, (∀ x ∈ l, x ∈ A) → sumW (l.map f) ≤ sumW l := by
      intro l
      induction l with
      | nil => intro _; exact Nat.le_refl _
      | cons x l ih =>
        intro hs
        rw [List.map_cons, sumW_cons, sumW_cons]
        have := ih fun y hy => hs y (List.mem_cons_of_mem _ hy)
        have := (hf x (hs x List.mem_cons_self)).wt
        omega
    exact Nat.le_trans (key A fun _ h => h) h.wt
theorem Vs.mem {j n : Nat} {A : List D} (h : Vs j n A) {x : D} (hx : x ∈ A) : Vl j x.py.weight x := ⟨h.clo x hx, h.pl x hx, Nat.le_refl _⟩
theorem Vl.of_tup {j n : Nat} {ds : List D} (h : Vl j n (.tup ds)) : Vs j n ds := ⟨clos_mem (by simpa only [D.clo] using h.clo), fun d hd => h.pl.mem_tup hd, by have := h.wt; rwa [wt_tup] at this⟩
theorem Vl.of_lst {j n : Nat} {ds : List D} (h : Vl j n (.lst ds)) : Vs j n ds := ⟨clos_mem (by simpa only [D.clo] using h.clo), fun d hd => h.pl.mem_lst hd, by have := h.wt; rwa [wt_lst] at this⟩
end Q
set_option Elab.async false
set_option linter.all false
set_option maxRecDepth 100000
set_option maxHeartbeats 4000000
namespace Q
open PySem PySem.Spec PyProof.Rows L2 My
def rdNeN (x y : D) (M : Mp) (Q : KD) : Prop := ∃ ds, look M x = .lst ds ∧ look M y = .lst [] ∧ Q (.bl (!ds.isEmpty)) M
theorem d_neN {X : Cx} (hu : X.A.units + 64 < cLine) : DO2 X (compareOp .NotEq) rdNeN := by
  refine ⟨fun x y M Q Q' k ⟨ds, h1, h2, h3⟩ => ⟨ds, h1, h2, k _ _ h3⟩, fun pins s σ H v u ov uv Q I rv ru ⟨g, M, x, y, w, hx, hy, ds, h1, h2, h3⟩ => ?_⟩
  obtain ⟨p, xs, rfl, k1, k2⟩ := w.seeL hx h1
  obtain ⟨r, ys, rfl, m1, m2⟩ := w.seeL hy h2
  cases m2
  cases k2 with
  | nil =>
    refine (d_ne hu).run pins s σ H _ _ ov uv Q I rv ru ⟨g, M, x, y, w, hx, hy, ?_⟩
    unfold rdEq
    rw [h1, h2]
    exact ⟨by decide, by decide, h3⟩
  | cons ka kb =>
    obtain rfl : ov = Value.ref p := rv
    obtain rfl : uv = Value.ref r := ru
    obtain ⟨its, rv1, p1, z1⟩ := I.list (SqL.of k1)
    obtain ⟨its2, rv2, p2, z2⟩ := I.list (SqL.of m1)
    cases rv2
    have hq := lk_at h3 w (.bl _)
    cases rv1 with
    | cons _ _ =>
      first
        | exact PySem.SeqAt.RcNeAt.lists_lengths p1.isList p2.isList (by simp) (by omega) _ _ _ _ ⟨.bl true, H, I, rfl, hq⟩
        | exact PySem.SeqRoads2.RcNeAt.lists_lengths p1.isList p2.isList (by simp) (by omega) _ _ _ _ ⟨.bl true, H, I, rfl, hq⟩
        | exact PySem.RcNeAt.lists_lengths p1.isList p2.isList (by simp) (by omega) _ _ _ _ ⟨.bl true, H, I, rfl, hq⟩
end Q
set_option Elab.async false
set_option linter.all false
set_option maxRecDepth 100000
set_option maxHeartbeats 4000000
namespace Q
open PySem PySem.Spec PyProof.Rows L2 My
section
variable {X : Cx} {g0 : Gh} {k : Nat} {f C : Addr} {fd : FuncData} {ps : List Str} {den : DenX} {x : Str} {p pos : Pos} {e : Expr} {es : List Expr} {wa : WA} {xc : XC}
theorem run_makeGS {CX : CXT} {ds : List Value} {dvs : List V} {sp : Sp} {E : XK} {pins : List (Addr × Obj)} {σ : L2.St} {H : Hp} {s : Shared} {Q : VK} {us : List Value} {vs : List V} (M : L2.Mk X.K C f) (F : FnG X.prog X.w X.K X.mg X.base CX k f fd ps sp) (hr : Room (k + 1) X.A) (hgd : X.A.guards = some []) (hb : Binds X.K fd ps ds) (hd : Vals dvs ds)
    (hx : PassesAt CX X σ E) (I : Inv X pins σ H s) (r : Vals vs us)
    (h : ∀ x dx, H x = none → H dx = none → dx ≠ x → sp (.ref x :: (vs ++ dvs)) (upd (upd H dx (.own x)) x (.ins C dx [])) (fun v H2 => v = .non ∧ Q (.ref x) H2) E) :
    wpAny (model X.prog X.w) X.A (call (.ref C) us) (EP X pins σ Q) X.xe s := by
  have hq := h (s.heap.objs.size + 1) s.heap.objs.size (I.hok.fresh (Nat.le_succ _)) (I.hok.fresh (Nat.le_refl _)) (Nat.ne_of_lt (Nat.lt_succ_self _))
  have I2 := Inv.made (C := C) I
  have r2 : Vals (V.ref (s.heap.objs.size + 1) :: (vs ++ dvs)) (Value.ref (s.heap.objs.size + 1) :: (us ++ ds)) := .cons rfl (r.append hd)
  have hl : (Value.ref (s.heap.objs.size + 1) :: us ++ ds).length = ps.length := by
    have e := r2.length
    rw [F.len _ _ _ _ hq] at e
    exact e.symm
  have hgd' : (X.A.under (.builtin "type.__call__" ⟨.ref C :: us, []⟩)).guards = some [] := by
    rw [← hgd]
    rfl
  refine wpAny_call (make_map (f := f) I.kIn M.makes M.init (beq_iff_eq.mp M.fn) (codeAny_mono (F.run _ X.stack _ _ ⟨Value.ref (s.heap.objs.size + 1) :: us, []⟩ (Value.ref (s.heap.objs.size + 1) :: (us ++ ds)) _ _ E (hr.make C us []) hgd'
    (I2.env0.make C us []) (hb _ (Value.ref (s.heap.objs.size + 1) :: us) I2.kIn hl) r2 hq) fun r s' hq' => ?_))
  cases r with
  | error e => exact hx pins _ _ e s' I2 hq'
  | ok fl =>
    cases fl with
    | ret u =>
      obtain ⟨v, H', I3, rv, ev, q3⟩ := I2.after hq'
      subst ev
      exact ⟨rv, ⟨V.ref (s.heap.objs.size + 1), H', I3, rfl, q3⟩⟩
    | next => exact False.elim hq'
    | brk => exact False.elim hq'
    | cont => exact False.elim hq'
theorem pe_makeGS {CX : CXT} {sp : Sp} {E : L2.St → XK} {t : TA} (M : L2.Mk X.K C f) (F : FnG X.prog X.w X.K X.mg X.base CX k f fd ps sp) (hr : Room (k + 1) X.A) (hgd : X.A.guards = some []) (hg : Gl X x) (hm : X.mg x = some (.ref C)) (hb : Binds X.K fd ps []) (hx : ∀ σ, PassesAt CX X σ (E σ))
    (ha : PA X (e :: es) t) (hdb : (x == ("__debug__" : Str)) = false := by decide) (he : starEach (e :: es) X.env = (false, eval e X.env) :: starEach es X.env := by rfl) (hpl : (backTo pos (starEach es X.env)).any (·.1) = false := by rfl) :
    PE X (.Call (.Name x p) (e :: es) [] pos) (fun σ H Q => t σ H fun vs H1 => ∀ x dx, H1 x = none → H1 dx = none → dx ≠ x → sp (.ref x :: vs) (upd (upd H1 dx (.own x)) x (.ins C dx [])) (fun v H2 => v = .non ∧ Q (.ref x) H2) (E σ)) := by
  refine ⟨fun pins s σ H Q I h => ?_⟩
  refine wpAny_Call_Name_kw (ld_glob I hg hm ?_ hdb)
  refine PySem.W.callWith_K (h₀ := X.base) I.ok.mod.kin M.kp (thn (ha.run pos pins s σ H _ I h) fun us s1 ⟨vs, H1, I1, r, q⟩ => ⟨I1.kIn, ?_⟩) he hpl
  exact run_makeGS (dvs := []) (ds := []) M F hr hgd hb .nil (hx σ) I1 r (by rw [List.append_nil]; exact q)
def wMakeE (C : Addr) (den : DenX) (xc : XC) (wa : WA) : WE := fun z Q => wa z fun ds z1 => ∀ p, z1.M p = none → den (.ref p :: ds) (mupd z1.M p (some (.ins C []))) (fun r M => r = .non ∧ ∃ fs, M p = some (.ins C fs) ∧ Q (.obj C fs) ⟨z1.ρ, mupd M p none⟩) (fun C' fs' M => xc C' fs' ⟨z1.ρ, M⟩)
theorem qe_makeE (Mk : L2.Mk X.K C f) (F : FnG X.prog X.w X.K X.mg X.base (L2.CX X.prog X.w) k f fd ps (spE X.K den)) (hmo : MonoDX den) (tk : TkQ X g0 xc) (hr : Room (k + 1) X.A) (hgd : X.A.guards = some []) (hm : X.mg x = some (.ref C)) (hb : Binds X.K fd ps [])
    (ha : QA X g0 (e :: es) wa) (hg : Gl X x := by rfl) (hdb : (x == ("__debug__" : Str)) = false := by decide) (he : starEach (e :: es) X.env = (false, eval e X.env) :: starEach es X.env := by rfl) (hpl : (backTo pos (starEach es X.env)).any (·.1) = false := by rfl) :
    QE X g0 (.Call (.Name x p) (e :: es) [] pos) (wMakeE C den xc wa) := by
  obtain ⟨W, t, htk⟩ := tk.ex
  refine ⟨fun z Q Q' k h => ha.mono _ _ _ (fun ds z1 h1 p hp => hmo _ _ _ _ _ _ (fun r M ⟨q1, fs, q2, q3⟩ => ⟨q1, fs, q2, k _ _ q3⟩) (fun _ _ _ q => q) (h1 p hp)) h, (pe_makeGS Mk F hr hgd hg hm hb (fun σ => passAt t σ) ha.run hdb he hpl).imp fun σ H Q ⟨g, z, l0, r, h⟩ => ⟨g, z, l0, r, ha.mono _ _ _ (fun ds z1 h1 vs g1 H1 e1 r1 a1 x dx hx hdx ne => ?_) h⟩⟩
  have le := Gh.le_add (o := .own x) (r1.wr.hsn hdx)
  refine ⟨_, _, .ref x :: ds, r1.wr.made hx hdx ne, .cons (.ref x) (a1.le le), hmo _ _ _ _ _ _ (fun rr M h2 v g2 H2 e2 w2 a2 => ?A) (fun C' fs' M q g3 H3 d' e3 w3 er => htk C' fs' ⟨z1.ρ, M⟩ g3 σ H3 d' (((l0.trans e1).trans le).trans e3) ⟨w3, (r1.sl.le le).le e3⟩ er q) (h1 x (r1.wr.mtn hx))⟩
  case A =>
    obtain ⟨q1, fs, q2, q3⟩ := h2
    subst q1
    cases a2
    obtain ⟨dx', fvs, h6, h7, h8, h9⟩ := w2.mt q2
    have le2 := Gh.le_add (o := .ins C dx' fvs) (w2.muts _ _ q2).1
    exact ⟨rfl, q3 (.ref x) _ H2 (((e1.trans le).trans e2).trans le2) ⟨w2.freeze q2 h6, ((r1.sl.le le).le e2).le le2⟩ (.obj Gh.add_same (le2.hs _ _ h7) h8 (h9.le le2))⟩
end
end Q
set_option Elab.async false
set_option linter.all false
set_option maxRecDepth 100000
set_option maxHeartbeats 4000000
namespace Q
open PySem PySem.Spec PyProof.Rows L2 My
def txD : D → Str
  | .str s => s
  | _ => ⟨#[]⟩
/-- the parts of a list or a tuple -/
def ptD : D → Option (List D)
  | .lst ds => some ds
  | .tup ds => some ds
  | _ => none
/-- a table: its name, its columns as they are handed in -/
def tabD : D → Option (Str × List Str)
  | .tup [.str n, y] => match ptD y with
    | some ds => if nameS n = true ∧ ds.all nmB = true ∧ (ds.map txD).Nodup then some (n, ds.map txD) else none
    | none => none
  | _ => none
theorem nms_tx : ∀ {ds : List D}, ds.all nmB = true → ds = sts (ds.map txD) ∧ ∀ s ∈ ds.map txD, Name s
  | [], _ => ⟨rfl, fun s h => nomatch h⟩
  | d :: ds, h => by
    rw [List.all_cons, Bool.and_eq_true] at h
    obtain ⟨e, hs⟩ := nms_tx h.2
    have h1 := h.1
    cases d <;> first | (cases h1; done) | skip
    rename_i s
    refine ⟨?_, fun t ht => ?_⟩
    · show D.str s :: ds = D.str s :: sts (ds.map txD)
      rw [← e]
    · rcases List.mem_cons.mp ht with rfl | ht
      · exact h1
      · exact hs t ht
theorem tabD_eq {d : D} {n : Str} {cs : List Str} (h : tabD d = some (n, cs)) : ∃ y, d = .tup [.str n, y] ∧ (y = .lst (sts cs) ∨ y = .tup (sts cs)) ∧ Name n ∧ Names cs := by
  unfold tabD at h
  split at h
  · rename_i n' y
    split at h
    · rename_i ds e
      split at h
      · rename_i hc
        obtain ⟨h1, h2, h3⟩ := hc
        cases h
        obtain ⟨e1, e2⟩ := nms_tx h2
        refine ⟨y, rfl, ?_, h1, ⟨h3, e2⟩⟩
        rw [← e1]
        cases y <;> first | (cases e; done) | skip
        · cases e; exact .inr rfl
        · cases e; exact .inl rfl
      · cases h
    · cases h
  · cases h
mutual
/-- no held tuple of texts, no object within -/
def D.nx : D → Bool
  | .non | .bl _ | .int _ | .str _ | .dct _ => true
  | .lst ds => D.nxs ds
  | .tup ds => D.nxs ds
  | _ => false
def D.nxs : List D → Bool
  | [] => true
  | x :: xs => x.nx && D.nxs xs
end
theorem nxs_mem : ∀ {ds : List D}, D.nxs ds = true → ∀ d ∈ ds, d.nx = true
  | [], _, _, h => nomatch h
  | x :: xs, h, d, hd => by
    rw [D.nxs, Bool.and_eq_true] at h
    rcases List.mem_cons.mp hd with rfl | hd
    · exact h.1
    · exact nxs_mem h.2 d hd
theorem nxs_of : ∀ {ds : List D}, (∀ d ∈ ds, d.nx = true) → D.nxs ds = true
  | [], _ => rfl
  | x :: xs, h => by
    rw [D.nxs, Bool.and_eq_true]
    exact ⟨h x List.mem_cons_self, nxs_of fun d hd => h d (List.mem_cons_of_mem _ hd)⟩
theorem pr_ty3 {M : Mp} {d : D} (h : d.pr = true) (hx : d.nx = true) : ∃ T, tyNm (look M d) = some T ∧ kitBs T ["list", "tuple"] = some (ptD d).isSome := by
  cases d <;> first
    | (exact ⟨_, rfl, by simp only [ptD, Option.isSome_some, Option.isSome_none]; decide +kernel⟩)
    | (simp [D.pr] at h; done)
    | (simp [D.nx] at hx; done)
/-- the columns, if they are names, are not too many for a set -/
def Cfew (d : D) : Prop := ∀ u y ds, d = .tup [u, y] → ptD y = some ds → ds.all nmB = true → ds.length ≤ 60
def den_is_tableD : Den := fun ds M Q => ∃ d : D, ds = [d] ∧ d.nx = true ∧ d.pr = true ∧ (d.py.weight ≤ 200000 ∧ Cfew d) ∧ Q (.bl (tabD d).isSome) M
theorem mo_is_tableD : MonoD den_is_tableD := fun ds M Q Q' k ⟨d, h1, h2, h3, h4, h5⟩ => ⟨d, h1, h2, h3, h4, k _ _ h5⟩
theorem ln_is_tableD : ∀ ds M Q, den_is_tableD ds M Q → ds.length = 1 := fun ds M Q ⟨_, h1, _⟩ => by rw [h1]; rfl
abbrev den_l_is_table := den_is_tableD
theorem mo_l_is_table : MonoD den_l_is_table := mo_is_tableD
theorem ln_l_is_table : ∀ ds M Q, den_l_is_table ds M Q → ds.length = 1 := ln_is_tableD
def den_l_is_name : Den := fun ds M Q => ∃ d : D, ds = [d] ∧ d.pr = true ∧ d.py.weight ≤ 200000 ∧ Q (.bl (nmB d)) M
theorem mo_l_is_name : MonoD den_l_is_name := fun ds M Q Q' k ⟨d, h1, h2, h3, h4⟩ => ⟨d, h1, h2, h3, k _ _ h4⟩
theorem ln_l_is_name : ∀ ds M Q, den_l_is_name ds M Q → ds.length = 1 := fun ds M Q ⟨_, h1, _⟩ => by rw [h1]; rfl
theorem tabD_none1 {d : D} (h : isT d = false) : tabD d = none := by cases d <;> first | rfl | (cases h; done)
theorem tabD_len {xs : List D} (h : xs.length ≠ 2) : tabD (.tup xs) = none := by
  unfold tabD
  split
  · rename_i h2
    cases h2
    exact absurd rfl h
  · rfl
theorem tabD_two (n : Str) (y : D) : tabD (.tup [.str n, y]) = match ptD y with
    | some ds => if nameS n = true ∧ ds.all nmB = true ∧ (ds.map txD).Nodup then some (n, ds.map txD) else none
    | none => none := rfl
theorem tabD_nm {n : Str} {y : D} (h : nameS n = false) : tabD (.tup [.str n, y]) = none := by
  rw [tabD_two]
  cases ptD y with
  | none => rfl
  | some ds =>
    show (if nameS n = true ∧ ds.all nmB = true ∧ (ds.map txD).Nodup then some (n, ds.map txD) else none) = none
    rw [if_neg (fun k => by rw [h] at k; cases k.1)]
end Q
set_option Elab.async false
set_option linter.all false
set_option maxRecDepth 100000
set_option maxHeartbeats 4000000
namespace Q
open PySem PySem.Spec PyProof.Rows L2 My
def colsB : D → Bool
  | .tup [_, .lst _] => true
  | _ => false
def rowO (d : D) : Option Row := (tabD d).map fun p => ⟨p.1, p.2, colsB d⟩
theorem rowO_eq {d : D} {r : Row} (h : rowO d = some r) : d = rowD r ∧ Name r.nm ∧ Names r.cs := by
  obtain ⟨⟨n, cs⟩, e, rfl⟩ := Option.map_eq_some_iff.mp h
  obtain ⟨y, rfl, hy, h1, h2⟩ := tabD_eq e
  refine ⟨?_, h1, h2⟩
  rcases hy with rfl | rfl <;> rfl
theorem rowO_some {d : D} (h : (tabD d).isSome = true) : ∃ r, rowO d = some r := by
  obtain ⟨p, hp⟩ := Option.isSome_iff_exists.mp h
  exact ⟨_, by unfold rowO; rw [hp]; rfl⟩
theorem rowO_none {d : D} (h : (tabD d).isSome = false) : rowO d = none := by
  unfold rowO
  have e : tabD d = none := Option.not_isSome_iff_eq_none.mp (by rw [h]; exact Bool.false_ne_true)
  rw [e]
  rfl
/-- the different columns of some tables -/
def rowsU (rows : List Row) : List Str := ddp (rows.flatMap (·.cs))
/-- the tables of a list, or the index of the first item that is none -/
def scanQ : List Row → List D → Sum Nat (List Row)
  | rows, [] => .inr rows
  | rows, d :: ds => match rowO d with
    | some r => if r.nm ∈ rows.map (·.nm) ∨ 8 < (rowsU (rows ++ [r])).length then .inl rows.length else scanQ (rows ++ [r]) ds
    | none => .inl rows.length
theorem scanQ_none {rows : List Row} {d : D} {ds : List D} (h : rowO d = none) : scanQ rows (d :: ds) = .inl rows.length := by
  rw [scanQ, h]
theorem scanQ_bad {rows : List Row} {d : D} {ds : List D} {r : Row} (h : rowO d = some r) (k : r.nm ∈ rows.map (·.nm) ∨ 8 < (rowsU (rows ++ [r])).length) : scanQ rows (d :: ds) = .inl rows.length := by
  rw [scanQ, h]
  show (if _ then _ else _) = _
  rw [if_pos k]
theorem scanQ_ok {rows : List Row} {d : D} {ds : List D} {r : Row} (h : rowO d = some r) (k : ¬ (r.nm ∈ rows.map (·.nm) ∨ 8 < (rowsU (rows ++ [r])).length)) : scanQ rows (d :: ds) = scanQ (rows ++ [r]) ds := by
  rw [scanQ, h]
  show (if _ then _ else _) = _
  rw [if_neg k]
/-- how many keys a dict has whose keys are some texts -/
theorem keys_many {kd : List (Key × D)} {L : List Str} (h : (kd.map (·.1)).Nodup) (k1 : ∀ k ∈ kd.map (·.1), ∃ c ∈ L, k = .inr c) (k2 : ∀ c ∈ L, (.inr c : Key) ∈ kd.map (·.1)) : kd.length = (ddp L).length := by
  refine Nat.le_antisymm (keys_few h fun k hk => ?_) ?_
  · obtain ⟨c, hc, e⟩ := k1 k hk
    exact ⟨c, mem_ddp.mpr hc, e⟩
  · have nd : ((ddp L).map (Sum.inr : Str → Key)).Nodup := inr_nd (nodup_ddp L)
    have := nd.length_le_of_subset (l₂ := kd.map (·.1)) fun k hk => by
      obtain ⟨c, hc, rfl⟩ := List.mem_map.mp hk
      exact k2 c (mem_ddp.mp hc)
    simpa using this
def atE (i : Nat) : List (Str × D) := [("at", .int i)]
def placeE (i : Nat) : List (Str × D) := [("place", .int i)]
def den_Question___init__E (C CW CB : Addr) : DenX := fun ds M Q X => ∃ p t, ds = [.ref p, t] ∧ M p = some (.ins C []) ∧ (t.nx = true ∧ t.pr = true ∧ t.py.weight ≤ 200000 ∧ ∀ l, ptD t = some l → ∀ d ∈ l, Cfew d) ∧
  ((ptD t = none ∧ X CW (placeE 0) M) ∨ ∃ l, ptD t = some l ∧ (((l.length < 1 ∨ 6 < l.length) ∧ X CW (placeE 0) M) ∨ (1 ≤ l.length ∧ l.length ≤ 6) ∧
    ((∃ i, scanQ [] l = .inl i ∧ X CB (atE i) M) ∨ ∃ rows, scanQ [] l = .inr rows ∧ Q .non (mupd M p (some (.ins C [("held", .dct (heldD (webOf rows)))]))))))
theorem mo_Question___init__E {C CW CB : Addr} : MonoDX (den_Question___init__E C CW CB) := fun ds M Q Q' X X' k kx ⟨p, t, h1, h2, h3, h4⟩ => ⟨p, t, h1, h2, h3, h4.imp (fun ⟨a, b⟩ => ⟨a, kx _ _ _ b⟩) fun ⟨l, a, b⟩ => ⟨l, a, b.imp (fun ⟨c, d⟩ => ⟨c, kx _ _ _ d⟩) fun ⟨c, d⟩ => ⟨c, d.imp (fun ⟨i, e, x⟩ => ⟨i, e, kx _ _ _ x⟩) fun ⟨r, e, x⟩ => ⟨r, e, k _ _ x⟩⟩⟩⟩
theorem ln_Question___init__E {C CW CB : Addr} : ∀ ds M Q X, den_Question___init__E C CW CB ds M Q X → ds.length = 2 := fun ds M Q X ⟨_, _, h1, _⟩ => by rw [h1]; rfl
theorem mergeD_has : ∀ {more kvs : List (Key × D)} {k : Key}, (k ∈ kvs.map (·.1) ∨ k ∈ more.map (·.1)) → k ∈ (mergeD kvs more).map (·.1)
  | [], kvs, k, h => h.elim (fun h => h) fun h => nomatch h
  | (a, v) :: more, kvs, k, h => by
    show k ∈ (mergeD (putD kvs a v) more).map (·.1)
    refine mergeD_has ?_
    by_cases q : a ∈ kvs.map (·.1)
    · rw [putD_keys q]
      rcases h with h | h
      · exact .inl h
      · rw [List.map_cons] at h
        rcases List.mem_cons.mp h with rfl | h
        · exact .inl q
        · exact .inr h
    · rw [putD_new q, List.map_append]
      rcases h with h | h
      · exact .inl (List.mem_append.mpr (.inl h))
      · rw [List.map_cons] at h
        rcases List.mem_cons.mp h with rfl | h
        · exact .inl (List.mem_append.mpr (.inr (by simp)))
        · exact .inr h
theorem pt_or {t : D} {l : List D} (h : ptD t = some l) : t = .lst l ∨ t = .tup l := by
  cases t <;> first | (cases h; done) | (cases h; exact .inl rfl) | (cases h; exact .inr rfl)
theorem cols_few {r : Row} (h : Cfew (rowD r)) (hs : Names r.cs) : r.cs.length ≤ 60 := by
  have a : (sts r.cs).all nmB = true := by
    rw [List.all_eq_true]
    intro d hd
    obtain ⟨c, hc, rfl⟩ := List.mem_map.mp hd
    exact hs.ok c hc
  obtain ⟨n, cs, b⟩ := r
  cases b
  · have := h (.str n) (.tup (sts cs)) (sts cs) rfl rfl a
    rwa [len_sts] at this
  · have := h (.str n) (.lst (sts cs)) (sts cs) rfl rfl a
    rwa [len_sts] at this
/-- how it stands in the loop of Question's `__init__` -/
structure QEt (M : Mp) (pf pk : Addr) (l : List D) (done : List Row) (i : Nat) (M' : Mp) : Prop where
  ne : pf ≠ pk
  f1 : M pf = none
  f2 : M pk = none
  h1 : M' pf = some (.dct (fdD done))
  h2 : ∃ kd, M' pk = some (.dct kd) ∧ (kd.map (·.1)).Nodup ∧ (∀ k ∈ kd.map (·.1), ∃ c ∈ done.flatMap (·.cs), k = .inr c) ∧ ∀ c ∈ done.flatMap (·.cs), (.inr c : Key) ∈ kd.map (·.1)
  le : Mle M M'
  n : done.length = i
  nd : (done.map (·.nm)).Nodup
  nm : ∀ r ∈ done, Name r.nm ∧ Names r.cs
  few : (rowsU done).length ≤ 8
  at_ : scanQ [] l = scanQ done (l.drop i)
theorem fdD_add {done : List Row} {r : Row} (h : r.nm ∉ done.map (·.nm)) : putD (fdD done) (.inr r.nm) (.tux (ssort r.cs)) = fdD (done ++ [r]) := by
  rw [putD_new]
  · unfold fdD; rw [List.map_append]; rfl
  · unfold fdD
    rw [List.map_map]
    intro hq
    obtain ⟨r', h', e⟩ := List.mem_map.mp hq
    have e : r'.nm = r.nm := Sum.inr.inj (show (Sum.inr r'.nm : Key) = Sum.inr r.nm from e)
    exact h (List.mem_map.mpr ⟨r', h', e⟩)
theorem fdD_mem {done : List Row} {n : Str} : (valD (fdD done) (.inr n)).isSome = true ↔ n ∈ done.map (·.nm) := by
  rw [valD_some]
  unfold fdD
  rw [List.map_map]
  constructor
  · intro h
    obtain ⟨r, hr, e⟩ := List.mem_map.mp h
    have e : r.nm = n := Sum.inr.inj (show (Sum.inr r.nm : Key) = Sum.inr n from e)
    exact List.mem_map.mpr ⟨r, hr, e⟩
  · intro h
    obtain ⟨r, hr, rfl⟩ := List.mem_map.mp h
    exact List.mem_map.mpr ⟨r, hr, rfl⟩
end Q
set_option Elab.async false
set_option linter.all false
set_option maxRecDepth 100000
set_option maxHeartbeats 4000000
namespace Q
open PySem PySem.Spec PyProof.Rows L2 My
/-- the tables of a Question, told -/
def toldW (w : Wb) : D := .tup [.str "fine", .lst ((namesF w).map fun n => .tup [.str n, .tux (ssort (colsF w n))])]
def dueL (l : List D) : D := if l.length < 1 ∨ 6 < l.length then .tup [.str "wrong", .int 0] else match scanQ [] l with
  | .inl i => .tup [.str "bad", .int (i : Nat)]
  | .inr rows => toldW (webOf rows)
def dueD (t : D) : D := match ptD t with
  | some l => dueL l
  | none => .tup [.str "wrong", .int 0]
/-- what may be handed in -/
structure Tb (t : D) : Prop where
  nx : t.nx = true
  pr : t.pr = true
  wt : t.py.weight ≤ 200000
  few : ∀ l, ptD t = some l → ∀ d ∈ l, Cfew d
def den_l_told13 : Den := fun ds M Q => ∃ t, ds = [t] ∧ Tb t ∧ Q (dueD t) M
theorem mo_l_told13 : MonoD den_l_told13 := fun ds M Q Q' k ⟨t, h1, h2, h3⟩ => ⟨t, h1, h2, k _ _ h3⟩
theorem ln_l_told13 : ∀ ds M Q, den_l_told13 ds M Q → ds.length = 1 := fun ds M Q ⟨_, h1, _⟩ => by rw [h1]; rfl
abbrev den_l_due13 := den_l_told13
theorem mo_l_due13 : MonoD den_l_due13 := mo_l_told13
theorem ln_l_due13 : ∀ ds M Q, den_l_due13 ds M Q → ds.length = 1 := ln_l_told13
theorem due_none {t : D} (h : ptD t = none) : dueD t = .tup [.str "wrong", .int 0] := by unfold dueD; rw [h]
theorem due_many {t : D} {l : List D} (h : ptD t = some l) (k : l.length < 1 ∨ 6 < l.length) : dueD t = .tup [.str "wrong", .int 0] := by
  unfold dueD
  rw [h]
  show dueL l = _
  unfold dueL
  rw [if_pos k]
theorem due_bad {t : D} {l : List D} {i : Nat} (h : ptD t = some l) (k : 1 ≤ l.length ∧ l.length ≤ 6) (e : scanQ [] l = .inl i) : dueD t = .tup [.str "bad", .int i] := by
  unfold dueD
  rw [h]
  show dueL l = _
  unfold dueL
  rw [if_neg (by omega), e]
theorem due_fine {t : D} {l : List D} {rows : List Row} (h : ptD t = some l) (k : 1 ≤ l.length ∧ l.length ≤ 6) (e : scanQ [] l = .inr rows) : dueD t = toldW (webOf rows) := by
  unfold dueD
  rw [h]
  show dueL l = _
  unfold dueL
  rw [if_neg (by omega), e]
theorem scan_ok : ∀ {l : List D} {rows rows' : List Row}, scanQ rows l = .inr rows' → (rows.map (·.nm)).Nodup → (∀ r ∈ rows, Name r.nm ∧ Names r.cs) → rows'.length = rows.length + l.length ∧ (rows'.map (·.nm)).Nodup ∧ ∀ r ∈ rows', Name r.nm ∧ Names r.cs
  | [], rows, rows', h, nd, nm => by cases h; exact ⟨rfl, nd, nm⟩
  | d :: l, rows, rows', h, nd, nm => by
    cases hr : rowO d with
    | none => rw [scanQ_none hr] at h; cases h
    | some r =>
      by_cases k : r.nm ∈ rows.map (·.nm) ∨ 8 < (rowsU (rows ++ [r])).length
      · rw [scanQ_bad hr k] at h; cases h
      · rw [scanQ_ok hr k] at h
        obtain ⟨_, hn, hc⟩ := rowO_eq hr
        obtain ⟨a, b, c⟩ := scan_ok h (by
          rw [List.map_append, List.nodup_append]
          refine ⟨nd, by simp, fun x hx y hy e => ?_⟩
          rw [List.map_cons, List.map_nil, List.mem_singleton] at hy
          subst hy e
          exact k (.inl hx)) (fun r' h' => by
          rcases List.mem_append.mp h' with h' | h'
          · exact nm r' h'
          · rw [List.mem_singleton.mp h']; exact ⟨hn, hc⟩)
        exact ⟨by rw [a, List.length_append, List.length_cons, List.length_cons, List.length_nil]; omega, b, c⟩
def den_l_name_near : Den := fun ds M Q => ds = [.bag] ∧ ∀ s : Str, TxOk 30 s → Q (.str s) M
theorem mo_l_name_near : MonoD den_l_name_near := fun ds M Q Q' k ⟨h1, h2⟩ => ⟨h1, fun s a => k _ _ (h2 s a)⟩
theorem ln_l_name_near : ∀ ds M Q, den_l_name_near ds M Q → ds.length = 1 := fun ds M Q ⟨h1, _⟩ => by rw [h1]; rfl
/-- how it stands in the loop of `_law_due` -/
structure DU (l : List D) (done : List Row) (cols : List Str) (i : Nat) : Prop where
  n : done.length = i
  nd : (done.map (·.nm)).Nodup
  nm : ∀ r ∈ done, Name r.nm ∧ Names r.cs
  few : (rowsU done).length ≤ 8
  at_ : scanQ [] l = scanQ done (l.drop i)
  cn : cols.Nodup
  cm : ∀ c, c ∈ cols ↔ c ∈ done.flatMap (·.cs)
  ro : l.take i = done.map rowD
theorem nd_ddp {L K : List Str} (h : L.Nodup) (k : ∀ c, c ∈ L ↔ c ∈ K) : L.length = (ddp K).length :=
  Nat.le_antisymm (h.length_le_of_subset fun c hc => mem_ddp.mpr ((k c).mp hc)) ((nodup_ddp K).length_le_of_subset fun c hc => (k c).mpr (mem_ddp.mp hc))
theorem ix_pt {M : Mp} {t d : D} {l : List D} {i : Nat} {Q : KD} (h : ptD t = some l) (k : l[i]? = some d) (q : Q d M) : rdIx t (.int (i : Nat)) M Q := by
  rcases pt_or h with rfl | rfl
  · exact ix_l rfl (atI_nat k) q
  · exact ix_t rfl (atI_nat k) q
theorem len_pt {M : Mp} {t : D} {l : List D} {Q : KD} (h : ptD t = some l) (q : Q (.int l.length) M) : rdLen [t] M Q := by
  rcases pt_or h with rfl | rfl
  · exact ⟨_, rfl, q⟩
  · exact ⟨_, rfl, q⟩
theorem pairX_lt {p q : Str × List Str} (h : p.1 ≠ q.1) : PySem.W.dataLt (pairX p).py (pairX q).py = slt p.1 q.1 := by
  rw [pairX_py, pairX_py, PySem.W.dataLt_tuple]
  simp only [PySem.W.keyToksAll, PySem.W.keyToks]
  rw [lex_self (O := PyProof.Rows.itemOrd)]
  show PyProof.Rows.lexLt PyProof.Rows.itemOrd (Sum.inr p.1.cps.toList :: _) (Sum.inr q.1.cps.toList :: _) = _
  rw [lex_diff (O := PyProof.Rows.itemOrd) (fun e => h (PySem.W.str_of_cps (Sum.inr.inj e)))]
  exact blt_str p.1 q.1
theorem dle_pairX {p q : Str × List Str} (h : p.1 ≠ q.1) : dle (pairX p) (pairX q) = sle p.1 q.1 := by
  show (!PySem.W.dataLt (pairX q).py (pairX p).py) = !slt q.1 p.1
  rw [pairX_lt (Ne.symm h)]
theorem told_due {rows : List Row} (nd : (rows.map (·.nm)).Nodup) : dsort (rows.map fun r => pairX (r.nm, ssort r.cs)) = (namesF (webOf rows)).map fun n => .tup [.str n, .tux (ssort (colsF (webOf rows) n))] := by
  have h1 := dsort_pairX (rows.map fun r => (r.nm, ssort r.cs))
  rw [List.map_map] at h1
  refine Eq.trans h1 ?_
  have hc : ∀ r ∈ rows, colsF (webOf rows) r.nm = r.cs := fun r hr => by
    have hw : ((webOf rows).map (·.1)).Nodup := by rw [webOf_keys]; exact nd
    have e : (webOf rows).lookup r.nm = some r.cs := lookup_mem (w := webOf rows) (p := (r.nm, r.cs)) (List.mem_map.mpr ⟨r, hr, rfl⟩) hw
    unfold colsF
    rw [e]
    rfl
  have pm : ((namesF (webOf rows)).map fun n => (n, ssort (colsF (webOf rows) n))).Perm (rows.map fun r => (r.nm, ssort r.cs)) := by
    have := (ssort_perm ((webOf rows).map (·.1))).map fun n => (n, ssort (colsF (webOf rows) n))
    rw [webOf_keys, List.map_map] at this
    have ec : (rows.map fun r => (r.nm, ssort r.cs)) = rows.map ((fun n => (n, ssort (colsF (webOf rows) n))) ∘ fun r => r.nm) := List.map_congr_left fun r hr => by
      show (r.nm, ssort r.cs) = (r.nm, ssort (colsF (webOf rows) r.nm))
      rw [hc r hr]
    rw [ec]
    show ((ssort ((webOf rows).map (·.1))).map _).Perm _
    rw [webOf_keys]
    exact this
  rw [← sortW_uniq pm]
  have ns : ((namesF (webOf rows)).map fun n => (n, ssort (colsF (webOf rows) n))).Pairwise fun p q => dle (pairX p) (pairX q) = true := by
    rw [List.pairwise_map]
    have a := ssort_sorted ((webOf rows).map (·.1))
    have b : (ssort ((webOf rows).map (·.1))).Nodup := (ssort_perm _).nodup_iff.mpr (by rw [webOf_keys]; exact nd)
    exact (List.Pairwise.and a b).imp fun ⟨x, y⟩ => by rw [dle_pairX (by exact y)]; exact x
  have e : sortW ((namesF (webOf rows)).map fun n => (n, ssort (colsF (webOf rows) n))) = (namesF (webOf rows)).map fun n => (n, ssort (colsF (webOf rows) n)) := List.mergeSort_of_pairwise ns
  rw [e, List.map_map]
  rfl
end Q
set_option Elab.async false
set_option linter.all false
set_option maxRecDepth 100000
set_option maxHeartbeats 4000000
namespace Q
open PySem PySem.Spec PyProof.Rows L2 My
/-- how many names stand in it -/
def cntN (ds : List D) : Nat := (ds.filter nmB).length
theorem cntN_le (ds : List D) : cntN ds ≤ ds.length := List.length_filter_le _ _
theorem cntN_all {ds : List D} (h : ds.all nmB = true) : cntN ds = ds.length := by
  unfold cntN
  rw [List.filter_eq_self.mpr fun d hd => List.all_eq_true.mp h d hd]
theorem cntN_app (a b : List D) : cntN (a ++ b) = cntN a + cntN b := by unfold cntN; rw [List.filter_append, List.length_append]
/-- no more than 12 names, as columns or as the columns of a table -/
structure Few (d : D) : Prop where
  row : ∀ ds, ptD d = some ds → cntN ds ≤ 12
  tab : ∀ u y ds, d = .tup [u, y] → ptD y = some ds → cntN ds ≤ 12
  mem : ∀ l, ptD d = some l → ∀ x ∈ l, Cfew x
theorem len_sumW' : ∀ ds : List D, ds.length ≤ sumW ds
  | [] => Nat.zero_le _
  | d :: ds => by
    have := len_sumW' ds
    have e : sumW (d :: ds) = d.py.weight + 1 + sumW ds := rfl
    rw [List.length_cons, e]
    omega
theorem pt_wt {d : D} {ds : List D} (h : ptD d = some ds) : sumW ds = d.py.weight := by
  rcases pt_or h with rfl | rfl
  · rw [wt_lst]
  · rw [wt_tup]
theorem Few.small {d : D} (h : d.py.weight ≤ 12) : Few d where
  row ds e := by
    have a := len_sumW' ds
    have b := cntN_le ds
    rw [pt_wt e] at a
    omega
  tab u y ds e k := by
    subst e
    have a := len_sumW' ds
    have c := cntN_le ds
    rw [pt_wt k] at a
    have b := sumW_mem (ds := [u, y]) (d := y) (by simp)
    rw [wt_tup] at h
    omega
  mem l e x hx u y ds ex k _ := by
    subst ex
    have a := len_sumW' ds
    rw [pt_wt k] at a
    have b := sumW_mem (ds := [u, y]) (d := y) (by simp)
    have c := sumW_mem hx
    rw [pt_wt e, wt_tup] at c
    omega
theorem Few.none {d : D} (h : ptD d = none) : Few d where
  row ds e := by rw [h] at e; cases e
  tab u y ds e k := by subst e; cases h
  mem l e := by rw [h] at e; cases e
theorem Few.byB {d : D} (h : (decide (d.py.weight ≤ 12) || (ptD d).isNone) = true) : Few d := by
  rcases (Bool.or_eq_true _ _).mp h with h | h
  · exact .small (of_decide_eq_true h)
  · exact .none (Option.isNone_iff_eq_none.mp h)
theorem odd_small : (odd78a ++ odd78b ++ [D.tup [.str "a", .str "b"]]).all (fun d => decide (d.py.weight ≤ 12) || (ptD d).isNone) = true := by decide +kernel
theorem odd_few {d : D} (h : d.py.weight ≤ 12) : ∀ x ∈ odd78 d, Few x := fun x hx => by
  have sm : x ∈ odd78a ++ odd78b ++ [D.tup [.str "a", .str "b"]] → Few x := fun h => .byB (List.all_eq_true.mp odd_small x h)
  unfold odd78 at hx
  rcases List.mem_append.mp hx with hx | hx
  · rcases List.mem_append.mp hx with hx | hx
    · exact sm (by simp [hx])
    · rcases List.mem_cons.mp hx with rfl | hx
      · exact .small h
      · exact sm (by simp [hx])
  · rcases List.mem_cons.mp hx with rfl | hx
    · refine ⟨fun ds e => ?_, fun u y ds e _ => ?_, fun l e x hx u y ds ex _ _ => ?_⟩
      · cases e
        have : (List.replicate (900 : Int).toNat (D.int 0)).filter nmB = [] := by
          rw [List.filter_eq_nil_iff]
          intro a ha
          rw [List.eq_of_mem_replicate ha]
          exact Bool.false_ne_true
        unfold cntN
        rw [this]
        exact Nat.zero_le _
      · have e2 := congrArg (fun d => match d with | D.tup xs => xs.length | _ => 0) e
        cases (show (900 : Nat) = 2 from by simpa using e2)
      · cases e
        rw [List.eq_of_mem_replicate hx] at ex
        cases ex
    · exact sm (List.mem_append.mpr (.inr hx))
def den_l_odd13 : Den := fun ds M Q => ds = [.bag] ∧ ∀ d : D, d.clo = true → Pl 15 d → d.py.weight ≤ 2000 → Few d → Q d M
theorem mo_l_odd13 : MonoD den_l_odd13 := fun ds M Q Q' k ⟨h1, h2⟩ => ⟨h1, fun d a b c e => k _ _ (h2 d a b c e)⟩
theorem ln_l_odd13 : ∀ ds M Q, den_l_odd13 ds M Q → ds.length = 1 := fun ds M Q ⟨h1, _⟩ => by rw [h1]; rfl
mutual
theorem clo_nx : ∀ (d : D), d.clo = true → d.nx = true
  | .lst ds, h => by
    rw [D.nx]
    exact clos_nxs ds (by rwa [D.clo] at h)
  | .tup ds, h => by
    rw [D.nx]
    exact clos_nxs ds (by rwa [D.clo] at h)
  | .non, _ => rfl
  | .bl _, _ => rfl
  | .int _, _ => rfl
  | .str _, _ => rfl
  | .dct _, _ => rfl
theorem clos_nxs : ∀ (ds : List D), D.clos ds = true → D.nxs ds = true
  | [], _ => rfl
  | x :: xs, h => by
    rw [D.clos, Bool.and_eq_true] at h
    rw [D.nxs, Bool.and_eq_true]
    exact ⟨clo_nx x h.1, clos_nxs xs h.2⟩
end
end Q
set_option Elab.async false
set_option linter.all false
set_option maxRecDepth 100000
set_option maxHeartbeats 4000000
namespace Q
open PySem PySem.Spec PyProof.Rows L2 My
/-- a value: how deep, how great -/
structure Nl (j n : Nat) (d : D) : Prop where
  nx : d.nx = true
  pl : Pl j d
  wt : d.py.weight ≤ n
structure Ns (j n : Nat) (L : List D) : Prop where
  nx : ∀ d ∈ L, d.nx = true
  pl : ∀ d ∈ L, Pl j d
  wt : sumW L ≤ n
theorem Nl.up {j k n m : Nat} {d : D} (h : Nl j n d) (a : j ≤ k) (b : n ≤ m) : Nl k m d := ⟨h.nx, h.pl.mono a, Nat.le_trans h.wt b⟩
theorem Ns.up {j k n m : Nat} {L : List D} (h : Ns j n L) (a : j ≤ k) (b : n ≤ m) : Ns k m L := ⟨h.nx, fun d hd => (h.pl d hd).mono a, Nat.le_trans h.wt b⟩
theorem Ns.lst {j n : Nat} {L : List D} (h : Ns j n L) : Nl (j + 1) n (.lst L) := ⟨by rw [D.nx]; exact nxs_of h.nx, Pl.lst h.pl, by rw [wt_lst]; exact h.wt⟩
theorem Ns.tup {j n : Nat} {L : List D} (h : Ns j n L) : Nl (j + 1) n (.tup L) := ⟨by rw [D.nx]; exact nxs_of h.nx, Pl.tup h.pl, by rw [wt_tup]; exact h.wt⟩
theorem Ns.nil {j n : Nat} : Ns j n [] := ⟨(fun _ h => nomatch h), (fun _ h => nomatch h), Nat.zero_le _⟩
theorem Ns.cons {j n m : Nat} {d : D} {L : List D} (h : Nl j n d) (k : Ns j m L) : Ns j (n + 1 + m) (d :: L) where
  nx := fun x hx => by
    rcases List.mem_cons.mp hx with rfl | hx
    · exact h.nx
    · exact k.nx x hx
  pl := fun x hx => by
    rcases List.mem_cons.mp hx with rfl | hx
    · exact h.pl
    · exact k.pl x hx
  wt := by
    rw [sumW_cons]
    have := h.wt
    have := k.wt
    omega
theorem Ns.one {j n : Nat} {d : D} (h : Nl j n d) : Ns j (n + 1) [d] := (Ns.cons h (Ns.nil (n := 0))).up (Nat.le_refl _) (by omega)
theorem Ns.two {j n m : Nat} {d e : D} (h : Nl j n d) (k : Nl j m e) : Ns j (n + m + 2) [d, e] := (Ns.cons h (Ns.one k)).up (Nat.le_refl _) (by omega)
theorem Ns.app {j n m : Nat} {A B : List D} (h : Ns j n A) (k : Ns j m B) : Ns j (n + m) (A ++ B) where
  nx := fun x hx => by
    rcases List.mem_append.mp hx with hx | hx
    · exact h.nx x hx
    · exact k.nx x hx
  pl := fun x hx => by
    rcases List.mem_append.mp hx with hx | hx
    · exact h.pl x hx
    · exact k.pl x hx
  wt := by
    rw [sumW_app]
    have := h.wt
    have := k.wt
    omega
theorem Ns.sub {j n : Nat} {A B : List D} (h : Ns j n B) (s : A.Sublist B) : Ns j n A := ⟨fun x hx => h.nx x (s.subset hx), fun x hx => h.pl x (s.subset hx), Nat.le_trans (sumW_subl s) h.wt⟩
theorem Ns.mem {j n : Nat} {A : List D} (h : Ns j n A) {x : D} (hx : x ∈ A) : Nl j n x := ⟨h.nx x hx, h.pl x hx, by have := sumW_mem hx; have := h.wt; omega⟩
theorem Nl.of_tup {j n : Nat} {ds : List D} (h : Nl j n (.tup ds)) : Ns j n ds := ⟨nxs_mem (by simpa only [D.nx] using h.nx), fun d hd => h.pl.mem_tup hd, by have := h.wt; rwa [wt_tup] at this⟩
theorem Nl.of_lst {j n : Nat} {ds : List D} (h : Nl j n (.lst ds)) : Ns j n ds := ⟨nxs_mem (by simpa only [D.nx] using h.nx), fun d hd => h.pl.mem_lst hd, by have := h.wt; rwa [wt_lst] at this⟩
theorem Nl.of_pt {j n : Nat} {d : D} {ds : List D} (h : Nl j n d) (k : ptD d = some ds) : Ns j n ds := by
  rcases pt_or k with rfl | rfl
  · exact h.of_lst
  · exact h.of_tup
theorem Nl.text {j k : Nat} {s : Str} (h : TxOk k s) : Nl j k (.str s) := ⟨rfl, Pl.str h.2, by rw [wt_str]; exact h.1⟩
theorem Nl.name {j : Nat} {s : Str} (h : Name s) : Nl j 8 (.str s) := ⟨rfl, Pl.name h, by rw [wt_str]; exact h.len.2⟩
theorem Ns.names {j : Nat} {ss : List Str} (h : ∀ s ∈ ss, Name s) : Ns j (ss.length * 9) (sts ss) := ⟨fun d hd => by
    obtain ⟨s, _, rfl⟩ := List.mem_map.mp hd
    rfl, fun d hd => by
    obtain ⟨s, hs, rfl⟩ := List.mem_map.mp hd
    exact Pl.name (h s hs), by
    have := wt_names h
    rwa [wt_tup] at this⟩
/-- an item -/
structure It (c j n : Nat) (d : D) : Prop where
  nl : Nl j n d
  few : ∀ u y ds, d = .tup [u, y] → ptD y = some ds → cntN ds ≤ c
theorem It.up {c k j i n m : Nat} {d : D} (h : It c j n d) (x : c ≤ k) (a : j ≤ i) (b : n ≤ m) : It k i m d := ⟨h.nl.up a b, fun u y ds e q => Nat.le_trans (h.few u y ds e q) x⟩
theorem It.cfew {c j n : Nat} {d : D} (h : It c j n d) (k : c ≤ 60) : Cfew d := fun u y ds e q a => by
  have := h.few u y ds e q
  rw [cntN_all a] at this
  omega
theorem It.pair {c j n : Nat} {u y : D} (h : Nl j n (.tup [u, y])) (k : ∀ ds, ptD y = some ds → cntN ds ≤ c) : It c j n (.tup [u, y]) := ⟨h, fun u' y' ds e q => by
  cases e
  exact k ds q⟩
theorem It.far {c j n : Nat} {d : D} (h : Nl j n d) (k : ∀ u y, d ≠ .tup [u, y]) : It c j n d := ⟨h, fun u y ds e _ => absurd e (k u y)⟩
theorem It.two {c j n p q : Nat} {v w : D} (hv : Nl (j + 1) p v) (hw : Nl (j + 1) q w) (h : p + q + 2 ≤ n) (k : ∀ ds, ptD w = some ds → cntN ds ≤ c) : It c (j + 2) n (.tup [v, w]) := .pair ((Ns.two hv hw).tup.up (Nat.le_refl _) h) k
/-- what was `far` in the law's text -/
def farL : List Str := ["qa", "qb", "qc", "qd", "qe", "qf", "qg", "qh", "qi"]
theorem farL_ok : ∀ s ∈ farL, Name s := by
  have : farL.all nameS = true := by decide +kernel
  exact fun s hs => List.all_eq_true.mp this s hs
/-- a value that is put in, and what a bent item is -/
structure Ov (o : D) : Prop where
  nl : Nl 15 2000 o
  row : ∀ ds, ptD o = some ds → cntN ds ≤ 12
  tab : ∀ u y ds, o = .tup [u, y] → ptD y = some ds → cntN ds ≤ 12
  mem : ∀ l, ptD o = some l → ∀ x ∈ l, Cfew x
theorem Ov.odd {d : D} (a : d.clo = true) (b : Pl 15 d) (c : d.py.weight ≤ 2000) (f : Few d) : Ov d := ⟨⟨clo_nx d a, b, c⟩, f.row, f.tab, f.mem⟩
theorem Ov.text {s : Str} (h : TxOk 30 s) : Ov (.str s) := ⟨(Nl.text h).up (Nat.le_refl _) (by omega), fun ds e => (nomatch e), fun u y ds e _ => (nomatch e), fun l e => (nomatch e)⟩
def den_l_bent_table : Den := fun ds M Q => ∃ (u y : D) (cs : List D) (ns : List Str) (c j n : Nat), ds = [.bag, .tup [u, y], .lst (sts ns)] ∧ ptD y = some cs ∧ It c j n (.tup [u, y]) ∧ (1 ≤ ns.length ∧ ns.length ≤ 6 ∧ ∀ s ∈ ns, Name s) ∧ 12 ≤ c ∧ 15 ≤ j ∧ n ≤ 100000 ∧ ∀ d', It (2 * c) (j + 2) (2 * n + 2200) d' → Q d' M
theorem mo_l_bent_table : MonoD den_l_bent_table := fun ds M Q Q' k ⟨u, y, cs, ns, c, j, n, h1, h2, h3, h4, h5, h6, h7, h8⟩ => ⟨u, y, cs, ns, c, j, n, h1, h2, h3, h4, h5, h6, h7, fun d' h => k _ _ (h8 d' h)⟩
theorem ln_l_bent_table : ∀ ds M Q, den_l_bent_table ds M Q → ds.length = 3 := fun ds M Q ⟨_, _, _, _, _, _, _, h1, _⟩ => by rw [h1]; rfl
theorem sl_pt {M : Mp} {y : D} {cs : List D} {lo hi : Option Int} {Q : KD} (h : ptD y = some cs) (q : ∀ y', ptD y' = some (cutD cs lo hi) → Q y' M) : rdSl y lo hi M Q := by
  rcases pt_or h with rfl | rfl
  · exact sl_l (q _ rfl)
  · exact sl_t (q _ rfl)
/-- how a list's items are told -/
theorem seqD_pt {M : Mp} {y : D} {cs : List D} (h : ptD y = some cs) : seqD (look M y) = some cs := by
  rcases pt_or h with rfl | rfl <;> rfl
theorem list_pt {M : Mp} {y : D} {cs : List D} {Q : KD} (h : ptD y = some cs) (q : Q (.lst cs) M) : rdList [y] M Q := ⟨_, _, rfl, seqD_pt h, q⟩
theorem tup_pt {M : Mp} {y : D} {cs : List D} {Q : KD} (h : ptD y = some cs) (q : Q (.tup cs) M) : rdTuple [y] M Q := by
  rcases pt_or h with rfl | rfl <;> exact ⟨_, rfl, q⟩
theorem Ov.it {o : D} (h : Ov o) {c j n : Nat} (hc : 12 ≤ c) (hj : 15 ≤ j) (hn : 2000 ≤ n) : It c j n o := ⟨h.nl.up hj hn, fun u y ds e q => Nat.le_trans (h.tab u y ds e q) hc⟩
/-- what is asked for -/
structure Mo13 (j : Nat) (t : D) : Prop where
  nl : Nl j 190000 t
  few : ∀ l, ptD t = some l → ∀ d ∈ l, Cfew d
theorem Mo13.tb {j : Nat} {t : D} (h : Mo13 j t) : Tb t := ⟨h.nl.nx, h.nl.pl.pr, Nat.le_trans h.nl.wt (by decide), h.few⟩
theorem Mo13.up {j : Nat} {t : D} (h : Mo13 j t) : Mo13 (j + 1) t := ⟨h.nl.up (by omega) (Nat.le_refl _), h.few⟩
theorem Mo13.odd {o : D} (h : Ov o) : Mo13 25 o := ⟨h.nl.up (by decide) (by decide), h.mem⟩
theorem Mo13.lst {L : List D} {j n : Nat} (h : Ns j n L) (a : j ≤ 24) (b : n ≤ 190000) (k : ∀ d ∈ L, Cfew d) : Mo13 25 (.lst L) := ⟨h.lst.up (by omega) b, fun l e => by cases e; exact k⟩
theorem Mo13.tup {j : Nat} {L : List D} (h : Mo13 j (.lst L)) : Mo13 (j + 1) (.tup L) := ⟨(h.nl.of_lst).tup, fun l e => by cases e; exact h.few L rfl⟩
theorem Ns.few {L : List D} {j n m : Nat} (h : ∀ d ∈ L, Nl j n d) (k : L.length ≤ m) : Ns j (m * (n + 1)) L := ⟨fun d hd => (h d hd).nx, fun d hd => (h d hd).pl, by
  have a := sumW_le (k := n + 1) (xs := L) fun d hd => by have := (h d hd).wt; omega
  exact Nat.le_trans a (Nat.mul_le_mul_right _ k)⟩
theorem scan_few : ∀ {l : List D} {rows rows' : List Row}, scanQ rows l = .inr rows' → (rowsU rows).length ≤ 8 → (rowsU rows').length ≤ 8
  | [], rows, rows', h, k => by cases h; exact k
  | d :: l, rows, rows', h, k => by
    cases hr : rowO d with
    | none => rw [scanQ_none hr] at h; cases h
    | some r =>
      by_cases q : r.nm ∈ rows.map (·.nm) ∨ 8 < (rowsU (rows ++ [r])).length
      · rw [scanQ_bad hr q] at h; cases h
      · rw [scanQ_ok hr q] at h
        exact scan_few h (by
          by_cases z : 8 < (rowsU (rows ++ [r])).length
          · exact absurd (.inr z) q
          · omega)
theorem scan_lt : ∀ {l : List D} {rows : List Row} {i : Nat}, scanQ rows l = .inl i → i < rows.length + l.length
  | [], rows, i, h => by cases h
  | d :: l, rows, i, h => by
    cases hr : rowO d with
    | none =>
      rw [scanQ_none hr] at h
      cases h
      rw [List.length_cons]
      omega
    | some r =>
      by_cases q : r.nm ∈ rows.map (·.nm) ∨ 8 < (rowsU (rows ++ [r])).length
      · rw [scanQ_bad hr q] at h
        cases h
        rw [List.length_cons]
        omega
      · rw [scanQ_ok hr q] at h
        have := scan_lt h
        rw [List.length_append, List.length_singleton] at this
        rw [List.length_cons]
        omega
theorem wt_small {i : Nat} (h : i ≤ 6) : (D.int (i : Nat)).py.weight ≤ 40 := by
  simp only [D.py]
  exact wt_int (Nat.lt_of_le_of_lt h (by decide))
theorem due_two {s : Str} {i : Nat} (hs : Name s) (h : i ≤ 6) : Gd 5 (.tup [.str s, .int (i : Nat)]) ∧ (D.tup [.str s, .int (i : Nat)]).py.weight ≤ 100 := by
  refine ⟨Gd.tup (m := 4) fun d hd => ?_, ?_⟩
  · simp only [List.mem_cons, List.not_mem_nil, or_false] at hd
    rcases hd with rfl | rfl
    · exact .name hs
    · exact .int (by omega)
  · have a := wt_name hs
    have b := wt_small h
    rw [wt_tup, sumW_cons, sumW_cons]
    have e0 : sumW [] = 0 := rfl
    omega
theorem told_ok {rows : List Row} (n6 : rows.length ≤ 6) (nd : (rows.map (·.nm)).Nodup) (nm : ∀ r ∈ rows, Name r.nm ∧ Names r.cs) (few : (rowsU rows).length ≤ 8) : Gd 5 (toldW (webOf rows)) ∧ (toldW (webOf rows)).py.weight ≤ 2000 := by
  have hw : ((webOf rows).map (·.1)).Nodup := by rw [webOf_keys]; exact nd
  have key : ∀ n ∈ namesF (webOf rows), Name n ∧ (∀ c ∈ ssort (colsF (webOf rows) n), Name c) ∧ (ssort (colsF (webOf rows) n)).length ≤ 8 := fun n hn => by
    have hn := names_mem.mp hn
    rw [webOf_keys] at hn
    obtain ⟨r, hr, rfl⟩ := List.mem_map.mp hn
    have e : (webOf rows).lookup r.nm = some r.cs := lookup_mem (w := webOf rows) (p := (r.nm, r.cs)) (List.mem_map.mpr ⟨r, hr, rfl⟩) hw
    have ec : colsF (webOf rows) r.nm = r.cs := by
      unfold colsF
      rw [e]
      rfl
    rw [ec]
    refine ⟨(nm r hr).1, fun c hc => (nm r hr).2.ok c ((ssort_perm _).mem_iff.mp hc), ?_⟩
    rw [length_ssort]
    refine Nat.le_trans ((nm r hr).2.nd.length_le_of_subset (l₂ := rowsU rows) fun c hc => mem_ddp.mpr (List.mem_flatMap.mpr ⟨r, hr, hc⟩)) few
  refine ⟨Gd.tup (m := 4) fun d hd => ?_, ?_⟩
  · simp only [List.mem_cons, List.not_mem_nil, or_false] at hd
    rcases hd with rfl | rfl
    · exact .name (show nameS _ = true by decide +kernel)
    · refine Gd.lst (m := 3) fun d hd => ?_
      obtain ⟨n, hn, rfl⟩ := List.mem_map.mp hd
      refine Gd.tup (m := 2) fun d hd => ?_
      simp only [List.mem_cons, List.not_mem_nil, or_false] at hd
      rcases hd with rfl | rfl
      · exact .name (key n hn).1
      · exact .namesX (key n hn).2.1
  · have a : (D.str "fine").py.weight ≤ 8 := wt_name (show nameS _ = true by decide +kernel)
    have b := sumW_le (k := 100) (xs := (namesF (webOf rows)).map fun n => D.tup [.str n, .tux (ssort (colsF (webOf rows) n))]) fun d hd => by
      obtain ⟨n, hn, rfl⟩ := List.mem_map.mp hd
      obtain ⟨k1, k2, k3⟩ := key n hn
      have x1 := wt_name k1
      have x2 := wt_namesX k2
      rw [wt_tup, sumW_cons, sumW_cons]
      have e0 : sumW [] = 0 := rfl
      omega
    have l : ((namesF (webOf rows)).map fun n => D.tup [.str n, .tux (ssort (colsF (webOf rows) n))]).length ≤ 6 := by
      rw [List.length_map, names_len]
      unfold webOf
      rw [List.length_map]
      exact n6
    have := Nat.mul_le_mul_right 100 l
    unfold toldW
    rw [wt_tup, sumW_cons, sumW_cons, wt_lst]
    have e0 : sumW [] = 0 := rfl
    omega
theorem due_gd (t : D) : Gd 5 (dueD t) ∧ (dueD t).py.weight ≤ 2000 := by
  have up : ∀ {d : D}, (Gd 5 d ∧ d.py.weight ≤ 100) → Gd 5 d ∧ d.py.weight ≤ 2000 := fun h => ⟨h.1, by omega⟩
  have wr : Gd 5 (D.tup [.str "wrong", .int 0]) ∧ (D.tup [.str "wrong", .int 0]).py.weight ≤ 2000 := up (due_two (i := 0) (show nameS _ = true by decide +kernel) (by decide))
  cases h : ptD t with
  | none => rw [due_none h]; exact wr
  | some l =>
    by_cases k : l.length < 1 ∨ 6 < l.length
    · rw [due_many h k]; exact wr
    · cases e : scanQ [] l with
      | inl i =>
        rw [due_bad h (by omega) e]
        have := scan_lt e
        rw [List.length_nil] at this
        exact up (due_two (show nameS _ = true by decide +kernel) (by omega))
      | inr rows =>
        rw [due_fine h (by omega) e]
        obtain ⟨a, b, c⟩ := scan_ok e List.nodup_nil fun r h => (nomatch h)
        rw [List.length_nil] at a
        exact told_ok (by omega) b c (scan_few e (by decide))
end Q
set_option Elab.async false
set_option linter.all false
set_option maxRecDepth 100000
set_option maxHeartbeats 4000000
namespace Q
open PySem PySem.Spec PyProof.Rows L2 My
def topS (i : Nat) : Stmt := PySem.Challenge.pw_deadrows_k13_questions_refused.main.body.getD i (.Pass ⟨0, 0, 0, 0⟩)
def clsBody : Stmt → List Stmt
  | .ClassDef _ _ _ b _ _ _ _ _ _ _ => b
  | _ => []
def inClass (s : Stmt) (j : Nat) : Stmt := (clsBody s).getD j (.Pass ⟨0, 0, 0, 0⟩)
abbrev st_l_alike : Stmt := topS 20
abbrev N_l_alike : List Str := ["_law_found", "_law_due_here"]
theorem sc_l_alike : FnScope N_l_alike ["_law_found", "_law_due_here"] (defScope st_l_alike) := ⟨rfl, rfl, rfl, by decide +kernel, rfl, by decide +kernel, by decide +kernel⟩
abbrev st_l_bag : Stmt := topS 18
abbrev N_l_bag : List Str := ["_law_script", "_law_cell"]
theorem sc_l_bag : FnScope N_l_bag ["_law_script"] (defScope st_l_bag) := ⟨rfl, rfl, rfl, by decide +kernel, rfl, by decide +kernel, by decide +kernel⟩
abbrev st_l_take : Stmt := topS 19
abbrev N_l_take : List Str := ["_law_bag_here", "_law_many", "_law_cell", "_law_mixed_here", "_law_value", "_law_begin", "_law_second"]
theorem sc_l_take : FnScope N_l_take ["_law_bag_here", "_law_many"] (defScope st_l_take) := ⟨rfl, rfl, rfl, by decide +kernel, rfl, by decide +kernel, by decide +kernel⟩
abbrev st_l_name_near : Stmt := topS 25
abbrev N_l_name_near : List Str := ["_law_bag_here", "_law_signs", "_law_text", "_law_k", "_law_at", "_law_sign"]
theorem sc_l_name_near : FnScope N_l_name_near ["_law_bag_here"] (defScope st_l_name_near) := ⟨rfl, rfl, rfl, by decide +kernel, rfl, by decide +kernel, by decide +kernel⟩
abbrev st_l_odd : Stmt := topS 26
abbrev N_l_odd : List Str := ["_law_bag_here", "_law_deep", "_law_k", "_law_some"]
theorem sc_l_odd : FnScope N_l_odd ["_law_bag_here"] (defScope st_l_odd) := ⟨rfl, rfl, rfl, by decide +kernel, rfl, by decide +kernel, by decide +kernel⟩
abbrev st_l_bent_table : Stmt := topS 30
abbrev N_l_bent_table : List Str := ["_law_bag_here", "_law_row", "_law_others", "_law_name", "_law_columns", "_law_at", "_law_odd_here", "_law_some", "_law_far", "_law_letter"]
theorem sc_l_bent_table : FnScope N_l_bent_table ["_law_bag_here", "_law_row", "_law_others"] (defScope st_l_bent_table) := ⟨rfl, rfl, rfl, by decide +kernel, rfl, by decide +kernel, by decide +kernel⟩
abbrev st_l_is_name : Stmt := topS 24
abbrev N_l_is_name : List Str := ["_law_thing", "_law_sign"]
theorem sc_l_is_name : FnScope N_l_is_name ["_law_thing"] (defScope st_l_is_name) := ⟨rfl, rfl, rfl, by decide +kernel, rfl, by decide +kernel, by decide +kernel⟩
abbrev st_l_is_table : Stmt := topS 27
abbrev N_l_is_table : List Str := ["_law_thing", "_law_one"]
theorem sc_l_is_table : FnScope N_l_is_table ["_law_thing"] (defScope st_l_is_table) := ⟨rfl, rfl, rfl, by decide +kernel, rfl, by decide +kernel, by decide +kernel⟩
abbrev st_l_due : Stmt := topS 28
abbrev N_l_due : List Str := ["_law_thing", "_law_names_here", "_law_columns", "_law_at", "_law_one"]
theorem sc_l_due : FnScope N_l_due ["_law_thing"] (defScope st_l_due) := ⟨rfl, rfl, rfl, by decide +kernel, rfl, by decide +kernel, by decide +kernel⟩
abbrev st_l_mixed : Stmt := topS 21
abbrev N_l_mixed : List Str := ["_law_bag_here", "_law_things", "_law_found", "_law_thing"]
theorem sc_l_mixed : FnScope N_l_mixed ["_law_bag_here", "_law_things"] (defScope st_l_mixed) := ⟨rfl, rfl, rfl, by decide +kernel, rfl, by decide +kernel, by decide +kernel⟩
abbrev st_is_name : Stmt := topS 11
abbrev N_is_name : List Str := ["thing", "sign"]
theorem sc_is_name : FnScope N_is_name ["thing"] (defScope st_is_name) := ⟨rfl, rfl, rfl, by decide +kernel, rfl, by decide +kernel, by decide +kernel⟩
abbrev st_is_table : Stmt := topS 15
abbrev N_is_table : List Str := ["thing", "column"]
theorem sc_is_table : FnScope N_is_table ["thing"] (defScope st_is_table) := ⟨rfl, rfl, rfl, by decide +kernel, rfl, by decide +kernel, by decide +kernel⟩
abbrev st_Question___init__ : Stmt := inClass (topS 16) 0
abbrev N_Question___init__ : List Str := ["self", "tables", "found", "known", "at", "item", "column", "name"]
theorem sc_Question___init__ : FnScope N_Question___init__ ["self", "tables"] (defScope st_Question___init__) := ⟨rfl, rfl, rfl, by decide +kernel, rfl, by decide +kernel, by decide +kernel⟩
abbrev st_Question___contains__ : Stmt := inClass (topS 16) 3
abbrev N_Question___contains__ : List Str := ["self", "thing"]
theorem sc_Question___contains__ : FnScope N_Question___contains__ ["self", "thing"] (defScope st_Question___contains__) := ⟨rfl, rfl, rfl, by decide +kernel, rfl, by decide +kernel, by decide +kernel⟩
abbrev st_Question_need : Stmt := inClass (topS 16) 5
abbrev N_Question_need : List Str := ["self", "names", "name"]
theorem sc_Question_need : FnScope N_Question_need ["self", "names"] (defScope st_Question_need) := ⟨rfl, rfl, rfl, by decide +kernel, rfl, by decide +kernel, by decide +kernel⟩
abbrev st_Question_columns : Stmt := inClass (topS 16) 9
abbrev N_Question_columns : List Str := ["self", "table"]
theorem sc_Question_columns : FnScope N_Question_columns ["self", "table"] (defScope st_Question_columns) := ⟨rfl, rfl, rfl, by decide +kernel, rfl, by decide +kernel, by decide +kernel⟩
abbrev st_Question_tables : Stmt := inClass (topS 16) 6
abbrev N_Question_tables : List Str := ["self"]
theorem sc_Question_tables : FnScope N_Question_tables ["self"] (defScope st_Question_tables) := ⟨rfl, rfl, rfl, by decide +kernel, rfl, by decide +kernel, by decide +kernel⟩
abbrev st_l_told : Stmt := topS 29
abbrev N_l_told : List Str := ["_law_thing", "_law_question", "e", "_law_name"]
theorem sc_l_told : FnScope N_l_told ["_law_thing"] (defScope st_l_told) := ⟨rfl, rfl, rfl, by decide +kernel, rfl, by decide +kernel, by decide +kernel⟩
abbrev st_l_names : Stmt := topS 22
abbrev N_l_names : List Str := ["_law_bag_here", "_law_many", "_law_letters", "_law_words", "_law_way", "_law_turn", "_law_base", "_law_k", "_law_at"]
theorem sc_l_names : FnScope N_l_names ["_law_bag_here", "_law_many"] (defScope st_l_names) := ⟨rfl, rfl, rfl, by decide +kernel, rfl, by decide +kernel, by decide +kernel⟩
abbrev st_l_web : Stmt := topS 23
abbrev N_l_web : List Str := ["_law_bag_here", "_law_most", "_law_names_here", "_law_letters", "_law_way", "_law_many", "_law_sets", "_law_free", "_law_k", "_law_some", "_law_one", "_law_j", "_law_name"]
theorem sc_l_web : FnScope N_l_web ["_law_bag_here", "_law_most"] (defScope st_l_web) := ⟨rfl, rfl, rfl, by decide +kernel, rfl, by decide +kernel, by decide +kernel⟩
abbrev st_law : Stmt := topS 31
abbrev N_law : List Str := ["_law_script", "_law_bag_here", "_law_turn", "_law_web_here", "_law_rows", "_law_name", "_law_k", "_law_at", "_law_more", "_law_thing", "_law_shown", "_law_due_here", "_law_again"]
theorem sc_law : FnScope N_law ["_law_script"] (defScope st_law) := ⟨rfl, rfl, rfl, by decide +kernel, rfl, by decide +kernel, by decide +kernel⟩
structure Wd (P : Program) (w : World) (K : PySem.W.Frag) (mg : Str → Option Value) (base : Heap) where
  f_l_alike : Addr
  d_l_alike : FuncData
  e_l_alike : Dg K mg "_law_alike" st_l_alike ["_law_found", "_law_due_here"] f_l_alike d_l_alike
  f_l_bag : Addr
  d_l_bag : FuncData
  e_l_bag : Dg K mg "_law_bag" st_l_bag ["_law_script"] f_l_bag d_l_bag
  f_l_take : Addr
  d_l_take : FuncData
  e_l_take : Dg K mg "_law_take" st_l_take ["_law_bag_here", "_law_many"] f_l_take d_l_take
  f_l_name_near : Addr
  d_l_name_near : FuncData
  e_l_name_near : Dg K mg "_law_name_near" st_l_name_near ["_law_bag_here"] f_l_name_near d_l_name_near
  f_l_odd : Addr
  d_l_odd : FuncData
  e_l_odd : Dg K mg "_law_odd" st_l_odd ["_law_bag_here"] f_l_odd d_l_odd
  f_l_bent_table : Addr
  d_l_bent_table : FuncData
  e_l_bent_table : Dg K mg "_law_bent_table" st_l_bent_table ["_law_bag_here", "_law_row", "_law_others"] f_l_bent_table d_l_bent_table
  f_l_is_name : Addr
  d_l_is_name : FuncData
  e_l_is_name : Dg K mg "_law_is_name" st_l_is_name ["_law_thing"] f_l_is_name d_l_is_name
  f_l_is_table : Addr
  d_l_is_table : FuncData
  e_l_is_table : Dg K mg "_law_is_table" st_l_is_table ["_law_thing"] f_l_is_table d_l_is_table
  f_l_due : Addr
  d_l_due : FuncData
  e_l_due : Dg K mg "_law_due" st_l_due ["_law_thing"] f_l_due d_l_due
  f_l_mixed : Addr
  d_l_mixed : FuncData
  e_l_mixed : Dg K mg "_law_mixed" st_l_mixed ["_law_bag_here", "_law_things"] f_l_mixed d_l_mixed
  f_is_name : Addr
  d_is_name : FuncData
  e_is_name : Dg K mg "is_name" st_is_name ["thing"] f_is_name d_is_name
  f_is_table : Addr
  d_is_table : FuncData
  e_is_table : Dg K mg "is_table" st_is_table ["thing"] f_is_table d_is_table
  f_Question___init__ : Addr
  d_Question___init__ : FuncData
  e_Question___init__ : Df K "__init__" "Question.__init__" st_Question___init__ ["self", "tables"] f_Question___init__ d_Question___init__
  f_Question___contains__ : Addr
  d_Question___contains__ : FuncData
  e_Question___contains__ : Df K "__contains__" "Question.__contains__" st_Question___contains__ ["self", "thing"] f_Question___contains__ d_Question___contains__
  f_Question_need : Addr
  d_Question_need : FuncData
  e_Question_need : Df K "need" "Question.need" st_Question_need ["self", "names"] f_Question_need d_Question_need
  f_Question_columns : Addr
  d_Question_columns : FuncData
  e_Question_columns : Df K "columns" "Question.columns" st_Question_columns ["self", "table"] f_Question_columns d_Question_columns
  f_Question_tables : Addr
  d_Question_tables : FuncData
  e_Question_tables : Df K "tables" "Question.tables" st_Question_tables ["self"] f_Question_tables d_Question_tables
  f_l_told : Addr
  d_l_told : FuncData
  e_l_told : Dg K mg "_law_told" st_l_told ["_law_thing"] f_l_told d_l_told
  f_l_names : Addr
  d_l_names : FuncData
  e_l_names : Dg K mg "_law_names" st_l_names ["_law_bag_here", "_law_many"] f_l_names d_l_names
  f_l_web : Addr
  d_l_web : FuncData
  e_l_web : Dg K mg "_law_web" st_l_web ["_law_bag_here", "_law_most"] f_l_web d_l_web
  f_law : Addr
  d_law : FuncData
  e_law : Dg K mg "law" st_law ["_law_script"] f_law d_law
  t_ValueError : mg "ValueError" = none
  t_abs : mg "abs" = none
  t_all : mg "all" = none
  t_dict : mg "dict" = none
  t_enumerate : mg "enumerate" = none
  t_int : mg "int" = none
  t_isinstance : mg "isinstance" = none
  t_len : mg "len" = none
  t_list : mg "list" = none
  t_min : mg "min" = none
  t_range : mg "range" = none
  t_repr : mg "repr" = none
  t_set : mg "set" = none
  t_sorted : mg "sorted" = none
  t_str : mg "str" = none
  t_tuple : mg "tuple" = none
  t_zip : mg "zip" = none
  k_LETTERS : Tok
  c_LETTERS : mg "LETTERS" = some (.str "abcdefghijklmnopqrstuvwxyz" k_LETTERS)
  k_MOST_COLUMNS : Tok
  c_MOST_COLUMNS : mg "MOST_COLUMNS" = some (.int 8 k_MOST_COLUMNS)
  k_MOST_LETTERS : Tok
  c_MOST_LETTERS : mg "MOST_LETTERS" = some (.int 8 k_MOST_LETTERS)
  k_MOST_TABLES : Tok
  c_MOST_TABLES : mg "MOST_TABLES" = some (.int 6 k_MOST_TABLES)
  C_BadRow : Addr
  g_BadRow : mg "BadRow" = some (.ref C_BadRow)
  C_BadTable : Addr
  g_BadTable : mg "BadTable" = some (.ref C_BadTable)
  C_NoTable : Addr
  g_NoTable : mg "NoTable" = some (.ref C_NoTable)
  C_Question : Addr
  g_Question : mg "Question" = some (.ref C_Question)
  cl_Question : Cls K C_Question
  mk_Question : L2.Mk K C_Question f_Question___init__
  na_Question_held : NoAttr K C_Question "held"
  m_Question_need : Meth K C_Question "need" f_Question_need
  m_Question_columns : Meth K C_Question "columns" f_Question_columns
  m_Question_tables : Meth K C_Question "tables" f_Question_tables
  in_Question : PySem.W.findIn K (.ref C_Question) "__contains__" = some (some (.ref f_Question___contains__))
  fn_Question_contains : PySem.W.isFn K (.ref f_Question___contains__) = true
  C_RowError : Addr
  g_RowError : mg "RowError" = some (.ref C_RowError)
  C_TooMany : Addr
  g_TooMany : mg "TooMany" = some (.ref C_TooMany)
  C_Wrong : Addr
  g_Wrong : mg "Wrong" = some (.ref C_Wrong)
  I_BadTable : ErrI P w K mg base C_BadTable ["at"]
  E_BadTable : ErrC K C_BadTable C_RowError
  I_Wrong : ErrI P w K mg base C_Wrong ["place"]
  E_Wrong : ErrC K C_Wrong C_RowError
  kWV : PySem.W.kitOne K (.ref C_Wrong) (.type "ValueError") = some true
  kWA : PySem.W.kitAny K (.ref C_Wrong) [.ref C_BadRow, .ref C_NoTable, .ref C_TooMany] = some false
  kBV : PySem.W.kitOne K (.ref C_BadTable) (.type "ValueError") = some true
  kBA : PySem.W.kitAny K (.ref C_BadTable) [.ref C_BadRow, .ref C_NoTable, .ref C_TooMany] = some false
  kWW : PySem.W.kitOne K (.ref C_Wrong) (.ref C_Wrong) = some true
  kBW : PySem.W.kitOne K (.ref C_BadTable) (.ref C_Wrong) = some false
  kWB : PySem.W.kitOne K (.ref C_Wrong) (.ref C_BadTable) = some false
  kBB : PySem.W.kitOne K (.ref C_BadTable) (.ref C_BadTable) = some true
  sy : ∃ mm, base.Ns sysModules mm
section
variable {P : Program} {w : World} {K : PySem.W.Frag} {mg : Str → Option Value} {base : Heap}
theorem ok_take' {f : Addr} {fd : FuncData} (F : Fun K "_law_take" "_law_take" st_l_take f fd) (ml : mg "len" = none) (mi : mg "int" = none) :
    FnOk P w K mg base CX0 1 f fd ["_law_bag_here", "_law_many"] spTake := by
  refine F.ok sc_l_take (fun vs H Q E h => ?_) (fun cdv A outer s H vs Q E hr h => ?_)
  · obtain ⟨b, many, rfl, _⟩ := h
    rfl
  · obtain ⟨⟨b, L, cs⟩, many, rfl, ⟨x, y, z, B⟩, hm0, hm1, k⟩ := h
    replace B : Bag H b x y z L cs := B
    have nd := sc_l_take.nd
    refine ⟨_, C8.pss_cut (ps_if (pt_cmpR op_eq (pe_ix ix_list (pv 0) pe_int (fun _ _ => rfl)) pe_int (nomark _))
        (pss_cons (ps_set (i := 2) nd rfl (.inl rfl) pe_int)
        (C8.pss_cut (ps_if (pt_cmpR op_lt (pe_ix ix_list (pv 0) pe_int (fun _ _ => rfl)) (pe_callB call_len_seq (by rfl) ml PySem.boot_len (pa_cons (pe_ix ix_list (pv 0) pe_int (fun _ _ => rfl)) pa_nil)) (nomark _))
          (pss_one (ps_set (i := 2) nd rfl (.inl rfl) (pe_ix ix_list (pe_ix ix_list (pv 0) pe_int (fun _ _ => rfl)) (pe_ix ix_list (pv 0) pe_int (fun _ _ => rfl)) (fun _ _ => rfl)))) pss_nil)
        (pss_cons (ps_augS (pv 0) pe_int get_list pe_int ip_add set_list)
        (C8.pss_cut (ps_if (pt_cmpR op_ge (pv 2) pe_int (nomark _)) (pss_one (ps_asg (pv 2) (pg_sub (pv 0) pe_int set_list))) pss_nil)
        (pss_cons (ps_set (i := 3) nd rfl (.inl rfl) (pe_op op_add (pe_op op_add (pe_op op_mul (pe_ix ix_list (pv 0) pe_int (fun _ _ => rfl)) pe_int)
            (pe_op op_mod (pe_callTy call_int1 (by rfl) mi (by decide +kernel) (pa_cons (pv 2) pa_nil)) pe_int)) (pe_op op_mul pe_int (pe_ix ix_list (pv 0) pe_int (fun _ _ => rfl)))))
        (pss_one (ps_asg (pe_op op_mod (pe_callTy call_int1 (by rfl) mi (by decide +kernel) (pa_cons (pv 3) pa_nil)) pe_int) (pg_sub (pv 0) pe_int set_list)))))))) pss_nil)
      (pss_cons (ps_if (pt_cmpR op_gt (pe_ix ix_list (pv 0) pe_int (fun _ _ => rfl)) pe_int (nomark _))
        (pss_cons (ps_set (i := 4) nd rfl (.inl rfl) (pe_op op_mod (pe_callTy call_int1 (by rfl) mi (by decide +kernel) (pa_cons (pe_ix ix_list (pv 0) pe_int (fun _ _ => rfl)) pa_nil)) (pv 1)))
        (pss_cons (ps_asg (pe_op op_fdivW (pe_ix ix_list (pv 0) pe_int (fun _ _ => rfl)) (pv 1)) (pg_sub (pv 0) pe_int set_list))
        (pss_one (ps_ret (pv 4))))) pss_nil)
      (pss_cons (ps_set (i := 5) nd rfl (.inl rfl) (pe_op op_mod (pe_callTy call_int1 (by rfl) mi (by decide +kernel) (pa_cons (pe_op op_mul (pe_op op_add (pe_ix ix_list (pv 0) pe_int (fun _ _ => rfl)) pe_int) pe_int) pa_nil)) pe_int))
      (pss_cons (ps_set (i := 6) nd rfl (.inl rfl) (pe_op op_mod (pe_callTy call_int1 (by rfl) mi (by decide +kernel) (pa_cons (pe_op op_mul (pe_op op_mod (pe_callTy call_int1 (by rfl) mi (by decide +kernel) (pa_cons (pe_op op_mul (pv 5) (pv 5)) pa_nil)) pe_int) pe_int) pa_nil)) pe_int))
      (pss_cons (ps_if (pt_cmpR op_gt (pv 1) pe_int (nomark _)) (pss_one (ps_ret (pe_op op_mod (pe_callTy call_int1 (by rfl) mi (by decide +kernel) (pa_cons (pe_op op_add (pe_op op_mul (pv 6) pe_int) (pv 5)) pa_nil)) (pv 1)))) pss_nil)
      (pss_one (ps_ret (pe_op op_mod (pe_callTy call_int1 (by rfl) mi (by decide +kernel) (pa_cons (pe_op op_fdiv (pv 6) pe_int) pa_nil)) (pv 1)))))))), ?_⟩
    refine ⟨fun σ' H' => ∃ x' y' z' v2 v3, σ' = [some (.ref b), some (.int many), v2, v3, none, none, none] ∧ 0 ≤ x' ∧ 0 ≤ z' ∧ H' = upd H b (.lst [.int x', .int y', .int z', .ref L]), ?_, ?_⟩
    · refine ⟨_, rfl, b, _, 0, _, rfl, rfl, SqL.of B.at_, rfl, rfl, _, rfl, ite2 (fun e => ?_) (fun e => ?_)⟩
      · -- the bag's first number is 0
        have hz : (decide (z < (cs.map V.int).length) = true) ∨ (decide (z < (cs.map V.int).length) = false) := by
          cases decide (z < (cs.map V.int).length) <;> simp
        refine ⟨fun σ' H' => ∃ c : Int, 0 ≤ c ∧ σ' = [some (.ref b), some (.int many), some (.int c), none, none, none, none] ∧ H' = H, ?_, ?_⟩
        · refine ⟨_, rfl, b, _, 2, _, rfl, rfl, SqL.of B.at_, rfl, _, rfl, b, _, 3, _, rfl, rfl, SqL.of B.at_, rfl, L, _, rfl, .inl (SqL.of B.cells), _, _, rfl, rfl, _, rfl, ite2 (fun e2 => ?_) (fun e2 => ?_)⟩
          · have e3 : z < (cs.map V.int).length := of_decide_eq_true e2
            rw [List.length_map] at e3
            have e4 : z.toNat < cs.length := by have := B.z0; omega
            have e5 : (cs.map V.int)[z.toNat]? = some (.int cs[z.toNat]) := by
              rw [List.getElem?_map, List.getElem?_eq_getElem e4]
              rfl
            have e6 : atI (cs.map V.int) z = some (.int cs[z.toNat]) := by
              have := atI_nat e5
              rwa [Int.toNat_of_nonneg B.z0] at this
            exact ⟨_, rfl, b, _, 3, _, rfl, rfl, SqL.of B.at_, rfl, _, rfl, b, _, 2, _, rfl, rfl, SqL.of B.at_, rfl, L, _, z, _, rfl, rfl, SqL.of B.cells, e6, _, B.c0 _ (List.getElem_mem e4), rfl, rfl⟩
          · exact ⟨0, Int.le_refl 0, rfl, rfl⟩
        · rintro σ' H' ⟨c, hc, rfl, rfl⟩
          refine ⟨_, rfl, b, _, 2, _, rfl, rfl, SqL.of B.at_, rfl, z, 1, rfl, rfl, b, _, 2, 2, rfl, rfl, B.at_, rfl, ?_⟩
          have hb1 : ∀ o, (upd H' b o) b = some o := fun o => upd_same
          refine ⟨fun σ' H2 => ∃ x', 0 ≤ x' ∧ σ' = [some (.ref b), some (.int many), some (.int c), none, none, none, none] ∧ H2 = upd H' b (.lst [.int x', .int y, .int (z + 1), .ref L]), ?_, ?_⟩
          · refine ⟨_, rfl, _, _, rfl, rfl, _, rfl, ite2 (fun e2 => ?_) (fun e2 => ?_)⟩
            · exact ⟨_, rfl, _, rfl, b, _, 0, 0, rfl, rfl, upd_same, rfl, c, hc, rfl, by rw [upd_upd] <;> rfl⟩
            · exact ⟨x, B.x0, rfl, rfl⟩
          · rintro σ' H2 ⟨x', hx', rfl, rfl⟩
            refine ⟨_, rfl, b, _, 1, _, rfl, rfl, SqL.of upd_same, rfl, y, _, rfl, rfl, .inr ⟨by decide, by decide⟩, _, rfl, .inl ⟨c, rfl, _, _, rfl, rfl, (by show (0 : Int) < 2147483647; decide), _, _, rfl, rfl, _, rfl, b, _, 2, _, rfl, rfl, SqL.of upd_same, rfl, _, _, rfl, rfl, .inl ⟨by decide, by decide⟩, _, _, rfl, rfl, ?_⟩⟩
            refine ⟨_, rfl, .inl ⟨_, rfl, _, _, rfl, rfl, (by show (0 : Int) < 2147483647; decide), _, rfl, b, _, 1, 1, rfl, rfl, upd_same, rfl, x', _, z + 1, _, _, rfl, hx', by have := B.z0; omega, by rw [upd_upd] <;> rfl⟩⟩
      · refine ⟨x, y, z, none, none, rfl, B.x0, B.z0, ?_⟩
        funext a
        by_cases ha : a = b
        · subst ha
          rw [upd_same]
          exact B.at_
        · rw [upd_ne ha]
    · rintro σ' H' ⟨x', y', z', v2, v3, rfl, hx', hz', rfl⟩
      have hB := B.put (y' := y') hx' hz'
      refine ⟨_, rfl, b, _, 0, _, rfl, rfl, SqL.of upd_same, rfl, x', 0, rfl, rfl, _, rfl, ite2 (fun e => ?_) (fun e => ?_)⟩
      · have e1 : 0 < x' := of_decide_eq_true e
        refine ⟨_, rfl, b, _, 0, _, rfl, rfl, SqL.of upd_same, rfl, .inl ⟨x', rfl, _, rfl, x', many, rfl, rfl, hm0, ?_⟩⟩
        refine ⟨_, rfl, b, _, 0, _, rfl, rfl, SqL.of upd_same, rfl, _, rfl, x', many, rfl, rfl, wide_div hm0 (b := 60) (by omega) (by decide) (by decide), _, rfl, b, _, 0, 0, rfl, rfl, upd_same, rfl, ?_⟩
        refine ⟨_, rfl, ?_⟩
        rw [upd_upd]
        refine k _ _ (Int.emod_nonneg _ (by omega)) (Int.emod_lt_of_pos _ hm0) ?_
        exact ⟨_, _, _, B.put (x' := x' / many) (y' := y') (Int.ediv_nonneg hx' (by omega)) hz'⟩
      · refine ⟨_, rfl, b, _, 1, _, rfl, rfl, SqL.of upd_same, rfl, y', 1, rfl, rfl, y' + 1, _, rfl, rfl, .inr ⟨by decide, by decide⟩, .inl ⟨_, rfl, _, _, rfl, rfl, (by show (0 : Int) < 1000000007; decide), ?_⟩⟩
        have h1 := Int.emod_nonneg ((y' + 1) * 39373) (show (1000000007 : Int) ≠ 0 by decide)
        have h2 := Int.emod_lt_of_pos ((y' + 1) * 39373) (show (0 : Int) < 1000000007 by decide)
        refine ⟨_, rfl, _, rfl, _, _, rfl, rfl, .inl ⟨by omega, by omega⟩, .inl ⟨_, rfl, _, _, rfl, rfl, (by show (0 : Int) < 998244353; decide), _, _, rfl, rfl, .inr ⟨by decide, by decide⟩, .inl ⟨_, rfl, _, _, rfl, rfl, (by show (0 : Int) < 998244353; decide), ?_⟩⟩⟩
        refine ⟨_, rfl, _, _, rfl, rfl, _, rfl, ite2 (fun e2 => ?_) (fun e2 => ?_)⟩
        · refine ⟨_, rfl, _, _, rfl, rfl, .inr ⟨by decide, by decide⟩, _, rfl, _, _, rfl, rfl, .inl ⟨_, rfl, _, rfl, _, many, rfl, rfl, hm0, ?_⟩⟩
          exact k _ _ (Int.emod_nonneg _ (by omega)) (Int.emod_lt_of_pos _ hm0) ⟨_, _, _, hB⟩
        · refine ⟨_, rfl, _, _, rfl, rfl, ⟨by decide, by decide⟩, .inl ⟨_, rfl, _, rfl, _, many, rfl, rfl, hm0, ?_⟩⟩
          exact k _ _ (Int.emod_nonneg _ (by omega)) (Int.emod_lt_of_pos _ hm0) ⟨_, _, _, hB⟩
theorem ok_bag' {f : Addr} {fd : FuncData} (F : Fun K "_law_bag" "_law_bag" st_l_bag f fd) (mb : mg "abs" = none) : FnOk P w K mg base CX0 1 f fd ["_law_script"] (spBag K) := by
  refine F.ok sc_l_bag (fun vs H Q E h => ?_) (fun cdv A outer s H vs Q E hr h => ?_)
  · obtain ⟨a, ns, rfl, _⟩ := h
    rfl
  · obtain ⟨a, ns, rfl, hS, hlen, k⟩ := h
    refine ⟨_, pss_one (ps_ret (pe_lst (pa_cons pe_int (pa_cons pe_int (pa_cons pe_int (pa_cons (pe_lc (own := [("_law_cell", 1)]) (g := gName 1) (by rfl) sc_l_bag.nd (pi_list (pe_slice sl_list (pv 0) po_none (po_some pe_int)))
      (blkOk_by (own := [("_law_cell", 1)]) (N := ["_law_script", "_law_cell"]) (sc := defScope st_l_bag) (by decide +kernel)) (fun _ _ _ _ _ => pg_name (i := 1) sc_l_bag.nd rfl (Or.inl rfl)) (fun _ _ _ _ _ => pts_nil)
      (fun _ _ _ _ _ => pe_callB call_abs (by rfl) mb (by decide +kernel) (pa_cons (pv 1) pa_nil))) pa_nil)))))), ?_⟩
    obtain ⟨ms, hms⟩ := cut_ints ns none (some 63)
    have hml : ms.length ≤ 63 := by
      have h1 := congrArg List.length hms
      have h2 := cutV_length (ns.map V.int) none (some 63)
      rw [h1, List.length_map, List.length_map] at h2
      omega
    refine ⟨_, rfl, 63, rfl, a, _, rfl, hS, fun c hc => ⟨c, rfl, ⟨_, SqL.of upd_same⟩, fun D hD => ?_⟩⟩
    rw [hms] at hD ⊢
    have sm0 : Same H (upd H c (.lst (ms.map V.int))) := same_new hc
    refine lc_map (walk_list (xs := ms.map V.int)) (line200 (by rw [List.length_map]; omega)) hD (fun H1 sm => sm.seq (SqL.of upd_same)) (fun i => (ms[i]?).map fun z => V.int (if z < 0 then -z else z)) (fun i y H1 H2 R Rn hi sm hy h4 h5 => ?_) (fun H1 sm e => ?_)
    · obtain ⟨rfl, hy⟩ := hy
      rw [List.getElem?_map] at hy
      cases q : ms[i]? with
      | none => rw [q] at hy; cases hy
      | some z =>
        rw [q] at hy
        cases hy
        refine ⟨rfl, _, rfl, z, rfl, h4 _ _ ?_ (Same.refl _)⟩
        rw [q]
        rfl
    · refine ⟨by show 4 ≤ sizeLine; decide, fun b hb => ?_⟩
      have smb : Same H1 (upd H1 b (.lst [.int 0, .int 1234567891, .int 0, .ref D])) := same_new hb
      refine k ⟨b, D, ms.map fun z => if z < 0 then -z else z⟩ _ (sm0.trans (sm.trans smb)) ((sm0.trans sm).free hb) ⟨0, 1234567891, 0, upd_same, ?_, Int.le_refl 0, Int.le_refl 0, fun z hz => ?_⟩
      · rw [upd_ne (ne_of_none e hb), e, List.length_map, range_map (fun z => V.int (if z < 0 then -z else z)), List.map_map]
        rfl
      · obtain ⟨y, _, rfl⟩ := List.mem_map.mp hz
        split <;> omega
end
section
variable {P : Program} {w : World} {K : PySem.W.Frag} {mg : Str → Option Value} {base : Heap} {f fT fO fN fP : Addr} {fd fdT fdO fdN fdP : FuncData}
theorem ok_l_take (W : Wd P w K mg base) : FnG P w K mg base CX0 1 W.f_l_take W.d_l_take ["_law_bag_here", "_law_many"] (spD K denTake) := take_ok (ok_take' W.e_l_take.F W.t_len W.t_int)
theorem ok_l_bag (W : Wd P w K mg base) : FnG P w K mg base CX0 1 W.f_l_bag W.d_l_bag ["_law_script"] (spBag K) := .of (ok_bag' W.e_l_bag.F W.t_abs)
end
end Q
set_option Elab.async false
set_option linter.all false
set_option maxRecDepth 100000
set_option maxHeartbeats 4000000
namespace Q
open PySem PySem.Spec PyProof.Rows L2 My
section
variable {P : Program} {w : World} {K : PySem.W.Frag} {mg : Str → Option Value} {base : Heap}
theorem ok_l_alike (W : Wd P w K mg base) : FnG P w K mg base CX0 1 W.f_l_alike W.d_l_alike ["_law_found", "_law_due_here"] (spD K (den_l_alikeE)) := by
  refine qfn (k := 0) W.e_l_alike.F sc_l_alike ln_l_alikeE (fun cdv A outer s H E g0 hr hg => (qss_one (qs_ret (qe_and (qc (d_eqE (room200 hr)) (qv 0) (qv 1)) (qe_one (qc (d_eq (room64 hr)) (qB (d_repr hg (room200 hr) W.sy) W.t_repr (qa_cons (qv 0) qa_nil)) (qB (d_repr hg (room200 hr) W.sy) W.t_repr (qa_cons (qv 1) qa_nil)))))))) ?_
  rintro ds M Q ⟨x, y, d, rfl, hx, hy, he, hp, hs, q⟩
  dsimp only [wMakeE, wRevT, wOrN, wKeysT, wLendW, wSlQ, gSetN, wLendN, wFzT, sAug, gN, gSet, gT0, gT1, gTup, sFldD, wAnd, wAndV, wAsg, wB, wBM, wBM0, wC, wChain, wCons, wDc, wDnew, wDrop, wEnum, wFld, wFor, wFrz, wFrzD, wFz, wIf, wIfS, wItems, wLc, wLcM, wLst, wLstM, wMake, wMakeM, wMeth, wN, wNever, wNext, wNil, wNoPart, wNot, wNotV, wOp, wOr, wOrV, wPar, wPar3, wPart, wPass, wRet, wRevS, wRng1, wRng2, wSeq, wSl, wTup, wUn, wVar, wYes, wZip, enD, enW, outE, wMethE, wBinE, wRaise0, rdBinO, wFrzDO, wFrzDD, wSlX, wFmt, wJoin, wJs, wItemsL, rdLenO, rdReprO, rdEqO, wNE, wNEN, wRaise, wTry, hcont, wXf, rdIsE, rdIsEV, wFrzO, wFzL, wDnewT, wVals, wItemsD, wEither, wForM, wSlM, wLendE, wLendT, wLendL, wFmtRO, wFmtRD, wBMX, wTupX, wLendD, wOrD, wRev2, wRevI, wFrzTT, wFrzT, wDcT, wDisp1T, wGz, wPrs, wDisp, wDcN, wDnewN]
  refine ⟨_, rfl, _, rfl, eqE_both hx hy he ⟨_, rfl, ?_⟩⟩
  refine ⟨_, rfl, _, rfl, by rw [hx]; exact hp, by rw [hx]; exact hs, _, rfl, _, rfl, by rw [hy]; exact hp, by rw [hy]; exact hs, ?_⟩
  show Q (.bl (false ^^ decide ((look M x).py.shown = (look M y).py.shown))) M
  rw [hx, hy]
  simpa using q
end
end Q
set_option Elab.async false
set_option linter.all false
set_option maxRecDepth 100000
set_option maxHeartbeats 4000000
namespace Q
open PySem PySem.Spec PyProof.Rows L2 My
section
variable {P : Program} {w : World} {K : PySem.W.Frag} {mg : Str → Option Value} {base : Heap}
theorem ok_l_name_near (W : Wd P w K mg base) : FnG P w K mg base CX0 2 W.f_l_name_near W.d_l_name_near ["_law_bag_here"] (spD K (den_l_name_near)) := by
  refine qfn (k := 1) W.e_l_name_near.F sc_l_name_near ln_l_name_near (fun cdv A outer s H E g0 hr hg => (qss_cons (qs_set (i := 1) sc_l_name_near.nd qe_str) (qss_cons (qs_set (i := 2) sc_l_name_near.nd (qe_bm PySem.F.plainAttrs_str PySem.F.slot_str_join PySem.F.type_str_join d_join qe_str (qa_cons (qe_lc rfl sc_l_name_near.nd (qi_range1 W.t_range (qa_cons (qe_call (ok_l_take W) mo_l_take (hr.mono (by decide)) hg W.e_l_take.mg W.e_l_take.F.kp W.e_l_take.bd (qa_cons (qv 0) (qa_cons qe_int qa_nil))) qa_nil)) (blkOk_by (own := [("_law_k", 3)]) (N := N_l_name_near) (sc := defScope st_l_name_near) (by decide +kernel)) (fun _ _ _ _ _ => qgo_name (i := 3) sc_l_name_near.nd) (fun _ _ _ _ _ _ => qts_nil) (fun _ _ _ _ _ _ => (qix (d_ix (room1 hr)) qe_str (qe_call (ok_l_take W) mo_l_take (hr.mono (by decide)) hg W.e_l_take.mg W.e_l_take.F.kp W.e_l_take.bd (qa_cons (qv 0) (qa_cons qe_int qa_nil)))))) qa_nil))) (qss_cons (qs_par (i := 4) (j := 5) rfl sc_l_name_near.nd (qa_cons (qe_call (ok_l_take W) mo_l_take (hr.mono (by decide)) hg W.e_l_take.mg W.e_l_take.F.kp W.e_l_take.bd (qa_cons (qv 0) (qa_cons (q2 d_add (qB d_len W.t_len (qa_cons (qv 2) qa_nil)) qe_int) qa_nil))) (qa_cons (qix (d_ix (room1 hr)) (qv 1) (qe_call (ok_l_take W) mo_l_take (hr.mono (by decide)) hg W.e_l_take.mg W.e_l_take.F.kp W.e_l_take.bd (qa_cons (qv 0) (qa_cons qe_int qa_nil)))) qa_nil))) (qss_one (qs_ret (qix (d_ix (room1 hr)) (qe_lst (qa_cons (qv 2) (qa_cons (q2 d_add (q2 d_add (qsl (qv 2) qo_none (qo_some (qv 4))) (qv 5)) (qsl (qv 2) (qo_some (qv 4)) qo_none)) (qa_cons (q2 d_add (q2 d_add (qsl (qv 2) qo_none (qo_some (qv 4))) (qv 5)) (qsl (qv 2) (qo_some (q2 d_add (qv 4) qe_int)) qo_none)) qa_nil)))) (qe_call (ok_l_take W) mo_l_take (hr.mono (by decide)) hg W.e_l_take.mg W.e_l_take.F.kp W.e_l_take.bd (qa_cons (qv 0) (qa_cons qe_int qa_nil)))))))))) ?_
  rintro ds M Q ⟨rfl, q⟩
  have z2 : ∀ c ∈ (Str.ofString "az").cps.toList, c < 128 := by decide +kernel
  have l2 : (Str.ofString "az").cps.toList.length = 2 := by decide +kernel
  have zs : ∀ c ∈ (Str.ofString "abmyz`{@AZ 0_-.\n~").cps.toList, c < 128 := by decide +kernel
  have ls : (Str.ofString "abmyz`{@AZ 0_-.\n~").cps.toList.length = 17 := by decide +kernel
  refine seq_cut (fun z => z = ⟨[some .bag, some (.str (Str.ofString "abmyz`{@AZ 0_-.\n~")), none, none, none, none], M⟩) (fun k hk => ?_) (fun z hz => ?_)
  · dsimp only [wMakeE, wRevT, wOrN, wKeysT, wLendW, wSlQ, gSetN, wLendN, wFzT, sAug, gN, gSet, gT0, gT1, gTup, sFldD, wAnd, wAndV, wAsg, wB, wBM, wBM0, wC, wChain, wCons, wDc, wDnew, wDrop, wEnum, wFld, wFor, wFrz, wFrzD, wFz, wIf, wIfS, wItems, wLc, wLcM, wLst, wLstM, wMake, wMakeM, wMeth, wN, wNever, wNext, wNil, wNoPart, wNot, wNotV, wOp, wOr, wOrV, wPar, wPar3, wPart, wPass, wRet, wRevS, wRng1, wRng2, wSeq, wSl, wTup, wUn, wVar, wYes, wZip, enD, enW, outE, wMethE, wBinE, wRaise0, rdBinO, wFrzDO, wFrzDD, wSlX, wFmt, wJoin, wJs, wItemsL, rdLenO, rdReprO, rdEqO, wNE, wNEN, wRaise, wTry, hcont, wXf, rdIsE, rdIsEV, wFrzO, wFzL, wDnewT, wVals, wItemsD, wEither, wForM, wSlM, wLendE, wLendT, wLendL, wFmtRO, wFmtRD, wBMX, wTupX, wLendD, wOrD, wRev2, wRevI, wFrzTT, wFrzT, wDcT, wDisp1T, wGz, wPrs, wDisp, wDcN, wDnewN]
    exact hk _ rfl
  subst hz
  refine seq_cut (fun z => ∃ t : Str, TxOk 10 t ∧ z = ⟨[some .bag, some (.str (Str.ofString "abmyz`{@AZ 0_-.\n~")), some (.str t), none, none, none], M⟩) (fun k hk => ?_) (fun z hz => ?_)
  · dsimp only [wMakeE, wRevT, wOrN, wKeysT, wLendW, wSlQ, gSetN, wLendN, wFzT, sAug, gN, gSet, gT0, gT1, gTup, sFldD, wAnd, wAndV, wAsg, wB, wBM, wBM0, wC, wChain, wCons, wDc, wDnew, wDrop, wEnum, wFld, wFor, wFrz, wFrzD, wFz, wIf, wIfS, wItems, wLc, wLcM, wLst, wLstM, wMake, wMakeM, wMeth, wN, wNever, wNext, wNil, wNoPart, wNot, wNotV, wOp, wOr, wOrV, wPar, wPar3, wPart, wPass, wRet, wRevS, wRng1, wRng2, wSeq, wSl, wTup, wUn, wVar, wYes, wZip, enD, enW, outE, wMethE, wBinE, wRaise0, rdBinO, wFrzDO, wFrzDD, wSlX, wFmt, wJoin, wJs, wItemsL, rdLenO, rdReprO, rdEqO, wNE, wNEN, wRaise, wTry, hcont, wXf, rdIsE, rdIsEV, wFrzO, wFzL, wDnewT, wVals, wItemsD, wEither, wForM, wSlM, wLendE, wLendT, wLendL, wFmtRO, wFmtRD, wBMX, wTupX, wLendD, wOrD, wRev2, wRevI, wFrzTT, wFrzT, wDcT, wDisp1T, wGz, wPrs, wDisp, wDcN, wDnewN]
    refine ⟨rfl, _, rfl, 11, rfl, by decide, by decide, fun v v0 v1 => ?_⟩
    obtain ⟨m, rfl⟩ := Int.eq_ofNat_of_zero_le v0
    refine ⟨_, rfl, by omega, by omega, rng_len (by omega), ?_⟩
    refine lcGo_ind (fun rest acc M' => M' = M ∧ ∃ ys : List Str, acc = sts ys ∧ ys.length + rest.length = m ∧ ∀ y ∈ ys, TxOk 1 y) ?_ ?_ _ _ _ ⟨rfl, [], rfl, by simp, fun y h => (nomatch h)⟩
    · rintro d rest acc M' k' ⟨rfl, ys, rfl, hl, hy⟩ hk'
      dsimp only [wMakeE, wRevT, wOrN, wKeysT, wLendW, wSlQ, gSetN, wLendN, wFzT, sAug, gN, gSet, gT0, gT1, gTup, sFldD, wAnd, wAndV, wAsg, wB, wBM, wBM0, wC, wChain, wCons, wDc, wDnew, wDrop, wEnum, wFld, wFor, wFrz, wFrzD, wFz, wIf, wIfS, wItems, wLc, wLcM, wLst, wLstM, wMake, wMakeM, wMeth, wN, wNever, wNext, wNil, wNoPart, wNot, wNotV, wOp, wOr, wOrV, wPar, wPar3, wPart, wPass, wRet, wRevS, wRng1, wRng2, wSeq, wSl, wTup, wUn, wVar, wYes, wZip, enD, enW, outE, wMethE, wBinE, wRaise0, rdBinO, wFrzDO, wFrzDD, wSlX, wFmt, wJoin, wJs, wItemsL, rdLenO, rdReprO, rdEqO, wNE, wNEN, wRaise, wTry, hcont, wXf, rdIsE, rdIsEV, wFrzO, wFzL, wDnewT, wVals, wItemsD, wEither, wForM, wSlM, wLendE, wLendT, wLendL, wFmtRO, wFmtRD, wBMX, wTupX, wLendD, wOrD, wRev2, wRevI, wFrzTT, wFrzT, wDcT, wDisp1T, wGz, wPrs, wDisp, wDcN, wDnewN]
      refine ⟨_, rfl, 2, rfl, by decide, by decide, fun a a0 a1 => ?_⟩
      have h : a.toNat < (Str.ofString "az").cps.toList.length := by omega
      refine ⟨a, _, rfl, by decide, atI_at a0 h, hk' _ _ ⟨rfl, ys ++ [⟨#[_]⟩], by show sts ys ++ _ = List.map _ _; rw [List.map_append]; rfl, by rw [List.length_append, List.length_singleton]; rw [List.length_cons] at hl; omega, fun y h' => ?_⟩⟩
      rcases List.mem_append.mp h' with h' | h'
      · exact hy y h'
      · rw [List.mem_singleton.mp h']
        exact TxOk.one (z2 _ (List.getElem_mem h))
    · rintro acc M' ⟨rfl, ys, rfl, hl, hy⟩
      have := sumlen_le (n := 1) hy
      rw [List.length_nil] at hl
      refine ⟨_, _, _, ys, rfl, rfl, rfl, strsD_sts _, by rw [show (Str.ofString "").length = 0 from rfl]; omega, hk _ ⟨_, (TxOk.join hy).mono (by omega), rfl⟩⟩
  obtain ⟨t, ht, rfl⟩ := hz
  have hz : ∀ n : Nat, n ≤ 1000 → n ≤ sizeLine := fun n h => by rw [sizeLine_eq]; omega
  refine seq_cut (fun z => ∃ (a : Nat) (s : Str), TxOk 1 s ∧ z = ⟨[some .bag, some (.str (Str.ofString "abmyz`{@AZ 0_-.\n~")), some (.str t), none, some (.int a), some (.str s)], M⟩) (fun k hk => ?_) (fun z hz => ?_)
  · dsimp only [wMakeE, wRevT, wOrN, wKeysT, wLendW, wSlQ, gSetN, wLendN, wFzT, sAug, gN, gSet, gT0, gT1, gTup, sFldD, wAnd, wAndV, wAsg, wB, wBM, wBM0, wC, wChain, wCons, wDc, wDnew, wDrop, wEnum, wFld, wFor, wFrz, wFrzD, wFz, wIf, wIfS, wItems, wLc, wLcM, wLst, wLstM, wMake, wMakeM, wMeth, wN, wNever, wNext, wNil, wNoPart, wNot, wNotV, wOp, wOr, wOrV, wPar, wPar3, wPart, wPass, wRet, wRevS, wRng1, wRng2, wSeq, wSl, wTup, wUn, wVar, wYes, wZip, enD, enW, outE, wMethE, wBinE, wRaise0, rdBinO, wFrzDO, wFrzDD, wSlX, wFmt, wJoin, wJs, wItemsL, rdLenO, rdReprO, rdEqO, wNE, wNEN, wRaise, wTry, hcont, wXf, rdIsE, rdIsEV, wFrzO, wFzL, wDnewT, wVals, wItemsD, wEither, wForM, wSlM, wLendE, wLendT, wLendL, wFmtRO, wFmtRD, wBMX, wTupX, wLendD, wOrD, wRev2, wRevI, wFrzTT, wFrzT, wDcT, wDisp1T, wGz, wPrs, wDisp, wDcN, wDnewN]
    have t1 := ht.1
    refine ⟨_, rfl, _, rfl, ?_⟩
    refine ⟨_, rfl, hz _ (by omega), ⟨_, rfl, by omega, by omega, fun a a0 a1 => ?_⟩⟩
    obtain ⟨m, rfl⟩ := Int.eq_ofNat_of_zero_le a0
    refine ⟨_, rfl, _, rfl, 17, rfl, by decide, by decide, fun b b0 b1 => ?_⟩
    have h : b.toNat < (Str.ofString "abmyz`{@AZ 0_-.\n~").cps.toList.length := by omega
    exact ⟨b, _, rfl, by decide, atI_at b0 h, _, _, rfl, hk _ ⟨m, _, TxOk.one (zs _ (List.getElem_mem h)), rfl⟩⟩
  obtain ⟨a, s, hs, rfl⟩ := hz
  have hA := ht.cut none (some (a : Int))
  have hB := ht.cut (some (a : Int)) none
  have hC := ht.cut (some ((a : Int) + 1)) none
  have hAs := hA.app hs
  have hAB := (hAs.app hB).mono (m := 30) (by omega)
  have hAC := (hAs.app hC).mono (m := 30) (by omega)
  have t1 := ht.1
  have a1 := hA.1
  have b1 := hB.1
  have c1 := hC.1
  have s1 := hs.1
  have as1 := hAs.1
  dsimp only [wMakeE, wRevT, wOrN, wKeysT, wLendW, wSlQ, gSetN, wLendN, wFzT, sAug, gN, gSet, gT0, gT1, gTup, sFldD, wAnd, wAndV, wAsg, wB, wBM, wBM0, wC, wChain, wCons, wDc, wDnew, wDrop, wEnum, wFld, wFor, wFrz, wFrzD, wFz, wIf, wIfS, wItems, wLc, wLcM, wLst, wLstM, wMake, wMakeM, wMeth, wN, wNever, wNext, wNil, wNoPart, wNot, wNotV, wOp, wOr, wOrV, wPar, wPar3, wPart, wPass, wRet, wRevS, wRng1, wRng2, wSeq, wSl, wTup, wUn, wVar, wYes, wZip, enD, enW, outE, wMethE, wBinE, wRaise0, rdBinO, wFrzDO, wFrzDD, wSlX, wFmt, wJoin, wJs, wItemsL, rdLenO, rdReprO, rdEqO, wNE, wNEN, wRaise, wTry, hcont, wXf, rdIsE, rdIsEV, wFrzO, wFzL, wDnewT, wVals, wItemsD, wEither, wForM, wSlM, wLendE, wLendT, wLendL, wFmtRO, wFmtRD, wBMX, wTupX, wLendD, wOrD, wRev2, wRevI, wFrzTT, wFrzT, wDcT, wDisp1T, wGz, wPrs, wDisp, wDcN, wDnewN]
  refine ⟨_, rfl, _, rfl, _, rfl, _, rfl, hz _ (by omega), _, rfl, add_str (hz _ (by omega)) ⟨_, rfl, _, rfl, _, rfl, hz _ (by omega), add_str (hz _ (by omega)) ⟨_, rfl, _, rfl, _, rfl, hz _ (by omega), _, rfl, add_str (hz _ (by omega)) ?_⟩⟩⟩
  refine ⟨_, rfl, _, rfl, _, rfl, hz _ (by omega), add_str (hz _ (by omega)) ⟨hz 3 (by omega), _, rfl, 3, rfl, by decide, by decide, fun v v0 v1 => ?_⟩⟩
  rcases (show v = 0 ∨ v = 1 ∨ v = 2 by omega) with rfl | rfl | rfl
  · exact ix_l rfl (atI_nat (j := 0) rfl) (q _ (ht.mono (by omega)))
  · exact ix_l rfl (atI_nat (j := 1) rfl) (q _ hAB)
  · exact ix_l rfl (atI_nat (j := 2) rfl) (q _ hAC)
end
end Q
set_option Elab.async false
set_option linter.all false
set_option maxRecDepth 100000
set_option maxHeartbeats 4000000
namespace Q
open PySem PySem.Spec PyProof.Rows L2 My
section
variable {P : Program} {w : World} {K : PySem.W.Frag} {mg : Str → Option Value} {base : Heap}
theorem ok_l_odd (W : Wd P w K mg base) : FnG P w K mg base CX0 2 W.f_l_odd W.d_l_odd ["_law_bag_here"] (spD K (den_l_odd13)) := by
  refine qfn (k := 1) W.e_l_odd.F sc_l_odd ln_l_odd13 (fun cdv A outer s H E g0 hr hg => (qss_cons (qs_set (i := 1) sc_l_odd.nd (qe_lst qa_nil)) (qss_cons (qs_for PassesOwn.never rfl (qi_range1 W.t_range (qa_cons qe_int qa_nil)) (qg_name (i := 2) sc_l_odd.nd) (qss_one (qs_set (i := 1) sc_l_odd.nd (qix (d_ix (room1 hr)) (qe_lst (qa_cons (qe_lst (qa_cons (qv 1) qa_nil)) (qa_cons (qe_tup (qa_cons (qv 1) qa_nil)) qa_nil))) (qT d_int W.t_int (qa_cons (qc d_gt (qv 2) qe_int) qa_nil)))))) (qss_cons (qs_set (i := 3) sc_l_odd.nd (qe_lst (qa_cons qe_non (qa_cons qe_bl (qa_cons qe_bl (qa_cons (q1 d_neg qe_int) (qa_cons qe_int (qa_cons qe_int (qa_cons (q2 d_pow qe_int qe_int) (qa_cons (q1 d_neg (q2 d_pow qe_int qe_int)) (qa_cons qe_str (qa_cons qe_str (qa_cons qe_str (qa_cons qe_str (qa_cons (qe_tup qa_nil) (qa_cons (qe_tup (qa_cons qe_str qa_nil)) (qa_cons (qe_tup (qa_cons qe_str (qa_cons qe_str qa_nil))) (qa_cons (qe_lst (qa_cons qe_str qa_nil)) (qa_cons (qe_lst (qa_cons qe_int qa_nil)) qa_nil))))))))))))))))))) (qss_cons (qs_set (i := 3) sc_l_odd.nd (q2 d_add (qv 3) (qe_lst (qa_cons (qe_tup (qa_cons qe_int qa_nil)) (qa_cons (qe_tup (qa_cons qe_bl qa_nil)) (qa_cons (qe_tup (qa_cons qe_int (qa_cons (q1 d_neg qe_int) qa_nil))) (qa_cons (qe_tup (qa_cons qe_non qa_nil)) (qa_cons (qe_fz qe_dnew) (qa_cons (qe_fz (qe_disp (qps_cons (fun _ => qe_str) (fun _ => qe_int) qps_nil) (fun h => nomatch h) (Nat.le_of_ble_eq_true rfl))) (qa_cons (qv 1) (qa_cons (qe_tup (qa_cons qe_str (qa_cons qe_int qa_nil))) (qa_cons (qe_tup (qa_cons (qe_tup (qa_cons qe_str qa_nil)) qa_nil)) (qa_cons (qe_lst qa_nil) (qa_cons (q2 d_mulT (qe_tup (qa_cons qe_int qa_nil)) qe_int) (qa_cons (qe_tup (qa_cons qe_str (qa_cons qe_str qa_nil))) qa_nil))))))))))))))) (qss_one (qs_ret (qix (d_ix (room1 hr)) (qv 3) (qe_call (ok_l_take W) mo_l_take (hr.mono (by decide)) hg W.e_l_take.mg W.e_l_take.F.kp W.e_l_take.bd (qa_cons (qv 0) (qa_cons qe_int qa_nil))))))))))) ?_
  rintro ds M Q ⟨rfl, q⟩
  refine seq_cut (fun z => z = ⟨[some .bag, some (.lst []), none, none], M⟩) (fun k1 hk1 => ?_) (fun z hz1 => ?_)
  · dsimp only [wMakeE, wRevT, wOrN, wKeysT, wLendW, wSlQ, gSetN, wLendN, wFzT, sAug, gN, gSet, gT0, gT1, gTup, sFldD, wAnd, wAndV, wAsg, wB, wBM, wBM0, wC, wChain, wCons, wDc, wDnew, wDrop, wEnum, wFld, wFor, wFrz, wFrzD, wFz, wIf, wIfS, wItems, wLc, wLcM, wLst, wLstM, wMake, wMakeM, wMeth, wN, wNever, wNext, wNil, wNoPart, wNot, wNotV, wOp, wOr, wOrV, wPar, wPar3, wPart, wPass, wRet, wRevS, wRng1, wRng2, wSeq, wSl, wTup, wUn, wVar, wYes, wZip, enD, enW, outE, wMethE, wBinE, wRaise0, rdBinO, wFrzDO, wFrzDD, wSlX, wFmt, wJoin, wJs, wItemsL, rdLenO, rdReprO, rdEqO, wNE, wNEN, wRaise, wTry, hcont, wXf, rdIsE, rdIsEV, wFrzO, wFzL, wDnewT, wVals, wItemsD, wEither, wForM, wSlM, wLendE, wLendT, wLendL, wFmtRO, wFmtRD, wBMX, wTupX, wLendD, wOrD, wRev2, wRevI, wFrzTT, wFrzT, wDcT, wDisp1T, wGz, wPrs, wDisp, wDcN, wDnewN]
    exact ⟨Nat.zero_le _, hk1 _ rfl⟩
  subst hz1
  refine seq_cut (fun z => ∃ d d2, (d.clo = true ∧ Pl 13 d ∧ d.py.weight ≤ 12) ∧ z = ⟨[some .bag, some d, d2, none], M⟩) (fun k1 hk1 => ?_) (fun z hz1 => ?_)
  · dsimp only [wMakeE, wRevT, wOrN, wKeysT, wLendW, wSlQ, gSetN, wLendN, wFzT, sAug, gN, gSet, gT0, gT1, gTup, sFldD, wAnd, wAndV, wAsg, wB, wBM, wBM0, wC, wChain, wCons, wDc, wDnew, wDrop, wEnum, wFld, wFor, wFrz, wFrzD, wFz, wIf, wIfS, wItems, wLc, wLcM, wLst, wLstM, wMake, wMakeM, wMeth, wN, wNever, wNext, wNil, wNoPart, wNot, wNotV, wOp, wOr, wOrV, wPar, wPar3, wPart, wPass, wRet, wRevS, wRng1, wRng2, wSeq, wSl, wTup, wUn, wVar, wYes, wZip, enD, enW, outE, wMethE, wBinE, wRaise0, rdBinO, wFrzDO, wFrzDD, wSlX, wFmt, wJoin, wJs, wItemsL, rdLenO, rdReprO, rdEqO, wNE, wNEN, wRaise, wTry, hcont, wXf, rdIsE, rdIsEV, wFrzO, wFzL, wDnewT, wVals, wItemsD, wEither, wForM, wSlM, wLendE, wLendT, wLendL, wFmtRO, wFmtRD, wBMX, wTupX, wLendD, wOrD, wRev2, wRevI, wFrzTT, wFrzT, wDcT, wDisp1T, wGz, wPrs, wDisp, wDcN, wDnewN]
    refine ⟨_, rfl, by decide, by decide, ?_⟩
    refine wLoop_rng _ (fun i z => ∃ d d2, (d.clo = true ∧ Pl (i + 1) d ∧ d.py.weight ≤ i) ∧ z = ⟨[some .bag, some d, d2, none], M⟩) (fun i hi k z hI hk => ?_) (fun z hI => ?_) _ ⟨_, none, ⟨rfl, Pl.lst (ds := []) (fun d hd => nomatch hd), Nat.le_refl _⟩, rfl⟩
    · obtain ⟨d, d2, ⟨h1, h2, h3⟩, rfl⟩ := hI
      have e0 : sumW [d] = d.py.weight + 1 := rfl
      have a : (D.lst [d]).clo = true ∧ Pl (i + 1 + 1) (.lst [d]) ∧ (D.lst [d]).py.weight ≤ i + 1 := ⟨clos_of fun x hx => by rw [List.mem_singleton.mp hx]; exact h1, Pl.lst fun x hx => by rw [List.mem_singleton.mp hx]; exact h2, by rw [wt_lst]; omega⟩
      have b : (D.tup [d]).clo = true ∧ Pl (i + 1 + 1) (.tup [d]) ∧ (D.tup [d]).py.weight ≤ i + 1 := ⟨clos_of fun x hx => by rw [List.mem_singleton.mp hx]; exact h1, Pl.tup fun x hx => by rw [List.mem_singleton.mp hx]; exact h2, by rw [wt_tup]; omega⟩
      dsimp only [wMakeE, wRevT, wOrN, wKeysT, wLendW, wSlQ, gSetN, wLendN, wFzT, sAug, gN, gSet, gT0, gT1, gTup, sFldD, wAnd, wAndV, wAsg, wB, wBM, wBM0, wC, wChain, wCons, wDc, wDnew, wDrop, wEnum, wFld, wFor, wFrz, wFrzD, wFz, wIf, wIfS, wItems, wLc, wLcM, wLst, wLstM, wMake, wMakeM, wMeth, wN, wNever, wNext, wNil, wNoPart, wNot, wNotV, wOp, wOr, wOrV, wPar, wPar3, wPart, wPass, wRet, wRevS, wRng1, wRng2, wSeq, wSl, wTup, wUn, wVar, wYes, wZip, enD, enW, outE, wMethE, wBinE, wRaise0, rdBinO, wFrzDO, wFrzDD, wSlX, wFmt, wJoin, wJs, wItemsL, rdLenO, rdReprO, rdEqO, wNE, wNEN, wRaise, wTry, hcont, wXf, rdIsE, rdIsEV, wFrzO, wFzL, wDnewT, wVals, wItemsD, wEither, wForM, wSlM, wLendE, wLendT, wLendL, wFmtRO, wFmtRD, wBMX, wTupX, wLendD, wOrD, wRev2, wRevI, wFrzTT, wFrzT, wDcT, wDisp1T, wGz, wPrs, wDisp, wDcN, wDnewN]
      refine ⟨_, rfl, Nat.le_of_ble_eq_true rfl, _, rfl, Nat.le_of_ble_eq_true rfl, Nat.le_of_ble_eq_true rfl, _, rfl, ?_⟩
      have gt : ∀ {Q' : KD}, Q' (.bl (decide ((6 : Int) < (i : Int)))) M → rdGt (.int i) (.int 6) M Q' := fun q => q
      refine gt ?_
      by_cases h : (6 : Int) < (i : Int)
      · rw [decide_eq_true h]
        exact ⟨1, .tup [d], rfl, rfl, hk _ ⟨_, _, b, rfl⟩⟩
      · rw [decide_eq_false h]
        exact ⟨0, .lst [d], rfl, rfl, hk _ ⟨_, _, a, rfl⟩⟩
    · obtain ⟨d, d2, ⟨h1, h2, h3⟩, rfl⟩ := hI
      have h2 : Pl 13 d := h2
      exact hk1 _ ⟨d, d2, ⟨h1, h2, h3⟩, rfl⟩
  obtain ⟨d, d2, hd, rfl⟩ := hz1
  refine seq_cut (fun z => z = ⟨[some .bag, some d, d2, some (.lst [.non, .bl true, .bl false, .int (-1), .int 0, .int 1, .int (10 ^ (39 : Int).toNat), .int (-(10 ^ (39 : Int).toNat)), .str "", .str "a", .str "ab", .str "A", .tup [], .tup [.str "a"], .tup [.str "a", .str "a"], .lst [.str "a"], .lst [.int 0]])], M⟩) (fun k1 hk1 => ?_) (fun z hz1 => ?_)
  · dsimp only [wMakeE, wRevT, wOrN, wKeysT, wLendW, wSlQ, gSetN, wLendN, wFzT, sAug, gN, gSet, gT0, gT1, gTup, sFldD, wAnd, wAndV, wAsg, wB, wBM, wBM0, wC, wChain, wCons, wDc, wDnew, wDrop, wEnum, wFld, wFor, wFrz, wFrzD, wFz, wIf, wIfS, wItems, wLc, wLcM, wLst, wLstM, wMake, wMakeM, wMeth, wN, wNever, wNext, wNil, wNoPart, wNot, wNotV, wOp, wOr, wOrV, wPar, wPar3, wPart, wPass, wRet, wRevS, wRng1, wRng2, wSeq, wSl, wTup, wUn, wVar, wYes, wZip, enD, enW, outE, wMethE, wBinE, wRaise0, rdBinO, wFrzDO, wFrzDD, wSlX, wFmt, wJoin, wJs, wItemsL, rdLenO, rdReprO, rdEqO, wNE, wNEN, wRaise, wTry, hcont, wXf, rdIsE, rdIsEV, wFrzO, wFzL, wDnewT, wVals, wItemsD, wEither, wForM, wSlM, wLendE, wLendT, wLendL, wFmtRO, wFmtRD, wBMX, wTupX, wLendD, wOrD, wRev2, wRevI, wFrzTT, wFrzT, wDcT, wDisp1T, wGz, wPrs, wDisp, wDcN, wDnewN]
    have c39 : CPow 10 39 := ⟨by decide, by decide, by decide⟩
    exact neg_i (pow_i c39 (pow_i c39 (neg_i ⟨Nat.le_of_ble_eq_true rfl, Nat.le_of_ble_eq_true rfl, Nat.le_of_ble_eq_true rfl, Nat.le_of_ble_eq_true rfl, Nat.le_of_ble_eq_true rfl, Nat.le_of_ble_eq_true rfl, hk1 _ rfl⟩)))
  subst hz1
  dsimp only [wMakeE, wRevT, wOrN, wKeysT, wLendW, wSlQ, gSetN, wLendN, wFzT, sAug, gN, gSet, gT0, gT1, gTup, sFldD, wAnd, wAndV, wAsg, wB, wBM, wBM0, wC, wChain, wCons, wDc, wDnew, wDrop, wEnum, wFld, wFor, wFrz, wFrzD, wFz, wIf, wIfS, wItems, wLc, wLcM, wLst, wLstM, wMake, wMakeM, wMeth, wN, wNever, wNext, wNil, wNoPart, wNot, wNotV, wOp, wOr, wOrV, wPar, wPar3, wPart, wPass, wRet, wRevS, wRng1, wRng2, wSeq, wSl, wTup, wUn, wVar, wYes, wZip, enD, enW, outE, wMethE, wBinE, wRaise0, rdBinO, wFrzDO, wFrzDD, wSlX, wFmt, wJoin, wJs, wItemsL, rdLenO, rdReprO, rdEqO, wNE, wNEN, wRaise, wTry, hcont, wXf, rdIsE, rdIsEV, wFrzO, wFzL, wDnewT, wVals, wItemsD, wEither, wForM, wSlM, wLendE, wLendT, wLendL, wFmtRO, wFmtRD, wBMX, wTupX, wLendD, wOrD, wRev2, wRevI, wFrzTT, wFrzT, wDcT, wDisp1T, wGz, wPrs, wDisp, wDcN, wDnewN]
  refine ⟨_, rfl, Nat.le_of_ble_eq_true rfl, Nat.le_of_ble_eq_true rfl, neg_i ⟨Nat.le_of_ble_eq_true rfl, Nat.le_of_ble_eq_true rfl, fun p hp => ⟨p, _, rfl, mupd_same, ?_⟩⟩⟩
  rw [mupd_back hp]
  refine ⟨_, rfl, by decide, fun p2 hp2 => ⟨p2, _, rfl, mupd_same, ?_⟩⟩
  rw [mupd_back hp2]
  refine ⟨_, rfl, Nat.le_of_ble_eq_true rfl, Nat.le_of_ble_eq_true rfl, Nat.le_of_ble_eq_true rfl, Nat.le_of_ble_eq_true rfl, Nat.le_of_ble_eq_true rfl, .int 0, 900, rfl, rfl, by decide, by decide, ?_⟩
  refine ⟨Nat.le_of_ble_eq_true rfl, Nat.le_of_ble_eq_true rfl, Nat.le_of_ble_eq_true rfl, ?_⟩
  refine ⟨_, rfl, _, rfl, 29, rfl, by decide, by decide, fun t ht0 ht1 => ?_⟩
  obtain ⟨x, e, hm⟩ := atI_ex (l := odd78 d) ht0 ht1
  obtain ⟨h1, h2, h3⟩ := odd78_ok hd.1 (hd.2.1.mono (by decide)) hd.2.2 x hm
  exact ix_l (ds := odd78 d) rfl e (q x h1 h2 h3 (odd_few hd.2.2 x hm))
end
end Q
set_option Elab.async false
set_option linter.all false
set_option maxRecDepth 100000
set_option maxHeartbeats 4000000
namespace Q
open PySem PySem.Spec PyProof.Rows L2 My
section
variable {P : Program} {w : World} {K : PySem.W.Frag} {mg : Str → Option Value} {base : Heap}
theorem ok_l_bent_table (W : Wd P w K mg base) : FnG P w K mg base CX0 3 W.f_l_bent_table W.d_l_bent_table ["_law_bag_here", "_law_row", "_law_others"] (spD K (den_l_bent_table)) := by
  refine qfn (k := 2) W.e_l_bent_table.F sc_l_bent_table ln_l_bent_table (fun cdv A outer s H E g0 hr hg => (qss_cons (qs_asg (qv 1) (qg_tup (n := 2) rfl (qgs_cons (qg_name (i := 3) sc_l_bent_table.nd) (qgs_cons (qg_name (i := 4) sc_l_bent_table.nd) qgs_nil)))) (qss_cons (qs_par (i := 5) (j := 6) rfl sc_l_bent_table.nd (qa_cons (qe_call (ok_l_take W) mo_l_take (hr.mono (by decide)) hg W.e_l_take.mg W.e_l_take.F.kp W.e_l_take.bd (qa_cons (qv 0) (qa_cons (q2 d_add (qB d_len W.t_len (qa_cons (qv 4) qa_nil)) qe_int) qa_nil))) (qa_cons (qix (d_ix (room1 hr)) (qe_lst (qa_cons (qe_call (ok_l_odd W) mo_l_odd13 (hr.mono (by decide)) hg W.e_l_odd.mg W.e_l_odd.F.kp W.e_l_odd.bd (qa_cons (qv 0) qa_nil)) (qa_cons (qe_call (ok_l_name_near W) mo_l_name_near (hr.mono (by decide)) hg W.e_l_name_near.mg W.e_l_name_near.F.kp W.e_l_name_near.bd (qa_cons (qv 0) qa_nil)) qa_nil))) (qe_call (ok_l_take W) mo_l_take (hr.mono (by decide)) hg W.e_l_take.mg W.e_l_take.F.kp W.e_l_take.bd (qa_cons (qv 0) (qa_cons qe_int qa_nil)))) qa_nil))) (qss_cons (qs_set (i := 7) sc_l_bent_table.nd (qe_lst (qa_cons (qe_tup (qa_cons (qv 3) (qa_cons (q2 d_add (q2 d_add (qT (d_list rfl) W.t_list (qa_cons (qsl (qv 4) qo_none (qo_some (qv 5))) qa_nil)) (qe_lst (qa_cons (qv 6) qa_nil))) (qT (d_list rfl) W.t_list (qa_cons (qsl (qv 4) (qo_some (qv 5)) qo_none) qa_nil))) qa_nil))) (qa_cons (qe_tup (qa_cons (qv 3) (qa_cons (q2 d_add (qT d_tuple W.t_tuple (qa_cons (qsl (qv 4) qo_none (qo_some (qv 5))) qa_nil)) (qe_tup (qa_cons (qv 6) qa_nil))) qa_nil))) qa_nil)))) (qss_cons (qs_set (i := 7) sc_l_bent_table.nd (q2 d_add (qv 7) (qe_lst (qa_cons (qe_tup (qa_cons (qv 6) (qa_cons (qv 4) qa_nil))) (qa_cons (qe_tup (qa_cons (qv 3) (qa_cons (qv 6) qa_nil))) (qa_cons (qe_lst (qa_cons (qv 3) (qa_cons (qv 4) qa_nil))) (qa_cons (qe_tup (qa_cons (qv 3) qa_nil)) (qa_cons (qe_tup (qa_cons (qv 3) (qa_cons (qv 4) (qa_cons (qv 4) qa_nil)))) (qa_cons (qv 6) qa_nil))))))))) (qss_cons (qs_set (i := 7) sc_l_bent_table.nd (q2 d_add (qv 7) (qe_lst (qa_cons (qe_tup (qa_cons (qix (d_ix (room1 hr)) (qv 2) (qe_call (ok_l_take W) mo_l_take (hr.mono (by decide)) hg W.e_l_take.mg W.e_l_take.F.kp W.e_l_take.bd (qa_cons (qv 0) (qa_cons (qB d_len W.t_len (qa_cons (qv 2) qa_nil)) qa_nil)))) (qa_cons (qv 4) qa_nil))) (qa_cons (qe_tup (qa_cons (qv 3) (qa_cons (q2 d_add (qT (d_list rfl) W.t_list (qa_cons (qv 4) qa_nil)) (qT (d_list rfl) W.t_list (qa_cons (qsl (qv 4) qo_none (qo_some (qv 5))) qa_nil))) qa_nil))) qa_nil))))) (qss_cons (qs_set (i := 8) sc_l_bent_table.nd (qsl (qe_lc rfl sc_l_bent_table.nd (qi_any qe_str) (blkOk_by (own := [("_law_letter", 9)]) (N := N_l_bent_table) (sc := defScope st_l_bent_table) (by decide +kernel)) (fun _ _ _ _ _ => qgo_name (i := 9) sc_l_bent_table.nd) (fun _ _ _ _ _ _ => qts_nil) (fun _ _ _ _ _ _ => (q2 d_add qe_str (qv 9)))) qo_none (qo_some (q2 d_add qe_int (qe_call (ok_l_take W) mo_l_take (hr.mono (by decide)) hg W.e_l_take.mg W.e_l_take.F.kp W.e_l_take.bd (qa_cons (qv 0) (qa_cons qe_int qa_nil))))))) (qss_one (qs_ret (qix (d_ix (room1 hr)) (q2 d_add (qv 7) (qe_lst (qa_cons (qe_tup (qa_cons (qv 3) (qa_cons (q2 d_add (qT (d_list rfl) W.t_list (qa_cons (qv 4) qa_nil)) (qv 8)) qa_nil))) (qa_cons (qe_tup (qa_cons (qv 3) (qa_cons (qv 8) qa_nil))) qa_nil)))) (qe_call (ok_l_take W) mo_l_take (hr.mono (by decide)) hg W.e_l_take.mg W.e_l_take.F.kp W.e_l_take.bd (qa_cons (qv 0) (qa_cons qe_int qa_nil))))))))))))) ?_
  rintro ds M Q ⟨u, y, cs, ns, c, j, n, rfl, hy, hI, ⟨n1, n6, hns⟩, hc, hj, hn, q⟩
  have vd := hI.nl
  have vu : Nl j n u := (vd.of_tup).mem (by simp)
  have vy : Nl j n y := (vd.of_tup).mem (by simp)
  have vc : Ns j n cs := vy.of_pt hy
  have wuy : u.py.weight + y.py.weight + 2 ≤ n := by
    have := vd.wt
    rw [wt_tup, sumW_cons, sumW_cons] at this
    have e0 : sumW [] = 0 := rfl
    omega
  have wcs : sumW cs = y.py.weight := pt_wt hy
  have lcs := len_sumW' cs
  have fc : cntN cs ≤ c := hI.few u y cs rfl hy
  refine seq_cut (fun s => s = ⟨[some .bag, some (.tup [u, y]), some (.lst (sts ns)), some u, some y, none, none, none, none, none], M⟩) (fun k1 hk1 => ?_) (fun s hs => ?_)
  · dsimp only [wMakeE, wRevT, wOrN, wKeysT, wLendW, wSlQ, gSetN, wLendN, wFzT, sAug, gN, gSet, gT0, gT1, gTup, sFldD, wAnd, wAndV, wAsg, wB, wBM, wBM0, wC, wChain, wCons, wDc, wDnew, wDrop, wEnum, wFld, wFor, wFrz, wFrzD, wFz, wIf, wIfS, wItems, wLc, wLcM, wLst, wLstM, wMake, wMakeM, wMeth, wN, wNever, wNext, wNil, wNoPart, wNot, wNotV, wOp, wOr, wOrV, wPar, wPar3, wPart, wPass, wRet, wRevS, wRng1, wRng2, wSeq, wSl, wTup, wUn, wVar, wYes, wZip, enD, enW, outE, wMethE, wBinE, wRaise0, rdBinO, wFrzDO, wFrzDD, wSlX, wFmt, wJoin, wJs, wItemsL, rdLenO, rdReprO, rdEqO, wNE, wNEN, wRaise, wTry, hcont, wXf, rdIsE, rdIsEV, wFrzO, wFzL, wDnewT, wVals, wItemsD, wEither, wForM, wSlM, wLendE, wLendT, wLendL, wFmtRO, wFmtRD, wBMX, wTupX, wLendD, wOrD, wRev2, wRevI, wFrzTT, wFrzT, wDcT, wDisp1T, wGz, wPrs, wDisp, wDcN, wDnewN]
    exact ⟨_, rfl, _, rfl, rfl, _, _, rfl, _, _, rfl, rfl, hk1 _ rfl⟩
  subst hs
  refine seq_cut (fun s => ∃ (a : Int) (o : D), (0 ≤ a ∧ a < cs.length + 1) ∧ Ov o ∧ s = ⟨[some .bag, some (.tup [u, y]), some (.lst (sts ns)), some u, some y, some (.int a), some o, none, none, none], M⟩) (fun k1 hk1 => ?_) (fun s hs => ?_)
  · dsimp only [wMakeE, wRevT, wOrN, wKeysT, wLendW, wSlQ, gSetN, wLendN, wFzT, sAug, gN, gSet, gT0, gT1, gTup, sFldD, wAnd, wAndV, wAsg, wB, wBM, wBM0, wC, wChain, wCons, wDc, wDnew, wDrop, wEnum, wFld, wFor, wFrz, wFrzD, wFz, wIf, wIfS, wItems, wLc, wLcM, wLst, wLstM, wMake, wMakeM, wMeth, wN, wNever, wNext, wNil, wNoPart, wNot, wNotV, wOp, wOr, wOrV, wPar, wPar3, wPart, wPass, wRet, wRevS, wRng1, wRng2, wSeq, wSl, wTup, wUn, wVar, wYes, wZip, enD, enW, outE, wMethE, wBinE, wRaise0, rdBinO, wFrzDO, wFrzDD, wSlX, wFmt, wJoin, wJs, wItemsL, rdLenO, rdReprO, rdEqO, wNE, wNEN, wRaise, wTry, hcont, wXf, rdIsE, rdIsEV, wFrzO, wFzL, wDnewT, wVals, wItemsD, wEither, wForM, wSlM, wLendE, wLendT, wLendL, wFmtRO, wFmtRD, wBMX, wTupX, wLendD, wOrD, wRev2, wRevI, wFrzTT, wFrzT, wDcT, wDisp1T, wGz, wPrs, wDisp, wDcN, wDnewN]
    refine ⟨_, rfl, _, rfl, len_pt hy ⟨_, rfl, by omega, by omega, fun a a0 a1 => ⟨_, rfl, rfl, fun o o1 o2 o3 o4 => ⟨_, rfl, rfl, fun x hx => ⟨Nat.le_of_ble_eq_true rfl, _, rfl, 2, rfl, by decide, by decide, fun b b0 b1 => ?_⟩⟩⟩⟩⟩
    obtain ⟨e, ae, em⟩ := atI_ex (l := [o, .str x]) b0 b1
    have ve : Ov e := by
      rcases List.mem_cons.mp em with rfl | em
      · exact .odd o1 o2 o3 o4
      · rw [List.mem_singleton.mp em]
        exact .text hx
    exact ix_l rfl ae ⟨_, _, rfl, hk1 _ ⟨a, e, ⟨a0, a1⟩, ve, rfl⟩⟩
  obtain ⟨a, o, ⟨a0, a1⟩, vo, rfl⟩ := hs
  have cutA : ∀ L' : List D, cutD L' none (some a) = L'.take a.toNat := fun L' => cutD_to a0
  have cutB : ∀ L' : List D, cutD L' (some a) none = L'.drop a.toNat := fun L' => cutD_from a0
  have sA := List.take_sublist a.toNat cs
  have sB := List.drop_sublist a.toNat cs
  have wAB : sumW (cs.take a.toNat) + sumW (cs.drop a.toNat) = sumW cs := by rw [← sumW_app, List.take_append_drop]
  have vA : Ns j (sumW (cs.take a.toNat)) (cs.take a.toNat) := ⟨(vc.sub sA).nx, (vc.sub sA).pl, Nat.le_refl _⟩
  have vB : Ns j (sumW (cs.drop a.toNat)) (cs.drop a.toNat) := ⟨(vc.sub sB).nx, (vc.sub sB).pl, Nat.le_refl _⟩
  have vC : Ns j (sumW cs) cs := ⟨vc.nx, vc.pl, Nat.le_refl _⟩
  have cAB : cntN (cs.take a.toNat) + cntN (cs.drop a.toNat) = cntN cs := by rw [← cntN_app, List.take_append_drop]
  have lA := sA.length_le
  have lB := sB.length_le
  have vu1 : Nl (j + 1) u.py.weight u := ⟨vu.nx, vu.pl.mono (by omega), Nat.le_refl _⟩
  have vy1 : Nl (j + 1) y.py.weight y := ⟨vy.nx, vy.pl.mono (by omega), Nat.le_refl _⟩
  have vo1 : Nl (j + 1) 2000 o := vo.nl.up (by omega) (Nat.le_refl _)
  have one : ∀ d : D, cntN [d] ≤ 1 := fun d => cntN_le [d]
  have app : ∀ {S T : List D}, (∀ e ∈ S, It (2 * c) (j + 2) (2 * n + 2200) e) → (∀ e ∈ T, It (2 * c) (j + 2) (2 * n + 2200) e) → ∀ e ∈ S ++ T, It (2 * c) (j + 2) (2 * n + 2200) e := fun h k e he => (List.mem_append.mp he).elim (h e) (k e)
  refine seq_cut (fun s => ∃ S : List D, S.length = 2 ∧ (∀ e ∈ S, It (2 * c) (j + 2) (2 * n + 2200) e) ∧ s = ⟨[some .bag, some (.tup [u, y]), some (.lst (sts ns)), some u, some y, some (.int a), some o, some (.lst S), none, none], M⟩) (fun k1 hk1 => ?_) (fun s hs => ?_)
  · dsimp only [wMakeE, wRevT, wOrN, wKeysT, wLendW, wSlQ, gSetN, wLendN, wFzT, sAug, gN, gSet, gT0, gT1, gTup, sFldD, wAnd, wAndV, wAsg, wB, wBM, wBM0, wC, wChain, wCons, wDc, wDnew, wDrop, wEnum, wFld, wFor, wFrz, wFrzD, wFz, wIf, wIfS, wItems, wLc, wLcM, wLst, wLstM, wMake, wMakeM, wMeth, wN, wNever, wNext, wNil, wNoPart, wNot, wNotV, wOp, wOr, wOrV, wPar, wPar3, wPart, wPass, wRet, wRevS, wRng1, wRng2, wSeq, wSl, wTup, wUn, wVar, wYes, wZip, enD, enW, outE, wMethE, wBinE, wRaise0, rdBinO, wFrzDO, wFrzDD, wSlX, wFmt, wJoin, wJs, wItemsL, rdLenO, rdReprO, rdEqO, wNE, wNEN, wRaise, wTry, hcont, wXf, rdIsE, rdIsEV, wFrzO, wFzL, wDnewT, wVals, wItemsD, wEither, wForM, wSlM, wLendE, wLendT, wLendL, wFmtRO, wFmtRD, wBMX, wTupX, wLendD, wOrD, wRev2, wRevI, wFrzTT, wFrzT, wDcT, wDisp1T, wGz, wPrs, wDisp, wDcN, wDnewN]
    refine ⟨_, rfl, _, rfl, _, rfl, _, rfl, sl_pt hy fun y1 h1 => list_pt h1 ?_⟩
    rw [cutA]
    refine ⟨_, rfl, Nat.le_of_ble_eq_true rfl, line_le (by show _ + 1 ≤ _; omega), _, rfl, _, rfl, _, rfl, sl_pt hy fun y2 h2 => list_pt h2 ?_⟩
    rw [cutB]
    refine ⟨line_le (by rw [List.length_append]; show _ + 1 + _ ≤ _; omega), Nat.le_of_ble_eq_true rfl, _, rfl, _, rfl, _, rfl, _, rfl, sl_pt hy fun y3 h3 => tup_pt h3 ?_⟩
    rw [cutA]
    refine ⟨_, rfl, Nat.le_of_ble_eq_true rfl, line_le (by show _ + 1 ≤ _; omega), Nat.le_of_ble_eq_true rfl, Nat.le_of_ble_eq_true rfl, hk1 _ ⟨_, rfl, fun e he => ?_, rfl⟩⟩
    simp only [List.mem_cons, List.not_mem_nil, or_false] at he
    have vo0 : Nl j 2000 o := vo.nl.up (by omega) (Nat.le_refl _)
    rcases he with rfl | rfl
    · refine It.two vu1 ((vA.app (Ns.one vo0)).app vB).lst (by omega) fun ds e => ?_
      cases e
      rw [cntN_app, cntN_app]
      have := one o
      omega
    · refine It.two vu1 (vA.app (Ns.one vo0)).tup (by omega) fun ds e => ?_
      cases e
      rw [cntN_app]
      have := one o
      omega
  obtain ⟨S, Sl, hS, rfl⟩ := hs
  refine seq_cut (fun s => ∃ S : List D, S.length = 8 ∧ (∀ e ∈ S, It (2 * c) (j + 2) (2 * n + 2200) e) ∧ s = ⟨[some .bag, some (.tup [u, y]), some (.lst (sts ns)), some u, some y, some (.int a), some o, some (.lst S), none, none], M⟩) (fun k1 hk1 => ?_) (fun s hs => ?_)
  · dsimp only [wMakeE, wRevT, wOrN, wKeysT, wLendW, wSlQ, gSetN, wLendN, wFzT, sAug, gN, gSet, gT0, gT1, gTup, sFldD, wAnd, wAndV, wAsg, wB, wBM, wBM0, wC, wChain, wCons, wDc, wDnew, wDrop, wEnum, wFld, wFor, wFrz, wFrzD, wFz, wIf, wIfS, wItems, wLc, wLcM, wLst, wLstM, wMake, wMakeM, wMeth, wN, wNever, wNext, wNil, wNoPart, wNot, wNotV, wOp, wOr, wOrV, wPar, wPar3, wPart, wPass, wRet, wRevS, wRng1, wRng2, wSeq, wSl, wTup, wUn, wVar, wYes, wZip, enD, enW, outE, wMethE, wBinE, wRaise0, rdBinO, wFrzDO, wFrzDD, wSlX, wFmt, wJoin, wJs, wItemsL, rdLenO, rdReprO, rdEqO, wNE, wNEN, wRaise, wTry, hcont, wXf, rdIsE, rdIsEV, wFrzO, wFzL, wDnewT, wVals, wItemsD, wEither, wForM, wSlM, wLendE, wLendT, wLendL, wFmtRO, wFmtRD, wBMX, wTupX, wLendD, wOrD, wRev2, wRevI, wFrzTT, wFrzT, wDcT, wDisp1T, wGz, wPrs, wDisp, wDcN, wDnewN]
    refine ⟨_, rfl, _, rfl, _, rfl, Nat.le_of_ble_eq_true rfl, _, rfl, _, rfl, Nat.le_of_ble_eq_true rfl, _, rfl, _, rfl, Nat.le_of_ble_eq_true rfl, _, rfl, Nat.le_of_ble_eq_true rfl, _, rfl, _, rfl, _, rfl, Nat.le_of_ble_eq_true rfl, _, rfl, Nat.le_of_ble_eq_true rfl, line_le (by show S.length + 6 ≤ _; omega), hk1 _ ⟨_, by rw [List.length_append, Sl]; rfl, app hS fun e he => ?_, rfl⟩⟩
    simp only [List.mem_cons, List.not_mem_nil, or_false] at he
    rcases he with rfl | rfl | rfl | rfl | rfl | rfl
    · exact It.two vo1 vy1 (by omega) fun ds e => by rw [hy] at e; cases e; omega
    · exact It.two vu1 vo1 (by omega) fun ds e => Nat.le_trans (vo.row ds e) (by omega)
    · exact .far ((Ns.two vu1 vy1).lst.up (by omega) (by omega)) fun u' y' e => by cases e
    · exact .far ((Ns.one vu1).tup.up (by omega) (by omega)) fun u' y' e => by cases e
    · exact .far ((Ns.cons vu1 (Ns.two vy1 vy1)).tup.up (by omega) (by omega)) fun u' y' e => by cases e
    · exact vo.it (by omega) (by omega) (by omega)
  obtain ⟨S, Sl, hS, rfl⟩ := hs
  refine seq_cut (fun s => ∃ S : List D, S.length = 10 ∧ (∀ e ∈ S, It (2 * c) (j + 2) (2 * n + 2200) e) ∧ s = ⟨[some .bag, some (.tup [u, y]), some (.lst (sts ns)), some u, some y, some (.int a), some o, some (.lst S), none, none], M⟩) (fun k1 hk1 => ?_) (fun s hs => ?_)
  · dsimp only [wMakeE, wRevT, wOrN, wKeysT, wLendW, wSlQ, gSetN, wLendN, wFzT, sAug, gN, gSet, gT0, gT1, gTup, sFldD, wAnd, wAndV, wAsg, wB, wBM, wBM0, wC, wChain, wCons, wDc, wDnew, wDrop, wEnum, wFld, wFor, wFrz, wFrzD, wFz, wIf, wIfS, wItems, wLc, wLcM, wLst, wLstM, wMake, wMakeM, wMeth, wN, wNever, wNext, wNil, wNoPart, wNot, wNotV, wOp, wOr, wOrV, wPar, wPar3, wPart, wPass, wRet, wRevS, wRng1, wRng2, wSeq, wSl, wTup, wUn, wVar, wYes, wZip, enD, enW, outE, wMethE, wBinE, wRaise0, rdBinO, wFrzDO, wFrzDD, wSlX, wFmt, wJoin, wJs, wItemsL, rdLenO, rdReprO, rdEqO, wNE, wNEN, wRaise, wTry, hcont, wXf, rdIsE, rdIsEV, wFrzO, wFzL, wDnewT, wVals, wItemsD, wEither, wForM, wSlM, wLendE, wLendT, wLendL, wFmtRO, wFmtRD, wBMX, wTupX, wLendD, wOrD, wRev2, wRevI, wFrzTT, wFrzT, wDcT, wDisp1T, wGz, wPrs, wDisp, wDcN, wDnewN]
    refine ⟨_, rfl, _, rfl, _, rfl, _, rfl, ⟨_, rfl, ?_⟩⟩
    refine ⟨_, rfl, by rw [len_sts]; omega, by rw [len_sts]; omega, fun v v0 v1 => ?_⟩
    rw [len_sts] at v1
    obtain ⟨x, ax, hx⟩ := sts_at v0 v1
    refine ix_l rfl ax ⟨_, rfl, Nat.le_of_ble_eq_true rfl, _, rfl, _, rfl, list_pt hy ⟨_, rfl, _, rfl, _, rfl, sl_pt hy fun y1 h1 => list_pt h1 ?_⟩⟩
    rw [cutA]
    refine ⟨line_le (by omega), Nat.le_of_ble_eq_true rfl, Nat.le_of_ble_eq_true rfl, line_le (by show S.length + 2 ≤ _; omega), hk1 _ ⟨_, by rw [List.length_append, Sl]; rfl, app hS fun e he => ?_, rfl⟩⟩
    simp only [List.mem_cons, List.not_mem_nil, or_false] at he
    rcases he with rfl | rfl
    · exact It.two (Nl.name (hns x hx)) vy1 (by omega) fun ds e => by rw [hy] at e; cases e; omega
    · refine It.two vu1 (vC.app vA).lst (by omega) fun ds e => ?_
      cases e
      rw [cntN_app]
      omega
  obtain ⟨S, Sl, hS, rfl⟩ := hs
  refine seq_cut (fun s => ∃ m : Nat, s = ⟨[some .bag, some (.tup [u, y]), some (.lst (sts ns)), some u, some y, some (.int a), some o, some (.lst S), some (.lst (sts (farL.take m))), none], M⟩) (fun k1 hk1 => ?_) (fun s hs => ?_)
  · dsimp only [wMakeE, wRevT, wOrN, wKeysT, wLendW, wSlQ, gSetN, wLendN, wFzT, sAug, gN, gSet, gT0, gT1, gTup, sFldD, wAnd, wAndV, wAsg, wB, wBM, wBM0, wC, wChain, wCons, wDc, wDnew, wDrop, wEnum, wFld, wFor, wFrz, wFrzD, wFz, wIf, wIfS, wItems, wLc, wLcM, wLst, wLstM, wMake, wMakeM, wMeth, wN, wNever, wNext, wNil, wNoPart, wNot, wNotV, wOp, wOr, wOrV, wPar, wPar3, wPart, wPass, wRet, wRevS, wRng1, wRng2, wSeq, wSl, wTup, wUn, wVar, wYes, wZip, enD, enW, outE, wMethE, wBinE, wRaise0, rdBinO, wFrzDO, wFrzDD, wSlX, wFmt, wJoin, wJs, wItemsL, rdLenO, rdReprO, rdEqO, wNE, wNEN, wRaise, wTry, hcont, wXf, rdIsE, rdIsEV, wFrzO, wFzL, wDnewT, wVals, wItemsD, wEither, wForM, wSlM, wLendE, wLendT, wLendL, wFmtRO, wFmtRD, wBMX, wTupX, wLendD, wOrD, wRev2, wRevI, wFrzTT, wFrzT, wDcT, wDisp1T, wGz, wPrs, wDisp, wDcN, wDnewN]
    refine ⟨_, rfl, fun _ => ⟨by decide +kernel, ?_⟩⟩
    refine lcGo_all (fun d => match d with | .str s => .str ("q" ++ s) | d => d) _ (fun d acc k2 hd hk2 => ?_) ?_
    · unfold signs at hd
      obtain ⟨x, _, rfl⟩ := List.mem_map.mp hd
      dsimp only [wMakeE, wRevT, wOrN, wKeysT, wLendW, wSlQ, gSetN, wLendN, wFzT, sAug, gN, gSet, gT0, gT1, gTup, sFldD, wAnd, wAndV, wAsg, wB, wBM, wBM0, wC, wChain, wCons, wDc, wDnew, wDrop, wEnum, wFld, wFor, wFrz, wFrzD, wFz, wIf, wIfS, wItems, wLc, wLcM, wLst, wLstM, wMake, wMakeM, wMeth, wN, wNever, wNext, wNil, wNoPart, wNot, wNotV, wOp, wOr, wOrV, wPar, wPar3, wPart, wPass, wRet, wRevS, wRng1, wRng2, wSeq, wSl, wTup, wUn, wVar, wYes, wZip, enD, enW, outE, wMethE, wBinE, wRaise0, rdBinO, wFrzDO, wFrzDD, wSlX, wFmt, wJoin, wJs, wItemsL, rdLenO, rdReprO, rdEqO, wNE, wNEN, wRaise, wTry, hcont, wXf, rdIsE, rdIsEV, wFrzO, wFzL, wDnewT, wVals, wItemsD, wEither, wForM, wSlM, wLendE, wLendT, wLendL, wFmtRO, wFmtRD, wBMX, wTupX, wLendD, wOrD, wRev2, wRevI, wFrzTT, wFrzT, wDcT, wDisp1T, wGz, wPrs, wDisp, wDcN, wDnewN]
      exact ⟨_, rfl, by show 1 + 1 ≤ sizeLine; exact Nat.le_of_ble_eq_true rfl, hk2⟩
    · have e : (signs (Str.ofString "abcdefghi")).map (fun d => match d with | .str s => D.str ("q" ++ s) | d => d) = sts farL := rfl
      rw [e]
      exact ⟨_, rfl, 9, rfl, by decide, by decide, fun b b0 b1 => ⟨_, rfl, sl_to (by omega) (hk1 _ ⟨_, rfl⟩)⟩⟩
  obtain ⟨m, rfl⟩ := hs
  have hfar : ∀ s ∈ farL.take m, Name s := fun s hs => farL_ok s (List.mem_of_mem_take hs)
  have lfar : (farL.take m).length ≤ 9 := List.length_take_le' m farL
  have vF : Ns j ((farL.take m).length * 9) (sts (farL.take m)) := Ns.names hfar
  have cF : cntN (sts (farL.take m)) ≤ 9 := Nat.le_trans (cntN_le _) (by rw [len_sts]; exact lfar)
  dsimp only [wMakeE, wRevT, wOrN, wKeysT, wLendW, wSlQ, gSetN, wLendN, wFzT, sAug, gN, gSet, gT0, gT1, gTup, sFldD, wAnd, wAndV, wAsg, wB, wBM, wBM0, wC, wChain, wCons, wDc, wDnew, wDrop, wEnum, wFld, wFor, wFrz, wFrzD, wFz, wIf, wIfS, wItems, wLc, wLcM, wLst, wLstM, wMake, wMakeM, wMeth, wN, wNever, wNext, wNil, wNoPart, wNot, wNotV, wOp, wOr, wOrV, wPar, wPar3, wPart, wPass, wRet, wRevS, wRng1, wRng2, wSeq, wSl, wTup, wUn, wVar, wYes, wZip, enD, enW, outE, wMethE, wBinE, wRaise0, rdBinO, wFrzDO, wFrzDD, wSlX, wFmt, wJoin, wJs, wItemsL, rdLenO, rdReprO, rdEqO, wNE, wNEN, wRaise, wTry, hcont, wXf, rdIsE, rdIsEV, wFrzO, wFzL, wDnewT, wVals, wItemsD, wEither, wForM, wSlM, wLendE, wLendT, wLendL, wFmtRO, wFmtRD, wBMX, wTupX, wLendD, wOrD, wRev2, wRevI, wFrzTT, wFrzT, wDcT, wDisp1T, wGz, wPrs, wDisp, wDcN, wDnewN]
  refine ⟨_, rfl, _, rfl, _, rfl, list_pt hy ⟨_, rfl, line_le (by rw [len_sts]; omega), Nat.le_of_ble_eq_true rfl, _, rfl, _, rfl, Nat.le_of_ble_eq_true rfl, Nat.le_of_ble_eq_true rfl, line_le (by show S.length + 2 ≤ _; omega), _, rfl, 12, rfl, by decide, by decide, fun t t0 t1 => ?_⟩⟩
  have hT : ∀ e ∈ S ++ [D.tup [u, .lst (cs ++ sts (farL.take m))], .tup [u, .lst (sts (farL.take m))]], It (2 * c) (j + 2) (2 * n + 2200) e := app hS fun e he => by
    simp only [List.mem_cons, List.not_mem_nil, or_false] at he
    rcases he with rfl | rfl
    · refine It.two vu1 (vC.app vF).lst (by omega) fun ds e => ?_
      cases e
      rw [cntN_app]
      omega
    · exact It.two vu1 vF.lst (by omega) fun ds e => by cases e; omega
  obtain ⟨x, ax, hx⟩ := atI_ex (l := S ++ [D.tup [u, .lst (cs ++ sts (farL.take m))], .tup [u, .lst (sts (farL.take m))]]) t0 (by rw [List.length_append, Sl]; exact t1)
  exact ix_l rfl ax (q _ (hT x hx))
end
end Q
set_option Elab.async false
set_option linter.all false
set_option maxRecDepth 100000
set_option maxHeartbeats 4000000
namespace Q
open PySem PySem.Spec PyProof.Rows L2 My
section
variable {P : Program} {w : World} {K : PySem.W.Frag} {mg : Str → Option Value} {base : Heap}
theorem ok_l_is_name (W : Wd P w K mg base) : FnG P w K mg base CX0 1 W.f_l_is_name W.d_l_is_name ["_law_thing"] (spD K (den_l_is_name)) := by
  refine qfn (k := 0) W.e_l_is_name.F sc_l_is_name ln_l_is_name (fun cdv A outer s H E g0 hr hg => (qss_cons (qs_if (QW.qt (qw_or (qt_not (qt_val (qB d_isi W.t_isinstance (qa_cons (qv 0) (qa_cons (qe_ty (n := "str") W.t_str) qa_nil))))) (qw_or (qct d_lt (qB d_len W.t_len (qa_cons (qv 0) qa_nil)) qe_int) (qw_or1 (qct d_gt (qB d_len W.t_len (qa_cons (qv 0) qa_nil)) qe_int))))) (qss_one (qs_ret qe_bl)) qss_nil) (qss_one (qs_ret (qc (d_eqN (room64 hr)) (qe_lc rfl sc_l_is_name.nd (qi_any (qv 0)) (blkOk_by (own := [("_law_sign", 1)]) (N := N_l_is_name) (sc := defScope st_l_is_name) (by decide +kernel)) (fun _ _ _ _ _ => qgo_name (i := 1) sc_l_is_name.nd) (fun _ _ _ _ _ _ => qts_one (qct (d_notIn (room65 hr)) (qv 1) qe_str)) (fun _ _ _ _ _ _ => (qv 1))) (qe_lst qa_nil)))))) ?_
  rintro ds M Q ⟨d, rfl, hp, hw, q⟩
  obtain ⟨_, T, hT, k1, _, _⟩ := pr_ty (M := M) hp
  refine seq_cut (fun z => (∃ s, d = .str s ∧ 1 ≤ s.length ∧ s.length ≤ 8) ∧ z = ⟨[some d, none], M⟩) (fun k hk => ?_) (fun z hz => ?_)
  · dsimp only [wMakeE, wRevT, wOrN, wKeysT, wLendW, wSlQ, gSetN, wLendN, wFzT, sAug, gN, gSet, gT0, gT1, gTup, sFldD, wAnd, wAndV, wAsg, wB, wBM, wBM0, wC, wChain, wCons, wDc, wDnew, wDrop, wEnum, wFld, wFor, wFrz, wFrzD, wFz, wIf, wIfS, wItems, wLc, wLcM, wLst, wLstM, wMake, wMakeM, wMeth, wN, wNever, wNext, wNil, wNoPart, wNot, wNotV, wOp, wOr, wOrV, wPar, wPar3, wPart, wPass, wRet, wRevS, wRng1, wRng2, wSeq, wSl, wTup, wUn, wVar, wYes, wZip, enD, enW, outE, wMethE, wBinE, wRaise0, rdBinO, wFrzDO, wFrzDD, wSlX, wFmt, wJoin, wJs, wItemsL, rdLenO, rdReprO, rdEqO, wNE, wNEN, wRaise, wTry, hcont, wXf, rdIsE, rdIsEV, wFrzO, wFzL, wDnewT, wVals, wItemsD, wEither, wForM, wSlM, wLendE, wLendT, wLendL, wFmtRO, wFmtRD, wBMX, wTupX, wLendD, wOrD, wRev2, wRevI, wFrzTT, wFrzT, wDcT, wDisp1T, wGz, wPrs, wDisp, wDcN, wDnewN]
    refine ⟨_, rfl, _, T, hT, .inl ⟨_, _, rfl, k1, _, rfl, ifx (fun e => ?_) (fun e => ?_)⟩⟩
    · rw [if_pos rfl]
      rwa [show nmB d = false by cases d <;> first | rfl | (cases e; done)] at q
    obtain ⟨s, rfl⟩ : ∃ s, d = .str s := by cases d <;> first | exact ⟨_, rfl⟩ | (cases e; done)
    rw [wt_str] at hw
    have q : Q (.bl (nameS s)) M := q
    have hl : s.length ≤ sizeLine := line_le (by omega)
    refine ⟨_, rfl, _, rfl, hl, _, rfl, ifc (fun h1 => ?_) (fun h1 => ⟨_, rfl, _, rfl, hl, _, rfl, ifc (fun h2 => ?_) (fun h2 => hk _ ⟨⟨s, rfl, by omega, by omega⟩, rfl⟩)⟩)⟩
    · rw [if_pos rfl]
      rwa [name_not (by omega)] at q
    · rwa [name_not (by omega)] at q
  obtain ⟨⟨s, rfl, h1, h8⟩, rfl⟩ := hz
  have q : Q (.bl (nameS s)) M := q
  dsimp only [wMakeE, wRevT, wOrN, wKeysT, wLendW, wSlQ, gSetN, wLendN, wFzT, sAug, gN, gSet, gT0, gT1, gTup, sFldD, wAnd, wAndV, wAsg, wB, wBM, wBM0, wC, wChain, wCons, wDc, wDnew, wDrop, wEnum, wFld, wFor, wFrz, wFrzD, wFz, wIf, wIfS, wItems, wLc, wLcM, wLst, wLstM, wMake, wMakeM, wMeth, wN, wNever, wNext, wNil, wNoPart, wNot, wNotV, wOp, wOr, wOrV, wPar, wPar3, wPart, wPass, wRet, wRevS, wRng1, wRng2, wSeq, wSl, wTup, wUn, wVar, wYes, wZip, enD, enW, outE, wMethE, wBinE, wRaise0, rdBinO, wFrzDO, wFrzDD, wSlX, wFmt, wJoin, wJs, wItemsL, rdLenO, rdReprO, rdEqO, wNE, wNEN, wRaise, wTry, hcont, wXf, rdIsE, rdIsEV, wFrzO, wFzL, wDnewT, wVals, wItemsD, wEither, wForM, wSlM, wLendE, wLendT, wLendL, wFmtRO, wFmtRD, wBMX, wTupX, wLendD, wOrD, wRev2, wRevI, wFrzTT, wFrzT, wDcT, wDisp1T, wGz, wPrs, wDisp, wDcN, wDnewN]
  refine ⟨_, rfl, _, rfl, fun _ => ⟨?_, ?_⟩⟩
  · unfold signs
    rw [List.length_map]
    exact line_le (by simpa [Str.length] using (show s.length ≤ 1000000 by omega))
  refine lcGo_flt (fun d => !sgnB d) id (signs s) (fun x acc k hx hk => ?_) ?_
  · unfold signs at hx
    obtain ⟨c, hc, rfl⟩ := List.mem_map.mp hx
    have e := sgn_at c
    dsimp only [wMakeE, wRevT, wOrN, wKeysT, wLendW, wSlQ, gSetN, wLendN, wFzT, sAug, gN, gSet, gT0, gT1, gTup, sFldD, wAnd, wAndV, wAsg, wB, wBM, wBM0, wC, wChain, wCons, wDc, wDnew, wDrop, wEnum, wFld, wFor, wFrz, wFrzD, wFz, wIf, wIfS, wItems, wLc, wLcM, wLst, wLstM, wMake, wMakeM, wMeth, wN, wNever, wNext, wNil, wNoPart, wNot, wNotV, wOp, wOr, wOrV, wPar, wPar3, wPart, wPass, wRet, wRevS, wRng1, wRng2, wSeq, wSl, wTup, wUn, wVar, wYes, wZip, enD, enW, outE, wMethE, wBinE, wRaise0, rdBinO, wFrzDO, wFrzDD, wSlX, wFmt, wJoin, wJs, wItemsL, rdLenO, rdReprO, rdEqO, wNE, wNEN, wRaise, wTry, hcont, wXf, rdIsE, rdIsEV, wFrzO, wFzL, wDnewT, wVals, wItemsD, wEither, wForM, wSlM, wLendE, wLendT, wLendL, wFmtRO, wFmtRD, wBMX, wTupX, wLendD, wOrD, wRev2, wRevI, wFrzTT, wFrzT, wDcT, wDisp1T, wGz, wPrs, wDisp, wDcN, wDnewN]
    refine ⟨_, rfl, c, rfl, _, rfl, ?_⟩
    have e2 : (true ^^ decide (c ∈ lettersL.cps.toList)) = !sgnB (.str ⟨#[c]⟩) := by rw [← e]; simp
    show if (true ^^ decide (c ∈ lettersL.cps.toList)) = true then _ else _
    rw [e2]
    refine ifx (fun e => ?_) (fun e => ?_)
    · rw [if_pos e] at hk
      exact ⟨_, rfl, hk⟩
    · rw [if_neg (by rw [e]; exact Bool.false_ne_true)] at hk
      exact hk
  · refine ⟨Nat.zero_le _, eqN_l rfl ?_⟩
    rw [List.map_id]
    have e : ((signs s).filter fun d => !sgnB d).isEmpty = ((signs s).map sgnB).all id := by
      rw [Bool.eq_iff_iff, List.isEmpty_iff, List.filter_eq_nil_iff, List.all_map, List.all_eq_true]
      exact ⟨fun h x hx => by simpa using h x hx, fun h x hx => by simpa using h x hx⟩
    rw [e, signs_all, ← name_is h1 h8]
    exact q
end
end Q
set_option Elab.async false
set_option linter.all false
set_option maxRecDepth 100000
set_option maxHeartbeats 4000000
namespace Q
open PySem PySem.Spec PyProof.Rows L2 My
section
variable {P : Program} {w : World} {K : PySem.W.Frag} {mg : Str → Option Value} {base : Heap}
theorem ok_l_is_table (W : Wd P w K mg base) : FnG P w K mg base CX0 2 W.f_l_is_table W.d_l_is_table ["_law_thing"] (spD K (den_l_is_table)) := by
  refine qfn (k := 1) W.e_l_is_table.F sc_l_is_table ln_l_is_table (fun cdv A outer s H E g0 hr hg => (qss_cons (qs_if (QW.qt (qw_or (qt_not (qt_val (qB d_isi W.t_isinstance (qa_cons (qv 0) (qa_cons (qe_ty (n := "tuple") W.t_tuple) qa_nil))))) (qw_or (qct (d_ne (room64 hr)) (qB d_len W.t_len (qa_cons (qv 0) qa_nil)) qe_int) (qw_or1 (qt_not (qt_val (qe_call (ok_l_is_name W) mo_l_is_name (hr.mono (by decide)) hg W.e_l_is_name.mg W.e_l_is_name.F.kp W.e_l_is_name.bd (qa_cons (qix (d_ix (room1 hr)) (qv 0) qe_int) qa_nil)))))))) (qss_one (qs_ret qe_bl)) qss_nil) (qss_cons (qs_if (QW.qt (qw_or (qt_not (qt_val (qB d_isi W.t_isinstance (qa_cons (qix (d_ix (room1 hr)) (qv 0) qe_int) (qa_cons (qe_tup (qa_cons (qe_ty (n := "list") W.t_list) (qa_cons (qe_ty (n := "tuple") W.t_tuple) qa_nil))) qa_nil))))) (qw_or1 (qct (d_neN (room64 hr)) (qe_lc rfl sc_l_is_table.nd (qi_any (qT (d_list rfl) W.t_list (qa_cons (qix (d_ix (room1 hr)) (qv 0) qe_int) qa_nil))) (blkOk_by (own := [("_law_one", 1)]) (N := N_l_is_table) (sc := defScope st_l_is_table) (by decide +kernel)) (fun _ _ _ _ _ => qgo_name (i := 1) sc_l_is_table.nd) (fun _ _ _ _ _ _ => qts_one (qt_not (qt_val (qe_call (ok_l_is_name W) mo_l_is_name (hr.mono (by decide)) hg W.e_l_is_name.mg W.e_l_is_name.F.kp W.e_l_is_name.bd (qa_cons (qv 1) qa_nil))))) (fun _ _ _ _ _ _ => (qv 1))) (qe_lst qa_nil))))) (qss_one (qs_ret qe_bl)) qss_nil) (qss_one (qs_ret (qc (d_eq (room64 hr)) (qe_lenSet rfl W.t_len W.t_set (qix (d_ix (room1 hr)) (qv 0) qe_int)) (qB d_len W.t_len (qa_cons (qix (d_ix (room1 hr)) (qv 0) qe_int) qa_nil)))))))) ?_
  rintro ds M Q ⟨d, rfl, hx, hp, ⟨hw, hf⟩, q⟩
  obtain ⟨_, T, hT, _, k2, _⟩ := pr_ty (M := M) hp
  refine seq_cut (fun z => (∃ n y, d = .tup [.str n, y] ∧ nameS n = true) ∧ z = ⟨[some d, none], M⟩) (fun k hk => ?_) (fun z hz => ?_)
  · have no : tabD d = none → Q (.bl false) M := fun e => by rw [e] at q; exact q
    dsimp only [wMakeE, wRevT, wOrN, wKeysT, wLendW, wSlQ, gSetN, wLendN, wFzT, sAug, gN, gSet, gT0, gT1, gTup, sFldD, wAnd, wAndV, wAsg, wB, wBM, wBM0, wC, wChain, wCons, wDc, wDnew, wDrop, wEnum, wFld, wFor, wFrz, wFrzD, wFz, wIf, wIfS, wItems, wLc, wLcM, wLst, wLstM, wMake, wMakeM, wMeth, wN, wNever, wNext, wNil, wNoPart, wNot, wNotV, wOp, wOr, wOrV, wPar, wPar3, wPart, wPass, wRet, wRevS, wRng1, wRng2, wSeq, wSl, wTup, wUn, wVar, wYes, wZip, enD, enW, outE, wMethE, wBinE, wRaise0, rdBinO, wFrzDO, wFrzDD, wSlX, wFmt, wJoin, wJs, wItemsL, rdLenO, rdReprO, rdEqO, wNE, wNEN, wRaise, wTry, hcont, wXf, rdIsE, rdIsEV, wFrzO, wFzL, wDnewT, wVals, wItemsD, wEither, wForM, wSlM, wLendE, wLendT, wLendL, wFmtRO, wFmtRD, wBMX, wTupX, wLendD, wOrD, wRev2, wRevI, wFrzTT, wFrzT, wDcT, wDisp1T, wGz, wPrs, wDisp, wDcN, wDnewN]
    refine ⟨_, rfl, _, T, hT, .inl ⟨_, _, rfl, k2, _, rfl, ifx (fun e => ?_) (fun e => ?_)⟩⟩
    · rw [if_pos rfl]
      exact no (tabD_none1 ((Bool.not_eq_true' _).mp e))
    · obtain ⟨xs, rfl⟩ : ∃ xs, d = .tup xs := by cases d <;> first | exact ⟨_, rfl⟩ | (cases e; done) | (cases hx; done)
      refine ⟨_, rfl, _, rfl, _, rfl, ifn (fun h => ?_) (fun h => ?_)⟩
      · rw [if_pos rfl]
        exact no (tabD_len fun e => h (by rw [e]; rfl))
      obtain ⟨u, y, rfl⟩ : ∃ u y, xs = [u, y] := by
        match xs, h with
        | [u, y], _ => exact ⟨u, y, rfl⟩
        | [], h => simp at h
        | [_], h => simp at h
        | _ :: _ :: _ :: _, h => simp at h; omega
      have pu := prs_mem (ds := [u, y]) (by simpa only [D.pr] using hp) u (by simp)
      have wu := sumW_mem (ds := [u, y]) (d := u) (by simp)
      rw [wt_tup] at hw
      refine ⟨_, rfl, ix_t rfl (atI_nat (j := 0) rfl) ⟨u, rfl, pu, by omega, _, rfl, ifx (fun e => ?_) (fun e => ?_)⟩⟩
      · have e : nmB u = false := (Bool.not_eq_true' _).mp e
        by_cases hs : isS u = true
        · obtain ⟨n, rfl⟩ : ∃ s, u = .str s := by cases u <;> first | exact ⟨_, rfl⟩ | (cases hs; done)
          exact no (tabD_nm e)
        · have hs := (Bool.not_eq_true _).mp hs
          refine no ?_
          cases u <;> first | rfl | (cases hs; done)
      · have e : nmB u = true := by simpa using e
        obtain ⟨n, rfl⟩ : ∃ s, u = .str s := by cases u <;> first | exact ⟨_, rfl⟩ | (cases e; done)
        exact hk _ ⟨⟨n, y, rfl, e⟩, rfl⟩
  obtain ⟨⟨n, y, rfl, hn⟩, rfl⟩ := hz
  have py := prs_mem (ds := [.str n, y]) (by simpa only [D.pr] using hp) y (by simp)
  have xy := nxs_mem (ds := [.str n, y]) (by simpa only [D.nx] using hx) y (by simp)
  have wy := sumW_mem (ds := [.str n, y]) (d := y) (by simp)
  rw [wt_tup] at hw
  have tb : tabD (.tup [.str n, y]) = match ptD y with
    | some ds => if nameS n = true ∧ ds.all nmB = true ∧ (ds.map txD).Nodup then some (n, ds.map txD) else none
    | none => none := rfl
  refine seq_cut (fun z => (∃ ds, ptD y = some ds ∧ ds.all nmB = true) ∧ z = ⟨[some (.tup [.str n, y]), none], M⟩) (fun k hk => ?_) (fun z hz => ?_)
  · obtain ⟨Ty, hTy, ky⟩ := pr_ty3 (M := M) py xy
    dsimp only [wMakeE, wRevT, wOrN, wKeysT, wLendW, wSlQ, gSetN, wLendN, wFzT, sAug, gN, gSet, gT0, gT1, gTup, sFldD, wAnd, wAndV, wAsg, wB, wBM, wBM0, wC, wChain, wCons, wDc, wDnew, wDrop, wEnum, wFld, wFor, wFrz, wFrzD, wFz, wIf, wIfS, wItems, wLc, wLcM, wLst, wLstM, wMake, wMakeM, wMeth, wN, wNever, wNext, wNil, wNoPart, wNot, wNotV, wOp, wOr, wOrV, wPar, wPar3, wPart, wPass, wRet, wRevS, wRng1, wRng2, wSeq, wSl, wTup, wUn, wVar, wYes, wZip, enD, enW, outE, wMethE, wBinE, wRaise0, rdBinO, wFrzDO, wFrzDD, wSlX, wFmt, wJoin, wJs, wItemsL, rdLenO, rdReprO, rdEqO, wNE, wNEN, wRaise, wTry, hcont, wXf, rdIsE, rdIsEV, wFrzO, wFzL, wDnewT, wVals, wItemsD, wEither, wForM, wSlM, wLendE, wLendT, wLendL, wFmtRO, wFmtRD, wBMX, wTupX, wLendD, wOrD, wRev2, wRevI, wFrzTT, wFrzT, wDcT, wDisp1T, wGz, wPrs, wDisp, wDcN, wDnewN]
    refine ⟨_, rfl, ix_t rfl (atI_nat (j := 1) rfl) ⟨Nat.le_of_ble_eq_true rfl, _, Ty, hTy, .inr ⟨_, _, _, rfl, rfl, ky, _, rfl, ifx (fun e => ?_) (fun e => ?_)⟩⟩⟩
    · rw [if_pos rfl]
      have e : ptD y = none := by
        cases h : ptD y with
        | none => rfl
        | some ds => rw [h] at e; cases e
      rw [tb, e] at q
      exact q
    · obtain ⟨ds, hds⟩ : ∃ ds, ptD y = some ds := by
        cases h : ptD y with
        | none => rw [h] at e; cases e
        | some ds => exact ⟨ds, rfl⟩
      have it : seqD (look M y) = some ds := by cases y <;> first | (cases hds; done) | (cases hds; rfl)
      have ws : sumW ds = y.py.weight := by cases y <;> first | (cases hds; done) | (cases hds; first | rw [wt_lst] | rw [wt_tup])
      have pd : ∀ x ∈ ds, x.pr = true := by cases y <;> first | (cases hds; done) | (cases hds; exact prs_mem (by simpa only [D.pr] using py))
      have ld := sumW_len ds
      refine ⟨_, rfl, ix_t rfl (atI_nat (j := 1) rfl) ⟨_, ds, rfl, it, _, rfl, fun _ => ⟨line_le (by omega), ?_⟩⟩⟩
      refine lcGo_flt (fun x => !nmB x) id ds (fun x acc k2 hxm hk2 => ?_) ?_
      · have wx := sumW_mem hxm
        dsimp only [wMakeE, wRevT, wOrN, wKeysT, wLendW, wSlQ, gSetN, wLendN, wFzT, sAug, gN, gSet, gT0, gT1, gTup, sFldD, wAnd, wAndV, wAsg, wB, wBM, wBM0, wC, wChain, wCons, wDc, wDnew, wDrop, wEnum, wFld, wFor, wFrz, wFrzD, wFz, wIf, wIfS, wItems, wLc, wLcM, wLst, wLstM, wMake, wMakeM, wMeth, wN, wNever, wNext, wNil, wNoPart, wNot, wNotV, wOp, wOr, wOrV, wPar, wPar3, wPart, wPass, wRet, wRevS, wRng1, wRng2, wSeq, wSl, wTup, wUn, wVar, wYes, wZip, enD, enW, outE, wMethE, wBinE, wRaise0, rdBinO, wFrzDO, wFrzDD, wSlX, wFmt, wJoin, wJs, wItemsL, rdLenO, rdReprO, rdEqO, wNE, wNEN, wRaise, wTry, hcont, wXf, rdIsE, rdIsEV, wFrzO, wFzL, wDnewT, wVals, wItemsD, wEither, wForM, wSlM, wLendE, wLendT, wLendL, wFmtRO, wFmtRD, wBMX, wTupX, wLendD, wOrD, wRev2, wRevI, wFrzTT, wFrzT, wDcT, wDisp1T, wGz, wPrs, wDisp, wDcN, wDnewN]
        refine ⟨_, rfl, x, rfl, pd x hxm, by omega, _, rfl, ifx (fun e => ?_) (fun e => ?_)⟩
        · rw [if_pos e] at hk2
          exact ⟨_, rfl, hk2⟩
        · rw [if_neg (by rw [e]; exact Bool.false_ne_true)] at hk2
          exact hk2
      · refine ⟨Nat.zero_le _, ⟨_, rfl, rfl, _, rfl, ?_⟩⟩
        rw [List.map_id]
        cases ha : ds.all nmB with
        | true =>
          have e : (ds.filter fun x => !nmB x) = [] := List.filter_eq_nil_iff.mpr fun x hx => by rw [List.all_eq_true.mp ha x hx]; decide
          rw [e]
          exact ifx (fun e => by cases e) (fun _ => hk _ ⟨⟨ds, hds, ha⟩, rfl⟩)
        | false =>
          have e : (!(ds.filter fun x => !nmB x).isEmpty) = true := by
            obtain ⟨x, hx, hn⟩ := List.all_eq_false.mp ha
            have : x ∈ ds.filter fun x => !nmB x := List.mem_filter.mpr ⟨hx, by simpa using hn⟩
            cases h : ds.filter fun x => !nmB x with
            | nil => rw [h] at this; cases this
            | cons _ _ => rfl
          rw [e]
          refine ifx (fun _ => ?_) (fun e => by cases e)
          rw [tb, hds] at q
          dsimp only at q
          rw [if_neg (fun h => by rw [ha] at h; cases h.2.1)] at q
          exact q
  obtain ⟨⟨ds, hds, ha⟩, rfl⟩ := hz
  have few := hf _ _ _ rfl hds ha
  obtain ⟨e1, e2⟩ := nms_tx ha
  obtain ⟨cs, hcs⟩ : ∃ cs, cs = ds.map txD := ⟨_, rfl⟩
  rw [← hcs] at e1 e2
  have lc : cs.length = ds.length := by rw [hcs, List.length_map]
  rw [tb, hds] at q
  dsimp only at q
  rw [← hcs] at q
  dsimp only [wMakeE, wRevT, wOrN, wKeysT, wLendW, wSlQ, gSetN, wLendN, wFzT, sAug, gN, gSet, gT0, gT1, gTup, sFldD, wAnd, wAndV, wAsg, wB, wBM, wBM0, wC, wChain, wCons, wDc, wDnew, wDrop, wEnum, wFld, wFor, wFrz, wFrzD, wFz, wIf, wIfS, wItems, wLc, wLcM, wLst, wLstM, wMake, wMakeM, wMeth, wN, wNever, wNext, wNil, wNoPart, wNot, wNotV, wOp, wOr, wOrV, wPar, wPar3, wPart, wPass, wRet, wRevS, wRng1, wRng2, wSeq, wSl, wTup, wUn, wVar, wYes, wZip, enD, enW, outE, wMethE, wBinE, wRaise0, rdBinO, wFrzDO, wFrzDD, wSlX, wFmt, wJoin, wJs, wItemsL, rdLenO, rdReprO, rdEqO, wNE, wNEN, wRaise, wTry, hcont, wXf, rdIsE, rdIsEV, wFrzO, wFzL, wDnewT, wVals, wItemsD, wEither, wForM, wSlM, wLendE, wLendT, wLendL, wFmtRO, wFmtRD, wBMX, wTupX, wLendD, wOrD, wRev2, wRevI, wFrzTT, wFrzT, wDcT, wDisp1T, wGz, wPrs, wDisp, wDcN, wDnewN]
  refine ⟨_, rfl, ix_t rfl (atI_nat (j := 1) rfl) ?_⟩
  have mine : ∀ {A : D → Mp → Prop}, A (.int (ddp cs).length) M → rdLenSet y M A := fun {A} h => by
    have hy : y = .lst (sts cs) ∨ y = .tup (sts cs) := by
      rw [← e1]
      cases y <;> first | (cases hds; done) | skip
      · cases hds; exact .inr rfl
      · cases hds; exact .inl rfl
    rcases hy with rfl | rfl
    · exact ⟨cs, strsD_sts cs, by omega, h⟩
    · exact ⟨cs, strsD_sts cs, by omega, h⟩
  have ly : look M y = .lst ds ∨ look M y = .tup ds := by cases y <;> first | (cases hds; done) | (cases hds; first | exact .inl rfl | exact .inr rfl)
  refine mine ⟨_, rfl, ix_t rfl (atI_nat (j := 1) rfl) ⟨y, rfl, ?_⟩⟩
  have fin : Q (.bl (false ^^ decide (((ddp cs).length : Int) = (ds.length : Nat)))) M := by
    rw [Bool.false_xor, ← lc]
    by_cases nd : cs.Nodup
    · rw [if_pos ⟨hn, ha, nd⟩] at q
      rw [ddp_nodup nd, decide_eq_true rfl]
      exact q
    · rw [if_neg (fun h => nd h.2.2)] at q
      rw [decide_eq_false (fun e => nd (length_ddp_eq (by omega)))]
      exact q
  rcases ly with ly | ly
  · rw [ly]
    exact fin
  · rw [ly]
    exact fin
end
end Q
set_option Elab.async false
set_option linter.all false
set_option maxRecDepth 100000
set_option maxHeartbeats 4000000
namespace Q
open PySem PySem.Spec PyProof.Rows L2 My
section
variable {P : Program} {w : World} {K : PySem.W.Frag} {mg : Str → Option Value} {base : Heap}
theorem ok_l_due (W : Wd P w K mg base) : FnG P w K mg base CX0 3 W.f_l_due W.d_l_due ["_law_thing"] (spD K (den_l_due13)) := by
  refine qfw (k := 2) W.e_l_due.F sc_l_due ln_l_due13 (fun cdv A outer s H E g0 hr hg => (qss_cons (qs_if (QW.qt (qw_or (qt_not (qt_val (qB d_isi W.t_isinstance (qa_cons (qv 0) (qa_cons (qe_tup (qa_cons (qe_ty (n := "list") W.t_list) (qa_cons (qe_ty (n := "tuple") W.t_tuple) qa_nil))) qa_nil))))) (qw_or (qct d_lt (qB d_len W.t_len (qa_cons (qv 0) qa_nil)) qe_int) (qw_or1 (qct d_gt (qB d_len W.t_len (qa_cons (qv 0) qa_nil)) qe_int))))) (qss_one (qs_ret (qe_tup (qa_cons qe_str (qa_cons qe_int qa_nil))))) qss_nil) (qss_cons (qs_asg (qe_tup (qa_cons (qe_lstM qa_nil) (qa_cons (qe_lst qa_nil) qa_nil))) (qg_tup (n := 2) rfl (qgs_cons (qg_name (i := 1) sc_l_due.nd) (qgs_cons (qg_name (i := 2) sc_l_due.nd) qgs_nil)))) (qss_cons (qs_for PassesOwn.never rfl (qi_range1 W.t_range (qa_cons (qB d_len W.t_len (qa_cons (qv 0) qa_nil)) qa_nil)) (qg_name (i := 3) sc_l_due.nd) (qss_cons (qs_if (QW.qt (qw_or (qt_not (qt_val (qe_call (ok_l_is_table W) mo_l_is_table (hr.mono (by decide)) hg W.e_l_is_table.mg W.e_l_is_table.F.kp W.e_l_is_table.bd (qa_cons (qix (d_ix (room1 hr)) (qv 0) (qv 3)) qa_nil)))) (qw_or1 (qct (d_in (room65 hr)) (qix (d_ix (room1 hr)) (qix (d_ix (room1 hr)) (qv 0) (qv 3)) qe_int) (qv 1))))) (qss_one (qs_ret (qe_tup (qa_cons qe_str (qa_cons (qv 3) qa_nil))))) qss_nil) (qss_cons (qs_expr (qe_bm PySem.F.plainAttrs_list PySem.F.slot_list_append PySem.F.type_list_append d_append (qv 1) (qa_cons (qix (d_ix (room1 hr)) (qix (d_ix (room1 hr)) (qv 0) (qv 3)) qe_int) qa_nil))) (qss_cons (qs_set (i := 2) sc_l_due.nd (q2 d_add (qv 2) (qe_lc rfl sc_l_due.nd (qi_any (qix (d_ix (room1 hr)) (qix (d_ix (room1 hr)) (qv 0) (qv 3)) qe_int)) (blkOk_by (own := [("_law_one", 4)]) (N := N_l_due) (sc := defScope st_l_due) (by decide +kernel)) (fun _ _ _ _ _ => qgo_name (i := 4) sc_l_due.nd) (fun _ _ _ _ _ _ => qts_one (qct (d_notIn (room65 hr)) (qv 4) (qv 2))) (fun _ _ _ _ _ _ => (qv 4))))) (qss_one (qs_if (qct d_gt (qB d_len W.t_len (qa_cons (qv 2) qa_nil)) qe_int) (qss_one (qs_ret (qe_tup (qa_cons qe_str (qa_cons (qv 3) qa_nil))))) qss_nil)))))) (qss_one (qs_ret (qe_tup (qa_cons qe_str (qa_cons (qB (d_sortD (room200 hr) W.sy) W.t_sorted (qa_cons (qe_lc rfl sc_l_due.nd (qi_any (qv 0)) (blkOk_by (own := [("_law_one", 4)]) (N := N_l_due) (sc := defScope st_l_due) (by decide +kernel)) (fun _ _ _ _ _ => qgo_name (i := 4) sc_l_due.nd) (fun _ _ _ _ _ _ => qts_nil) (fun _ _ _ _ _ _ => (qe_tup (qa_cons (qix (d_ix (room1 hr)) (qv 4) qe_int) (qa_cons (qT d_tupleX W.t_tuple (qa_cons (qB (d_sorted rfl) W.t_sorted (qa_cons (qix (d_ix (room1 hr)) (qv 4) qe_int) qa_nil)) qa_nil)) qa_nil))))) qa_nil)) qa_nil))))))))) ?_
  --W
  rintro ds M Q ⟨t, rfl, ht, q⟩
  obtain ⟨tx, tp, tw, tf⟩ := ht
  refine seq_cut (fun z => (∃ l, ptD t = some l ∧ 1 ≤ l.length ∧ l.length ≤ 6) ∧ z = ⟨ini N_l_due.length [t], M⟩) (fun k hk => ?_) ?_
  · obtain ⟨T, hT, kt⟩ := pr_ty3 (M := M) tp tx
    dsimp only [wMakeE, wRevT, wOrN, wKeysT, wLendW, wSlQ, gSetN, wLendN, wFzT, sAug, gN, gSet, gT0, gT1, gTup, sFldD, wAnd, wAndV, wAsg, wB, wBM, wBM0, wC, wChain, wCons, wDc, wDnew, wDrop, wEnum, wFld, wFor, wFrz, wFrzD, wFz, wIf, wIfS, wItems, wLc, wLcM, wLst, wLstM, wMake, wMakeM, wMeth, wN, wNever, wNext, wNil, wNoPart, wNot, wNotV, wOp, wOr, wOrV, wPar, wPar3, wPart, wPass, wRet, wRevS, wRng1, wRng2, wSeq, wSl, wTup, wUn, wVar, wYes, wZip, enD, enW, outE, wMethE, wBinE, wRaise0, rdBinO, wFrzDO, wFrzDD, wSlX, wFmt, wJoin, wJs, wItemsL, rdLenO, rdReprO, rdEqO, wNE, wNEN, wRaise, wTry, hcont, wXf, rdIsE, rdIsEV, wFrzO, wFzL, wDnewT, wVals, wItemsD, wEither, wForM, wSlM, wLendE, wLendT, wLendL, wFmtRO, wFmtRD, wBMX, wTupX, wLendD, wOrD, wRev2, wRevI, wFrzTT, wFrzT, wDcT, wDisp1T, wGz, wPrs, wDisp, wDcN, wDnewN]
    refine ⟨_, rfl, by show 2 ≤ sizeLine; decide, _, T, hT, .inr ⟨_, _, _, rfl, rfl, kt, _, rfl, ifx (fun e => ?_) (fun e => ?_)⟩⟩
    · rw [if_pos rfl]
      have e : ptD t = none := by
        cases h : ptD t with
        | none => rfl
        | some l => rw [h] at e; cases e
      rw [due_none e] at q
      exact ⟨by show 2 ≤ sizeLine; decide, M, Mle.refl M, q⟩
    · obtain ⟨l, hl⟩ : ∃ l, ptD t = some l := by
        cases h : ptD t with
        | none => rw [h] at e; cases e
        | some l => exact ⟨l, rfl⟩
      have bad : (l.length < 1 ∨ 6 < l.length) → Q (.tup [.str "wrong", .int 0]) M := fun h => by
        rw [due_many hl h] at q
        exact q
      refine ⟨_, rfl, len_pt hl ⟨_, rfl, ifc (fun h => ?_) (fun h => ?_)⟩⟩
      · rw [if_pos rfl]
        exact ⟨by show 2 ≤ sizeLine; decide, M, Mle.refl M, bad (.inl (by omega))⟩
      · refine ⟨_, rfl, len_pt hl ⟨_, rfl, ifc (fun h6 => ?_) (fun h6 => ?_)⟩⟩
        · exact ⟨by show 2 ≤ sizeLine; decide, M, Mle.refl M, bad (.inr (by omega))⟩
        · exact hk _ ⟨⟨l, hl, by omega, by omega⟩, rfl⟩
  · rintro z ⟨⟨l, hl, n1, n6⟩, rfl⟩
    have hq : ∀ i : Nat, scanQ [] l = .inl i → Q (.tup [.str "bad", .int i]) M := fun i h => by
      rw [due_bad hl ⟨n1, n6⟩ h] at q
      exact q
    have hx := tf l hl
    have wl : ∀ d ∈ l, d.nx = true ∧ d.pr = true ∧ d.py.weight ≤ 200000 := by
      intro d hd
      have := sumW_mem hd
      rcases pt_or hl with rfl | rfl
      · refine ⟨nxs_mem (by simpa only [D.nx] using tx) d hd, prs_mem (by simpa only [D.pr] using tp) d hd, ?_⟩
        rw [wt_lst] at tw
        omega
      · refine ⟨nxs_mem (by simpa only [D.nx] using tx) d hd, prs_mem (by simpa only [D.pr] using tp) d hd, ?_⟩
        rw [wt_tup] at tw
        omega
    refine seq_cut (fun z => ∃ p, M p = none ∧ z = ⟨[some t, some (.ref p), some (.lst []), none, none], mupd M p (some (.lst []))⟩) (fun k hk => ?_) ?_
    · dsimp only [wMakeE, wRevT, wOrN, wKeysT, wLendW, wSlQ, gSetN, wLendN, wFzT, sAug, gN, gSet, gT0, gT1, gTup, sFldD, wAnd, wAndV, wAsg, wB, wBM, wBM0, wC, wChain, wCons, wDc, wDnew, wDrop, wEnum, wFld, wFor, wFrz, wFrzD, wFz, wIf, wIfS, wItems, wLc, wLcM, wLst, wLstM, wMake, wMakeM, wMeth, wN, wNever, wNext, wNil, wNoPart, wNot, wNotV, wOp, wOr, wOrV, wPar, wPar3, wPart, wPass, wRet, wRevS, wRng1, wRng2, wSeq, wSl, wTup, wUn, wVar, wYes, wZip, enD, enW, outE, wMethE, wBinE, wRaise0, rdBinO, wFrzDO, wFrzDD, wSlX, wFmt, wJoin, wJs, wItemsL, rdLenO, rdReprO, rdEqO, wNE, wNEN, wRaise, wTry, hcont, wXf, rdIsE, rdIsEV, wFrzO, wFzL, wDnewT, wVals, wItemsD, wEither, wForM, wSlM, wLendE, wLendT, wLendL, wFmtRO, wFmtRD, wBMX, wTupX, wLendD, wOrD, wRev2, wRevI, wFrzTT, wFrzT, wDcT, wDisp1T, wGz, wPrs, wDisp, wDcN, wDnewN]
      refine ⟨Nat.zero_le _, fun p hp => ?_⟩
      exact ⟨Nat.zero_le _, by show 2 ≤ sizeLine; decide, _, rfl, rfl, _, _, rfl, _, _, rfl, rfl, hk _ ⟨p, hp, rfl⟩⟩
    · rintro z ⟨p, hp, rfl⟩
      refine seq_cut (fun z => ∃ done cols d3 d4, DU l done cols l.length ∧ z = ⟨[some t, some (.ref p), some (.lst (sts cols)), d3, d4], mupd M p (some (.lst (sts (done.map (·.nm)))))⟩) (fun k hk => ?_) ?_
      · dsimp only [wMakeE, wRevT, wOrN, wKeysT, wLendW, wSlQ, gSetN, wLendN, wFzT, sAug, gN, gSet, gT0, gT1, gTup, sFldD, wAnd, wAndV, wAsg, wB, wBM, wBM0, wC, wChain, wCons, wDc, wDnew, wDrop, wEnum, wFld, wFor, wFrz, wFrzD, wFz, wIf, wIfS, wItems, wLc, wLcM, wLst, wLstM, wMake, wMakeM, wMeth, wN, wNever, wNext, wNil, wNoPart, wNot, wNotV, wOp, wOr, wOrV, wPar, wPar3, wPart, wPass, wRet, wRevS, wRng1, wRng2, wSeq, wSl, wTup, wUn, wVar, wYes, wZip, enD, enW, outE, wMethE, wBinE, wRaise0, rdBinO, wFrzDO, wFrzDD, wSlX, wFmt, wJoin, wJs, wItemsL, rdLenO, rdReprO, rdEqO, wNE, wNEN, wRaise, wTry, hcont, wXf, rdIsE, rdIsEV, wFrzO, wFzL, wDnewT, wVals, wItemsD, wEither, wForM, wSlM, wLendE, wLendT, wLendL, wFmtRO, wFmtRD, wBMX, wTupX, wLendD, wOrD, wRev2, wRevI, wFrzTT, wFrzT, wDcT, wDisp1T, wGz, wPrs, wDisp, wDcN, wDnewN]
        refine ⟨_, rfl, len_pt hl ⟨_, rfl, by omega, by omega, ?_⟩⟩
        refine wLoop_rng l.length (fun i z => ∃ done cols d3 d4, DU l done cols i ∧ z = ⟨[some t, some (.ref p), some (.lst (sts cols)), d3, d4], mupd M p (some (.lst (sts (done.map (·.nm)))))⟩) (fun i hi k z hI hk => ?_) (fun z hI => hk z hI) _ ⟨[], [], _, _, ⟨rfl, List.nodup_nil, fun r h => (nomatch h), by decide, rfl, List.nodup_nil, fun c => Iff.rfl, rfl⟩, rfl⟩
        obtain ⟨done, cols, d3, d4, hU, rfl⟩ := hI
        have hmem : l[i] ∈ l := List.getElem_mem hi
        have hg : l[i]? = some l[i] := List.getElem?_eq_getElem hi
        have hsc := hU.at_
        rw [List.drop_eq_getElem_cons hi] at hsc
        obtain ⟨hnx, hpr, hwd⟩ := wl _ hmem
        have hcf := hx _ hmem
        have hle := (Mle.refl M).put (o := some (MO.lst (sts (done.map (·.nm))))) hp
        have hbad : scanQ [] l = .inl done.length → Q (.tup [.str "bad", .int i]) M := fun h => hq _ (by rw [h, hU.n])
        have htk : l.take (i + 1) = l.take i ++ [l[i]] := by rw [List.take_succ_eq_append_getElem hi]
        generalize l[i] = dd at hsc hnx hpr hwd hcf hg htk
        dsimp only [wMakeE, wRevT, wOrN, wKeysT, wLendW, wSlQ, gSetN, wLendN, wFzT, sAug, gN, gSet, gT0, gT1, gTup, sFldD, wAnd, wAndV, wAsg, wB, wBM, wBM0, wC, wChain, wCons, wDc, wDnew, wDrop, wEnum, wFld, wFor, wFrz, wFrzD, wFz, wIf, wIfS, wItems, wLc, wLcM, wLst, wLstM, wMake, wMakeM, wMeth, wN, wNever, wNext, wNil, wNoPart, wNot, wNotV, wOp, wOr, wOrV, wPar, wPar3, wPart, wPass, wRet, wRevS, wRng1, wRng2, wSeq, wSl, wTup, wUn, wVar, wYes, wZip, enD, enW, outE, wMethE, wBinE, wRaise0, rdBinO, wFrzDO, wFrzDD, wSlX, wFmt, wJoin, wJs, wItemsL, rdLenO, rdReprO, rdEqO, wNE, wNEN, wRaise, wTry, hcont, wXf, rdIsE, rdIsEV, wFrzO, wFzL, wDnewT, wVals, wItemsD, wEither, wForM, wSlM, wLendE, wLendT, wLendL, wFmtRO, wFmtRD, wBMX, wTupX, wLendD, wOrD, wRev2, wRevI, wFrzTT, wFrzT, wDcT, wDisp1T, wGz, wPrs, wDisp, wDcN, wDnewN]
        refine ⟨_, rfl, _, rfl, ix_pt hl hg ⟨dd, rfl, hnx, hpr, ⟨hwd, hcf⟩, _, rfl, ifx (fun e => ?_) (fun e => ?_)⟩⟩
        · rw [if_pos rfl]
          exact ⟨_, rfl, by show 2 ≤ sizeLine; decide, M, hle, hbad (hsc.trans (scanQ_none (rowO_none ((Bool.not_eq_true' _).mp e))))⟩
        obtain ⟨r, hr⟩ := rowO_some (d := dd) (by simpa using e)
        obtain ⟨er, hrn, hcn⟩ := rowO_eq hr
        subst er
        have hc60 := cols_few hcf hcn
        refine ⟨_, rfl, _, rfl, ix_pt hl hg (ix_t rfl (atI_nat (j := 0) rfl) ⟨_, rfl, in_lk lkS ⟨_, rfl, ifx (fun e => ?_) (fun e => ?_)⟩⟩)⟩
        · exact ⟨_, rfl, by show 2 ≤ sizeLine; decide, M, hle, hbad (hsc.trans (scanQ_bad hr (.inl (by simpa using e))))⟩
        have hm : r.nm ∉ done.map (·.nm) := fun h => by
          rw [decide_eq_true h] at e
          cases e
        have cl : cols.length = (rowsU done).length := nd_ddp hU.cn hU.cm
        have hn := hU.n
        have few := hU.few
        have es : sts (done.map (·.nm)) ++ [D.str r.nm] = sts ((done ++ [r]).map (·.nm)) := by unfold sts; rw [List.map_append, List.map_append]; rfl
        have hsz : (sts (done.map (·.nm)) ++ [D.str r.nm]).length ≤ sizeLine := by rw [List.length_append, len_sts, List.length_map, hn]; exact line_le (by show i + 1 ≤ _; omega)
        refine ⟨_, rfl, ty_l lkS, _, rfl, _, rfl, ix_pt hl hg (ix_t rfl (atI_nat (j := 0) rfl) ⟨p, _, _, _, rfl, mupd_same, rfl, hsz, ?_⟩)⟩
        rw [mupd_mupd, es]
        have hle2 := (Mle.refl M).put (o := some (MO.lst (sts ((done ++ [r]).map (·.nm))))) hp
        refine ⟨_, rfl, _, rfl, _, rfl, ix_pt hl hg (ix_t rfl (atI_nat (j := 1) rfl) ⟨sts r.cs, items_cols _ _, fun _ => ⟨by rw [len_sts]; exact line_le (by omega), ?_⟩⟩)⟩
        refine lcGo_s (fun c => !decide (c ∈ cols)) D.str r.cs (fun c hc acc k' hy hn => ?_) ?_
        · dsimp only [wMakeE, wRevT, wOrN, wKeysT, wLendW, wSlQ, gSetN, wLendN, wFzT, sAug, gN, gSet, gT0, gT1, gTup, sFldD, wAnd, wAndV, wAsg, wB, wBM, wBM0, wC, wChain, wCons, wDc, wDnew, wDrop, wEnum, wFld, wFor, wFrz, wFrzD, wFz, wIf, wIfS, wItems, wLc, wLcM, wLst, wLstM, wMake, wMakeM, wMeth, wN, wNever, wNext, wNil, wNoPart, wNot, wNotV, wOp, wOr, wOrV, wPar, wPar3, wPart, wPass, wRet, wRevS, wRng1, wRng2, wSeq, wSl, wTup, wUn, wVar, wYes, wZip, enD, enW, outE, wMethE, wBinE, wRaise0, rdBinO, wFrzDO, wFrzDD, wSlX, wFmt, wJoin, wJs, wItemsL, rdLenO, rdReprO, rdEqO, wNE, wNEN, wRaise, wTry, hcont, wXf, rdIsE, rdIsEV, wFrzO, wFzL, wDnewT, wVals, wItemsD, wEither, wForM, wSlM, wLendE, wLendT, wLendL, wFmtRO, wFmtRD, wBMX, wTupX, wLendD, wOrD, wRev2, wRevI, wFrzTT, wFrzT, wDcT, wDisp1T, wGz, wPrs, wDisp, wDcN, wDnewN]
          refine ⟨_, rfl, _, rfl, in_lk rfl ⟨_, rfl, ifx (fun e => ⟨_, rfl, hy (by simpa using e)⟩) (fun e => hn (by simpa using e))⟩⟩
        · have ea : sts cols ++ (r.cs.filter fun c => !decide (c ∈ cols)).map D.str = sts (cols ++ r.cs.filter fun c => !decide (c ∈ cols)) := by unfold sts; rw [List.map_append]
          have fl : (done ++ [r]).flatMap (·.cs) = done.flatMap (·.cs) ++ r.cs := by simp
          have cn2 : (cols ++ r.cs.filter fun c => !decide (c ∈ cols)).Nodup := by
            rw [List.nodup_append]
            refine ⟨hU.cn, hcn.nd.filter _, fun x hx y hy e => ?_⟩
            subst e
            have := (List.mem_filter.mp hy).2
            simp at this
            exact this hx
          have cm2 : ∀ c, c ∈ (cols ++ r.cs.filter fun c => !decide (c ∈ cols)) ↔ c ∈ (done ++ [r]).flatMap (·.cs) := fun c => by
            rw [fl, List.mem_append, List.mem_append, List.mem_filter, ← hU.cm c]
            by_cases h : c ∈ cols
            · simp [h]
            · simp [h]
          have gl : _ = (rowsU (done ++ [r])).length := nd_ddp cn2 cm2
          have fsz : (r.cs.filter fun c => !decide (c ∈ cols)).length ≤ 60 := Nat.le_trans (List.length_filter_le _ _) hc60
          refine ⟨line_le (by rw [len_sts, List.length_map]; omega), ?_⟩
          rw [ea]
          refine ⟨_, rfl, ⟨_, rfl, ⟨_, rfl, ifc (fun h => ?_) (fun h => ?_)⟩⟩⟩
          · rw [len_sts, gl] at h
            exact ⟨_, rfl, by show 2 ≤ sizeLine; decide, M, hle2, hbad (hsc.trans (scanQ_bad hr (.inr (by omega))))⟩
          · rw [len_sts, gl] at h
            refine hk _ ⟨done ++ [r], _, _, _, ⟨by rw [List.length_append, hn]; rfl, ?_, ?_, by omega, hsc.trans (scanQ_ok hr fun k => k.elim hm fun k => by omega), cn2, cm2, by rw [htk, hU.ro, List.map_append]; rfl⟩, rfl⟩
            · rw [List.map_append, List.nodup_append]
              refine ⟨hU.nd, by simp, fun x hx y hy e => ?_⟩
              rw [List.map_cons, List.map_nil, List.mem_singleton] at hy
              subst hy e
              exact hm hx
            · intro r' h'
              rcases List.mem_append.mp h' with h' | h'
              · exact hU.nm r' h'
              · rw [List.mem_singleton.mp h']
                exact ⟨hrn, hcn⟩
      · rintro z ⟨rows, cols, d3, d4, hU, rfl⟩
        have sc : scanQ [] l = .inr rows := by rw [hU.at_, List.drop_length]; rfl
        rw [due_fine hl ⟨n1, n6⟩ sc] at q
        have ro := hU.ro
        rw [List.take_length] at ro
        have hle := (Mle.refl M).put (o := some (MO.lst (sts (rows.map (·.nm))))) hp
        have cl : cols.length = (rowsU rows).length := nd_ddp hU.cn hU.cm
        have few := hU.few
        have it : items t = some l := by rcases pt_or hl with rfl | rfl <;> rfl
        dsimp only [wMakeE, wRevT, wOrN, wKeysT, wLendW, wSlQ, gSetN, wLendN, wFzT, sAug, gN, gSet, gT0, gT1, gTup, sFldD, wAnd, wAndV, wAsg, wB, wBM, wBM0, wC, wChain, wCons, wDc, wDnew, wDrop, wEnum, wFld, wFor, wFrz, wFrzD, wFz, wIf, wIfS, wItems, wLc, wLcM, wLst, wLstM, wMake, wMakeM, wMeth, wN, wNever, wNext, wNil, wNoPart, wNot, wNotV, wOp, wOr, wOrV, wPar, wPar3, wPart, wPass, wRet, wRevS, wRng1, wRng2, wSeq, wSl, wTup, wUn, wVar, wYes, wZip, enD, enW, outE, wMethE, wBinE, wRaise0, rdBinO, wFrzDO, wFrzDD, wSlX, wFmt, wJoin, wJs, wItemsL, rdLenO, rdReprO, rdEqO, wNE, wNEN, wRaise, wTry, hcont, wXf, rdIsE, rdIsEV, wFrzO, wFzL, wDnewT, wVals, wItemsD, wEither, wForM, wSlM, wLendE, wLendT, wLendL, wFmtRO, wFmtRD, wBMX, wTupX, wLendD, wOrD, wRev2, wRevI, wFrzTT, wFrzT, wDcT, wDisp1T, wGz, wPrs, wDisp, wDcN, wDnewN]
        refine ⟨_, rfl, l, it, fun _ => ⟨line_le (by omega), ?_⟩⟩
        rw [ro]
        refine lcGo_aa rowD (fun r => pairX (r.nm, ssort r.cs)) rows (fun r hr acc k hk => ?_) ?_
        · have hc := (hU.nm r hr).2
          have c8 : r.cs.length ≤ 8 := Nat.le_trans (hc.nd.length_le_of_subset fun c h => (hU.cm c).mpr (List.mem_flatMap.mpr ⟨r, hr, h⟩)) (by omega)
          dsimp only [wMakeE, wRevT, wOrN, wKeysT, wLendW, wSlQ, gSetN, wLendN, wFzT, sAug, gN, gSet, gT0, gT1, gTup, sFldD, wAnd, wAndV, wAsg, wB, wBM, wBM0, wC, wChain, wCons, wDc, wDnew, wDrop, wEnum, wFld, wFor, wFrz, wFrzD, wFz, wIf, wIfS, wItems, wLc, wLcM, wLst, wLstM, wMake, wMakeM, wMeth, wN, wNever, wNext, wNil, wNoPart, wNot, wNotV, wOp, wOr, wOrV, wPar, wPar3, wPart, wPass, wRet, wRevS, wRng1, wRng2, wSeq, wSl, wTup, wUn, wVar, wYes, wZip, enD, enW, outE, wMethE, wBinE, wRaise0, rdBinO, wFrzDO, wFrzDD, wSlX, wFmt, wJoin, wJs, wItemsL, rdLenO, rdReprO, rdEqO, wNE, wNEN, wRaise, wTry, hcont, wXf, rdIsE, rdIsEV, wFrzO, wFzL, wDnewT, wVals, wItemsD, wEither, wForM, wSlM, wLendE, wLendT, wLendL, wFmtRO, wFmtRD, wBMX, wTupX, wLendD, wOrD, wRev2, wRevI, wFrzTT, wFrzT, wDcT, wDisp1T, wGz, wPrs, wDisp, wDcN, wDnewN]
          exact ⟨_, rfl, ix_t rfl (atI_nat (j := 0) rfl) ⟨_, rfl, ix_t rfl (atI_nat (j := 1) rfl) ⟨_, _, _, rfl, seqD_cols _ _ _, strsD_sts _, by omega, _, _, rfl, rfl, by show 2 ≤ sizeLine; decide, hk⟩⟩⟩
        · have so : SrtOk ((rows.map fun r => (r.nm, ssort r.cs)).map pairX) := pairY_srtOk _ fun _ => false
          rw [List.map_map] at so
          refine ⟨_, _, rfl, rfl, so, by show 2 ≤ sizeLine; decide, M, hle, ?_⟩
          rw [told_due hU.nd]
          exact q
end
end Q
set_option Elab.async false
set_option linter.all false
set_option maxRecDepth 100000
set_option maxHeartbeats 4000000
namespace Q
open PySem PySem.Spec PyProof.Rows L2 My
section
variable {P : Program} {w : World} {K : PySem.W.Frag} {mg : Str → Option Value} {base : Heap}
theorem ok_l_mixed (W : Wd P w K mg base) : FnG P w K mg base CX0 2 W.f_l_mixed W.d_l_mixed ["_law_bag_here", "_law_things"] (spD K (den_l_mixed60)) := by
  refine qfn (k := 1) W.e_l_mixed.F sc_l_mixed ln_l_mixed60 (fun cdv A outer s H E g0 hr hg => (qss_cons (qs_set (i := 2) sc_l_mixed.nd (qe_lstM qa_nil)) (qss_cons (qs_for PassesOwn.never rfl (qi_any (qv 1)) (qg_name (i := 3) sc_l_mixed.nd) (qss_one (qs_expr (qe_bm PySem.F.plainAttrs_list PySem.F.slot_list_insert PySem.F.type_list_insert d_insert (qv 2) (qa_cons (qe_call (ok_l_take W) mo_l_take (hr.mono (by decide)) hg W.e_l_take.mg W.e_l_take.F.kp W.e_l_take.bd (qa_cons (qv 0) (qa_cons (q2 d_add (qB d_len W.t_len (qa_cons (qv 2) qa_nil)) qe_int) qa_nil))) (qa_cons (qv 3) qa_nil)))))) (qss_one (qs_ret (qv_frzO 2)))))) ?_
  rintro ds M Q ⟨d0, ls, rfl, h0, hl, q⟩
  have hit : items d0 = some ls := by rcases h0 with rfl | rfl <;> rfl
  dsimp only [wMakeE, wRevT, wOrN, wKeysT, wLendW, wSlQ, gSetN, wLendN, wFzT, sAug, gN, gSet, gT0, gT1, gTup, sFldD, wAnd, wAndV, wAsg, wB, wBM, wBM0, wC, wChain, wCons, wDc, wDnew, wDrop, wEnum, wFld, wFor, wFrz, wFrzD, wFz, wIf, wIfS, wItems, wLc, wLcM, wLst, wLstM, wMake, wMakeM, wMeth, wN, wNever, wNext, wNil, wNoPart, wNot, wNotV, wOp, wOr, wOrV, wPar, wPar3, wPart, wPass, wRet, wRevS, wRng1, wRng2, wSeq, wSl, wTup, wUn, wVar, wYes, wZip, enD, enW, outE, wMethE, wBinE, wRaise0, rdBinO, wFrzDO, wFrzDD, wSlX, wFmt, wJoin, wJs, wItemsL, rdLenO, rdReprO, rdEqO, wNE, wNEN, wRaise, wTry, hcont, wXf, rdIsE, rdIsEV, wFrzO, wFzL, wDnewT, wVals, wItemsD, wEither, wForM, wSlM, wLendE, wLendT, wLendL, wFmtRO, wFmtRD, wBMX, wTupX, wLendD, wOrD, wRev2, wRevI, wFrzTT, wFrzT, wDcT, wDisp1T, wGz, wPrs, wDisp, wDcN, wDnewN]
  refine ⟨by decide, fun p hp => ?_⟩
  refine ⟨_, rfl, _, hit, fun hsz => ?_⟩
  refine wLoop_ind (fun rest z => ∃ acc d3, z = ⟨[some .bag, some d0, some (.ref p), d3], mupd M p (some (.lst acc))⟩ ∧ (acc ++ rest).Perm ls) (fun d rest k z hI hk => ?_) (fun z hI => ?_) ls _ ⟨[], none, rfl, .refl _⟩
  · obtain ⟨acc, d3, rfl, hp2⟩ := hI
    have hlen : acc.length + (rest.length + 1) = ls.length := by have := hp2.length_eq; simpa using this
    dsimp only [wMakeE, wRevT, wOrN, wKeysT, wLendW, wSlQ, gSetN, wLendN, wFzT, sAug, gN, gSet, gT0, gT1, gTup, sFldD, wAnd, wAndV, wAsg, wB, wBM, wBM0, wC, wChain, wCons, wDc, wDnew, wDrop, wEnum, wFld, wFor, wFrz, wFrzD, wFz, wIf, wIfS, wItems, wLc, wLcM, wLst, wLstM, wMake, wMakeM, wMeth, wN, wNever, wNext, wNil, wNoPart, wNot, wNotV, wOp, wOr, wOrV, wPar, wPar3, wPart, wPass, wRet, wRevS, wRng1, wRng2, wSeq, wSl, wTup, wUn, wVar, wYes, wZip, enD, enW, outE, wMethE, wBinE, wRaise0, rdBinO, wFrzDO, wFrzDD, wSlX, wFmt, wJoin, wJs, wItemsL, rdLenO, rdReprO, rdEqO, wNE, wNEN, wRaise, wTry, hcont, wXf, rdIsE, rdIsEV, wFrzO, wFzL, wDnewT, wVals, wItemsD, wEither, wForM, wSlM, wLendE, wLendT, wLendL, wFmtRO, wFmtRD, wBMX, wTupX, wLendD, wOrD, wRev2, wRevI, wFrzTT, wFrzT, wDcT, wDisp1T, wGz, wPrs, wDisp, wDcN, wDnewN]
    refine ⟨_, rfl, ty_l lkS, _, rfl, _, rfl, len_l lkS ?_⟩
    refine ⟨_, rfl, by omega, by omega, fun v hv0 hv1 => ?_⟩
    refine ⟨_, rfl, p, acc, acc.take v.toNat ++ [d] ++ acc.drop v.toNat, .non, rfl, mupd_same, ?_, ?_, ?_⟩
    · show (if 0 ≤ v ∧ v < 2 ^ 63 then _ else _) = _
      rw [if_pos ⟨hv0, by omega⟩]
    · rw [sizeLine_eq]; simp; omega
    · refine hk _ ⟨_, some d, by rw [mupd_mupd]; rfl, ?_⟩
      refine List.Perm.trans ?_ hp2
      have e : acc.take v.toNat ++ [d] ++ acc.drop v.toNat ++ rest = acc.take v.toNat ++ d :: (acc.drop v.toNat ++ rest) := by simp
      rw [e]
      refine List.perm_middle.trans ?_
      rw [← List.append_assoc, List.take_append_drop]
      exact List.perm_middle.symm
  · obtain ⟨acc, d3, rfl, hp2⟩ := hI
    rw [List.append_nil] at hp2
    refine .inl ⟨p, acc, rfl, mupd_same, ?_⟩
    show Q (.lst acc) (mupd (mupd M p _) p none)
    rw [mupd_back hp]
    exact q acc hp2
end
end Q
set_option Elab.async false
set_option linter.all false
set_option maxRecDepth 100000
set_option maxHeartbeats 4000000
namespace Q
open PySem PySem.Spec PyProof.Rows L2 My
section
variable {P : Program} {w : World} {K : PySem.W.Frag} {mg : Str → Option Value} {base : Heap}
theorem ok_is_name (W : Wd P w K mg base) : FnG P w K mg base CX0 1 W.f_is_name W.d_is_name ["thing"] (spD K (den_is_name)) := by
  refine qfn (k := 0) W.e_is_name.F sc_is_name ln_is_name (fun cdv A outer s H E g0 hr hg => (qss_cons (qs_if (QW.qt (qw_or (qt_not (qt_val (qB d_isi W.t_isinstance (qa_cons (qv 0) (qa_cons (qe_ty (n := "str") W.t_str) qa_nil))))) (qw_or1 (qt_not (qt_chain d_le d_le qe_int (qB d_len W.t_len (qa_cons (qv 0) qa_nil)) (qe_glob (v := .int 8) W.c_MOST_LETTERS ⟨_, rfl⟩ fun _ => .int _)))))) (qss_one (qs_ret qe_bl)) qss_nil) (qss_one (qs_ret (qB (d_all rfl) W.t_all (qa_cons (qe_lc rfl sc_is_name.nd (qi_any (qv 0)) (blkOk_by (own := [("sign", 1)]) (N := N_is_name) (sc := defScope st_is_name) (by decide +kernel)) (fun _ _ _ _ _ => qgo_name (i := 1) sc_is_name.nd) (fun _ _ _ _ _ _ => qts_nil) (fun _ _ _ _ _ _ => (qc (d_in (room65 hr)) (qv 1) (qe_glob (v := .str "abcdefghijklmnopqrstuvwxyz") W.c_LETTERS ⟨_, rfl⟩ fun _ => .str _)))) qa_nil)))))) ?_
  rintro ds M Q (⟨s, rfl, hs, q⟩ | ⟨d, T, rfl, hT, hk, q⟩)
  · refine seq_cut (fun z => z = ⟨ini N_is_name.length [.str s], M⟩ ∧ 1 ≤ s.length ∧ s.length ≤ 8) (fun k hk => ?_) ?_
    · dsimp only [wMakeE, wRevT, wOrN, wKeysT, wLendW, wSlQ, gSetN, wLendN, wFzT, sAug, gN, gSet, gT0, gT1, gTup, sFldD, wAnd, wAndV, wAsg, wB, wBM, wBM0, wC, wChain, wCons, wDc, wDnew, wDrop, wEnum, wFld, wFor, wFrz, wFrzD, wFz, wIf, wIfS, wItems, wLc, wLcM, wLst, wLstM, wMake, wMakeM, wMeth, wN, wNever, wNext, wNil, wNoPart, wNot, wNotV, wOp, wOr, wOrV, wPar, wPar3, wPart, wPass, wRet, wRevS, wRng1, wRng2, wSeq, wSl, wTup, wUn, wVar, wYes, wZip, enD, enW, outE, wMethE, wBinE, wRaise0, rdBinO, wFrzDO, wFrzDD, wSlX, wFmt, wJoin, wJs, wItemsL, rdLenO, rdReprO, rdEqO, wNE, wNEN, wRaise, wTry, hcont, wXf, rdIsE, rdIsEV, wFrzO, wFzL, wDnewT, wVals, wItemsD, wEither, wForM, wSlM, wLendE, wLendT, wLendL, wFmtRO, wFmtRD, wBMX, wTupX, wLendD, wOrD, wRev2, wRevI, wFrzTT, wFrzT, wDcT, wDisp1T, wGz, wPrs, wDisp, wDcN, wDnewN]
      refine ⟨_, rfl, _, "str", rfl, .inl ⟨_, true, rfl, by decide +kernel, _, rfl, ifx (fun e => by cases e) (fun _ => ?_)⟩⟩
      refine ⟨_, rfl, _, rfl, hs, _, rfl, ifc (fun h1 => ⟨_, rfl, ifx (fun e => ?_) (fun e => ?_)⟩) (fun h1 => ⟨_, rfl, ifx (fun _ => ?_) (fun e => by cases e)⟩)⟩
      · simp only [Bool.not_eq_true', decide_eq_false_iff_not] at e
        rw [name_not (by omega)] at q
        exact q
      · simp only [Bool.not_eq_false', decide_eq_true_eq] at e
        exact hk _ ⟨rfl, by omega, by omega⟩
      · rw [name_not (by omega)] at q
        exact q
    · rintro z ⟨rfl, h1, h8⟩
      dsimp only [wMakeE, wRevT, wOrN, wKeysT, wLendW, wSlQ, gSetN, wLendN, wFzT, sAug, gN, gSet, gT0, gT1, gTup, sFldD, wAnd, wAndV, wAsg, wB, wBM, wBM0, wC, wChain, wCons, wDc, wDnew, wDrop, wEnum, wFld, wFor, wFrz, wFrzD, wFz, wIf, wIfS, wItems, wLc, wLcM, wLst, wLstM, wMake, wMakeM, wMeth, wN, wNever, wNext, wNil, wNoPart, wNot, wNotV, wOp, wOr, wOrV, wPar, wPar3, wPart, wPass, wRet, wRevS, wRng1, wRng2, wSeq, wSl, wTup, wUn, wVar, wYes, wZip, enD, enW, outE, wMethE, wBinE, wRaise0, rdBinO, wFrzDO, wFrzDD, wSlX, wFmt, wJoin, wJs, wItemsL, rdLenO, rdReprO, rdEqO, wNE, wNEN, wRaise, wTry, hcont, wXf, rdIsE, rdIsEV, wFrzO, wFzL, wDnewT, wVals, wItemsD, wEither, wForM, wSlM, wLendE, wLendT, wLendL, wFmtRO, wFmtRD, wBMX, wTupX, wLendD, wOrD, wRev2, wRevI, wFrzTT, wFrzT, wDcT, wDisp1T, wGz, wPrs, wDisp, wDcN, wDnewN]
      refine ⟨_, rfl, _, rfl, fun _ => ⟨?_, lcGo_all (fun d => .bl (sgnB d)) _ (fun x acc k hx hk => ?_) ?_⟩⟩
      · unfold signs; rw [List.length_map]; simpa [Str.length] using hs
      · unfold signs at hx
        obtain ⟨c, hc, rfl⟩ := List.mem_map.mp hx
        have e := sgn_at c
        rw [← e] at hk
        dsimp only [wMakeE, wRevT, wOrN, wKeysT, wLendW, wSlQ, gSetN, wLendN, wFzT, sAug, gN, gSet, gT0, gT1, gTup, sFldD, wAnd, wAndV, wAsg, wB, wBM, wBM0, wC, wChain, wCons, wDc, wDnew, wDrop, wEnum, wFld, wFor, wFrz, wFrzD, wFz, wIf, wIfS, wItems, wLc, wLcM, wLst, wLstM, wMake, wMakeM, wMeth, wN, wNever, wNext, wNil, wNoPart, wNot, wNotV, wOp, wOr, wOrV, wPar, wPar3, wPart, wPass, wRet, wRevS, wRng1, wRng2, wSeq, wSl, wTup, wUn, wVar, wYes, wZip, enD, enW, outE, wMethE, wBinE, wRaise0, rdBinO, wFrzDO, wFrzDD, wSlX, wFmt, wJoin, wJs, wItemsL, rdLenO, rdReprO, rdEqO, wNE, wNEN, wRaise, wTry, hcont, wXf, rdIsE, rdIsEV, wFrzO, wFzL, wDnewT, wVals, wItemsD, wEither, wForM, wSlM, wLendE, wLendT, wLendL, wFmtRO, wFmtRD, wBMX, wTupX, wLendD, wOrD, wRev2, wRevI, wFrzTT, wFrzT, wDcT, wDisp1T, wGz, wPrs, wDisp, wDcN, wDnewN]
        exact ⟨_, rfl, c, rfl, hk⟩
      · have e : blsD ((signs s).map fun d => D.bl (sgnB d)) = some ((signs s).map sgnB) := by
          have := blsD_map ((signs s).map sgnB)
          rwa [List.map_map] at this
        refine ⟨_, _, _, rfl, rfl, e, ?_⟩
        rw [signs_all, ← name_is h1 h8]
        exact q
  · dsimp only [wMakeE, wRevT, wOrN, wKeysT, wLendW, wSlQ, gSetN, wLendN, wFzT, sAug, gN, gSet, gT0, gT1, gTup, sFldD, wAnd, wAndV, wAsg, wB, wBM, wBM0, wC, wChain, wCons, wDc, wDnew, wDrop, wEnum, wFld, wFor, wFrz, wFrzD, wFz, wIf, wIfS, wItems, wLc, wLcM, wLst, wLstM, wMake, wMakeM, wMeth, wN, wNever, wNext, wNil, wNoPart, wNot, wNotV, wOp, wOr, wOrV, wPar, wPar3, wPart, wPass, wRet, wRevS, wRng1, wRng2, wSeq, wSl, wTup, wUn, wVar, wYes, wZip, enD, enW, outE, wMethE, wBinE, wRaise0, rdBinO, wFrzDO, wFrzDD, wSlX, wFmt, wJoin, wJs, wItemsL, rdLenO, rdReprO, rdEqO, wNE, wNEN, wRaise, wTry, hcont, wXf, rdIsE, rdIsEV, wFrzO, wFzL, wDnewT, wVals, wItemsD, wEither, wForM, wSlM, wLendE, wLendT, wLendL, wFmtRO, wFmtRD, wBMX, wTupX, wLendD, wOrD, wRev2, wRevI, wFrzTT, wFrzT, wDcT, wDisp1T, wGz, wPrs, wDisp, wDcN, wDnewN]
    exact ⟨_, rfl, _, T, hT, .inl ⟨_, false, rfl, hk, _, rfl, q⟩⟩
end
end Q
set_option Elab.async false
set_option linter.all false
set_option maxRecDepth 100000
set_option maxHeartbeats 4000000
namespace Q
open PySem PySem.Spec PyProof.Rows L2 My
section
variable {P : Program} {w : World} {K : PySem.W.Frag} {mg : Str → Option Value} {base : Heap}
theorem ok_is_table (W : Wd P w K mg base) : FnG P w K mg base CX0 2 W.f_is_table W.d_is_table ["thing"] (spD K (den_is_tableD)) := by
  refine qfn (k := 1) W.e_is_table.F sc_is_table ln_is_tableD (fun cdv A outer s H E g0 hr hg => (qss_cons (qs_if (QW.qt (qw_or (qt_not (qt_val (qB d_isi W.t_isinstance (qa_cons (qv 0) (qa_cons (qe_ty (n := "tuple") W.t_tuple) qa_nil))))) (qw_or (qct (d_ne (room64 hr)) (qB d_len W.t_len (qa_cons (qv 0) qa_nil)) qe_int) (qw_or1 (qt_not (qt_val (qe_call (ok_is_name W) mo_is_name (hr.mono (by decide)) hg W.e_is_name.mg W.e_is_name.F.kp W.e_is_name.bd (qa_cons (qix (d_ix (room1 hr)) (qv 0) qe_int) qa_nil)))))))) (qss_one (qs_ret qe_bl)) qss_nil) (qss_cons (qs_if (QW.qt (qw_or (qt_not (qt_val (qB d_isi W.t_isinstance (qa_cons (qix (d_ix (room1 hr)) (qv 0) qe_int) (qa_cons (qe_tup (qa_cons (qe_ty (n := "list") W.t_list) (qa_cons (qe_ty (n := "tuple") W.t_tuple) qa_nil))) qa_nil))))) (qw_or1 (qt_not (qt_val (qB (d_all rfl) W.t_all (qa_cons (qe_lc rfl sc_is_table.nd (qi_any (qix (d_ix (room1 hr)) (qv 0) qe_int)) (blkOk_by (own := [("column", 1)]) (N := N_is_table) (sc := defScope st_is_table) (by decide +kernel)) (fun _ _ _ _ _ => qgo_name (i := 1) sc_is_table.nd) (fun _ _ _ _ _ _ => qts_nil) (fun _ _ _ _ _ _ => (qe_call (ok_is_name W) mo_is_name (hr.mono (by decide)) hg W.e_is_name.mg W.e_is_name.F.kp W.e_is_name.bd (qa_cons (qv 1) qa_nil)))) qa_nil))))))) (qss_one (qs_ret qe_bl)) qss_nil) (qss_one (qs_ret (qc (d_eq (room64 hr)) (qe_lenSet rfl W.t_len W.t_set (qix (d_ix (room1 hr)) (qv 0) qe_int)) (qB d_len W.t_len (qa_cons (qix (d_ix (room1 hr)) (qv 0) qe_int) qa_nil)))))))) ?_
  rintro ds M Q ⟨d, rfl, hx, hp, ⟨hw, hf⟩, q⟩
  obtain ⟨_, T, hT, _, k2, _⟩ := pr_ty (M := M) hp
  refine seq_cut (fun z => (∃ n y, d = .tup [.str n, y] ∧ nameS n = true) ∧ z = ⟨[some d, none], M⟩) (fun k hk => ?_) (fun z hz => ?_)
  · have no : tabD d = none → Q (.bl false) M := fun e => by rw [e] at q; exact q
    dsimp only [wMakeE, wRevT, wOrN, wKeysT, wLendW, wSlQ, gSetN, wLendN, wFzT, sAug, gN, gSet, gT0, gT1, gTup, sFldD, wAnd, wAndV, wAsg, wB, wBM, wBM0, wC, wChain, wCons, wDc, wDnew, wDrop, wEnum, wFld, wFor, wFrz, wFrzD, wFz, wIf, wIfS, wItems, wLc, wLcM, wLst, wLstM, wMake, wMakeM, wMeth, wN, wNever, wNext, wNil, wNoPart, wNot, wNotV, wOp, wOr, wOrV, wPar, wPar3, wPart, wPass, wRet, wRevS, wRng1, wRng2, wSeq, wSl, wTup, wUn, wVar, wYes, wZip, enD, enW, outE, wMethE, wBinE, wRaise0, rdBinO, wFrzDO, wFrzDD, wSlX, wFmt, wJoin, wJs, wItemsL, rdLenO, rdReprO, rdEqO, wNE, wNEN, wRaise, wTry, hcont, wXf, rdIsE, rdIsEV, wFrzO, wFzL, wDnewT, wVals, wItemsD, wEither, wForM, wSlM, wLendE, wLendT, wLendL, wFmtRO, wFmtRD, wBMX, wTupX, wLendD, wOrD, wRev2, wRevI, wFrzTT, wFrzT, wDcT, wDisp1T, wGz, wPrs, wDisp, wDcN, wDnewN]
    refine ⟨_, rfl, _, T, hT, .inl ⟨_, _, rfl, k2, _, rfl, ifx (fun e => ?_) (fun e => ?_)⟩⟩
    · rw [if_pos rfl]
      exact no (tabD_none1 ((Bool.not_eq_true' _).mp e))
    · obtain ⟨xs, rfl⟩ : ∃ xs, d = .tup xs := by cases d <;> first | exact ⟨_, rfl⟩ | (cases e; done) | (cases hx; done)
      refine ⟨_, rfl, _, rfl, _, rfl, ifn (fun h => ?_) (fun h => ?_)⟩
      · rw [if_pos rfl]
        exact no (tabD_len fun e => h (by rw [e]; rfl))
      obtain ⟨u, y, rfl⟩ : ∃ u y, xs = [u, y] := by
        match xs, h with
        | [u, y], _ => exact ⟨u, y, rfl⟩
        | [], h => simp at h
        | [_], h => simp at h
        | _ :: _ :: _ :: _, h => simp at h; omega
      have pu := prs_mem (ds := [u, y]) (by simpa only [D.pr] using hp) u (by simp)
      have wu := sumW_mem (ds := [u, y]) (d := u) (by simp)
      rw [wt_tup] at hw
      obtain ⟨_, Tu, hTu, ku, _, _⟩ := pr_ty (M := M) pu
      refine ⟨_, rfl, ix_t rfl (atI_nat (j := 0) rfl) ?_⟩
      by_cases e : isS u = true
      · obtain ⟨n, rfl⟩ : ∃ s, u = .str s := by cases u <;> first | exact ⟨_, rfl⟩ | (cases e; done)
        refine .inl ⟨n, rfl, line_le (by rw [wt_str] at wu; omega), _, rfl, ifx (fun e => ?_) (fun e => hk _ ⟨⟨n, y, rfl, by simpa using e⟩, rfl⟩)⟩
        exact no (tabD_nm ((Bool.not_eq_true' _).mp e))
      · have e := (Bool.not_eq_true _).mp e
        rw [e] at ku
        refine .inr ⟨u, Tu, rfl, hTu, ku, _, rfl, ifx (fun _ => no ?_) (fun e => by cases e)⟩
        cases u <;> first | rfl | (cases e; done)
  obtain ⟨⟨n, y, rfl, hn⟩, rfl⟩ := hz
  have py := prs_mem (ds := [.str n, y]) (by simpa only [D.pr] using hp) y (by simp)
  have xy := nxs_mem (ds := [.str n, y]) (by simpa only [D.nx] using hx) y (by simp)
  have wy := sumW_mem (ds := [.str n, y]) (d := y) (by simp)
  rw [wt_tup] at hw
  have tb : tabD (.tup [.str n, y]) = match ptD y with
    | some ds => if nameS n = true ∧ ds.all nmB = true ∧ (ds.map txD).Nodup then some (n, ds.map txD) else none
    | none => none := rfl
  refine seq_cut (fun z => (∃ ds, ptD y = some ds ∧ ds.all nmB = true) ∧ z = ⟨[some (.tup [.str n, y]), none], M⟩) (fun k hk => ?_) (fun z hz => ?_)
  · obtain ⟨Ty, hTy, ky⟩ := pr_ty3 (M := M) py xy
    dsimp only [wMakeE, wRevT, wOrN, wKeysT, wLendW, wSlQ, gSetN, wLendN, wFzT, sAug, gN, gSet, gT0, gT1, gTup, sFldD, wAnd, wAndV, wAsg, wB, wBM, wBM0, wC, wChain, wCons, wDc, wDnew, wDrop, wEnum, wFld, wFor, wFrz, wFrzD, wFz, wIf, wIfS, wItems, wLc, wLcM, wLst, wLstM, wMake, wMakeM, wMeth, wN, wNever, wNext, wNil, wNoPart, wNot, wNotV, wOp, wOr, wOrV, wPar, wPar3, wPart, wPass, wRet, wRevS, wRng1, wRng2, wSeq, wSl, wTup, wUn, wVar, wYes, wZip, enD, enW, outE, wMethE, wBinE, wRaise0, rdBinO, wFrzDO, wFrzDD, wSlX, wFmt, wJoin, wJs, wItemsL, rdLenO, rdReprO, rdEqO, wNE, wNEN, wRaise, wTry, hcont, wXf, rdIsE, rdIsEV, wFrzO, wFzL, wDnewT, wVals, wItemsD, wEither, wForM, wSlM, wLendE, wLendT, wLendL, wFmtRO, wFmtRD, wBMX, wTupX, wLendD, wOrD, wRev2, wRevI, wFrzTT, wFrzT, wDcT, wDisp1T, wGz, wPrs, wDisp, wDcN, wDnewN]
    refine ⟨_, rfl, ix_t rfl (atI_nat (j := 1) rfl) ⟨Nat.le_of_ble_eq_true rfl, _, Ty, hTy, .inr ⟨_, _, _, rfl, rfl, ky, _, rfl, ifx (fun e => ?_) (fun e => ?_)⟩⟩⟩
    · rw [if_pos rfl]
      have e : ptD y = none := by
        cases h : ptD y with
        | none => rfl
        | some ds => rw [h] at e; cases e
      rw [tb, e] at q
      exact q
    · obtain ⟨ds, hds⟩ : ∃ ds, ptD y = some ds := by
        cases h : ptD y with
        | none => rw [h] at e; cases e
        | some ds => exact ⟨ds, rfl⟩
      have it : items y = some ds := by cases y <;> first | (cases hds; done) | (cases hds; rfl)
      have ws : sumW ds = y.py.weight := by cases y <;> first | (cases hds; done) | (cases hds; first | rw [wt_lst] | rw [wt_tup])
      have pd : ∀ x ∈ ds, x.pr = true := by cases y <;> first | (cases hds; done) | (cases hds; exact prs_mem (by simpa only [D.pr] using py))
      have ld := sumW_len ds
      refine ⟨_, rfl, ix_t rfl (atI_nat (j := 1) rfl) ⟨ds, it, fun _ => ⟨line_le (by omega), ?_⟩⟩⟩
      refine lcGo_all (fun x => .bl (nmB x)) ds (fun x acc k2 hxm hk2 => ?_) ?_
      · have wx := sumW_mem hxm
        obtain ⟨_, Tx, hTx, kx, _, _⟩ := pr_ty (M := M) (pd x hxm)
        dsimp only [wMakeE, wRevT, wOrN, wKeysT, wLendW, wSlQ, gSetN, wLendN, wFzT, sAug, gN, gSet, gT0, gT1, gTup, sFldD, wAnd, wAndV, wAsg, wB, wBM, wBM0, wC, wChain, wCons, wDc, wDnew, wDrop, wEnum, wFld, wFor, wFrz, wFrzD, wFz, wIf, wIfS, wItems, wLc, wLcM, wLst, wLstM, wMake, wMakeM, wMeth, wN, wNever, wNext, wNil, wNoPart, wNot, wNotV, wOp, wOr, wOrV, wPar, wPar3, wPart, wPass, wRet, wRevS, wRng1, wRng2, wSeq, wSl, wTup, wUn, wVar, wYes, wZip, enD, enW, outE, wMethE, wBinE, wRaise0, rdBinO, wFrzDO, wFrzDD, wSlX, wFmt, wJoin, wJs, wItemsL, rdLenO, rdReprO, rdEqO, wNE, wNEN, wRaise, wTry, hcont, wXf, rdIsE, rdIsEV, wFrzO, wFzL, wDnewT, wVals, wItemsD, wEither, wForM, wSlM, wLendE, wLendT, wLendL, wFmtRO, wFmtRD, wBMX, wTupX, wLendD, wOrD, wRev2, wRevI, wFrzTT, wFrzT, wDcT, wDisp1T, wGz, wPrs, wDisp, wDcN, wDnewN]
        refine ⟨_, rfl, ?_⟩
        by_cases e : isS x = true
        · obtain ⟨s, rfl⟩ : ∃ s, x = .str s := by cases x <;> first | exact ⟨_, rfl⟩ | (cases e; done)
          exact .inl ⟨s, rfl, line_le (by rw [wt_str] at wx; omega), hk2⟩
        · have e := (Bool.not_eq_true _).mp e
          rw [e] at kx
          refine .inr ⟨x, Tx, rfl, hTx, kx, ?_⟩
          rwa [show nmB x = false by cases x <;> first | rfl | (cases e; done)] at hk2
      · refine all_f ⟨_, rfl, ifx (fun e => ?_) (fun e => hk _ ⟨⟨ds, hds, by simpa using e⟩, rfl⟩)⟩
        have e : ds.all nmB = false := (Bool.not_eq_true' _).mp e
        rw [tb, hds] at q
        dsimp only at q
        rw [if_neg (fun h => by rw [e] at h; cases h.2.1)] at q
        exact q
  obtain ⟨⟨ds, hds, ha⟩, rfl⟩ := hz
  have few := hf _ _ _ rfl hds ha
  obtain ⟨e1, e2⟩ := nms_tx ha
  obtain ⟨cs, hcs⟩ : ∃ cs, cs = ds.map txD := ⟨_, rfl⟩
  rw [← hcs] at e1 e2
  have lc : cs.length = ds.length := by rw [hcs, List.length_map]
  rw [tb, hds] at q
  dsimp only at q
  rw [← hcs] at q
  dsimp only [wMakeE, wRevT, wOrN, wKeysT, wLendW, wSlQ, gSetN, wLendN, wFzT, sAug, gN, gSet, gT0, gT1, gTup, sFldD, wAnd, wAndV, wAsg, wB, wBM, wBM0, wC, wChain, wCons, wDc, wDnew, wDrop, wEnum, wFld, wFor, wFrz, wFrzD, wFz, wIf, wIfS, wItems, wLc, wLcM, wLst, wLstM, wMake, wMakeM, wMeth, wN, wNever, wNext, wNil, wNoPart, wNot, wNotV, wOp, wOr, wOrV, wPar, wPar3, wPart, wPass, wRet, wRevS, wRng1, wRng2, wSeq, wSl, wTup, wUn, wVar, wYes, wZip, enD, enW, outE, wMethE, wBinE, wRaise0, rdBinO, wFrzDO, wFrzDD, wSlX, wFmt, wJoin, wJs, wItemsL, rdLenO, rdReprO, rdEqO, wNE, wNEN, wRaise, wTry, hcont, wXf, rdIsE, rdIsEV, wFrzO, wFzL, wDnewT, wVals, wItemsD, wEither, wForM, wSlM, wLendE, wLendT, wLendL, wFmtRO, wFmtRD, wBMX, wTupX, wLendD, wOrD, wRev2, wRevI, wFrzTT, wFrzT, wDcT, wDisp1T, wGz, wPrs, wDisp, wDcN, wDnewN]
  refine ⟨_, rfl, ix_t rfl (atI_nat (j := 1) rfl) ?_⟩
  have mine : ∀ {A : D → Mp → Prop}, A (.int (ddp cs).length) M → rdLenSet y M A := fun {A} h => by
    have hy : y = .lst (sts cs) ∨ y = .tup (sts cs) := by
      rw [← e1]
      cases y <;> first | (cases hds; done) | skip
      · cases hds; exact .inr rfl
      · cases hds; exact .inl rfl
    rcases hy with rfl | rfl
    · exact ⟨cs, strsD_sts cs, by omega, h⟩
    · exact ⟨cs, strsD_sts cs, by omega, h⟩
  have ly : look M y = .lst ds ∨ look M y = .tup ds := by cases y <;> first | (cases hds; done) | (cases hds; first | exact .inl rfl | exact .inr rfl)
  refine mine ⟨_, rfl, ix_t rfl (atI_nat (j := 1) rfl) ⟨y, rfl, ?_⟩⟩
  have fin : Q (.bl (false ^^ decide (((ddp cs).length : Int) = (ds.length : Nat)))) M := by
    rw [Bool.false_xor, ← lc]
    by_cases nd : cs.Nodup
    · rw [if_pos ⟨hn, ha, nd⟩] at q
      rw [ddp_nodup nd, decide_eq_true rfl]
      exact q
    · rw [if_neg (fun h => nd h.2.2)] at q
      rw [decide_eq_false (fun e => nd (length_ddp_eq (by omega)))]
      exact q
  rcases ly with ly | ly
  · rw [ly]
    exact fin
  · rw [ly]
    exact fin
end
end Q
set_option Elab.async false
set_option linter.all false
set_option maxRecDepth 100000
set_option maxHeartbeats 4000000
namespace Q
open PySem PySem.Spec PyProof.Rows L2 My
section
variable {P : Program} {w : World} {K : PySem.W.Frag} {mg : Str → Option Value} {base : Heap}
theorem ok_Question___init__E (W : Wd P w K mg base) : FnG P w K mg base (L2.CX P w) 3 W.f_Question___init__ W.d_Question___init__ ["self", "tables"] (spE K (den_Question___init__E W.C_Question W.C_Wrong W.C_BadTable)) := by
  refine qfe (k := 2) W.e_Question___init__.F sc_Question___init__ ln_Question___init__E (fun cdv A outer s H E g0 xc hr hg tk => (qss_cons (qs_if (QW.qt (qw_or (qt_not (qt_val (qB d_isi W.t_isinstance (qa_cons (qv 1) (qa_cons (qe_tup (qa_cons (qe_ty (n := "list") W.t_list) (qa_cons (qe_ty (n := "tuple") W.t_tuple) qa_nil))) qa_nil))))) (qw_or1 (qt_not (qt_chain d_le d_le qe_int (qB d_len W.t_len (qa_cons (qv 1) qa_nil)) (qe_glob (v := .int 6) W.c_MOST_TABLES ⟨_, rfl⟩ fun _ => .int _)))))) (qss_one (qs_raise rfl tk W.I_Wrong (hr.mono (by decide)) W.g_Wrong (qa_cons qe_int qa_nil))) qss_nil) (qss_cons (qs_asg (qe_tup (qa_cons qe_dnew (qa_cons qe_dnew qa_nil))) (qg_tup (n := 2) rfl (qgs_cons (qg_name (i := 2) sc_Question___init__.nd) (qgs_cons (qg_name (i := 3) sc_Question___init__.nd) qgs_nil)))) (qss_cons (qs_for PassesOwn.leaving rfl (qi_enum W.t_enumerate (qa_cons (qv 1) qa_nil)) (qg_tup (n := 2) rfl (qgs_cons (qg_name (i := 4) sc_Question___init__.nd) (qgs_cons (qg_name (i := 5) sc_Question___init__.nd) qgs_nil))) (qss_cons (qs_if (QW.qt (qw_or (qt_not (qt_val (qe_call (ok_is_table W) mo_is_tableD (hr.mono (by decide)) hg W.e_is_table.mg W.e_is_table.F.kp W.e_is_table.bd (qa_cons (qv 5) qa_nil)))) (qw_or1 (qct (d_in (room65 hr)) (qix (d_ix (room1 hr)) (qv 5) qe_int) (qv 2))))) (qss_one (qs_raise rfl tk W.I_BadTable (hr.mono (by decide)) W.g_BadTable (qa_cons (qv 4) qa_nil))) qss_nil) (qss_cons (qs_expr (qe_bm PySem.F.plainAttrs_dict PySem.F.slot_dict_update PySem.F.type_dict_update d_update (qv 3) (qa_cons (qe_fz (qe_dc rfl sc_Question___init__.nd (qi_any (qix (d_ix (room1 hr)) (qv 5) qe_int)) (blkOk_by (own := [("column", 6)]) (N := N_Question___init__) (sc := defScope st_Question___init__) (by decide +kernel)) (fun _ _ _ _ _ => qgo_name (i := 6) sc_Question___init__.nd) (fun _ _ _ _ _ _ => qts_nil) (fun _ _ _ _ _ _ => (qv 6)) (fun _ _ _ _ _ _ => qe_bl))) qa_nil))) (qss_cons (qs_if (qct d_gt (qB d_len W.t_len (qa_cons (qv 3) qa_nil)) (qe_glob (v := .int 8) W.c_MOST_COLUMNS ⟨_, rfl⟩ fun _ => .int _)) (qss_one (qs_raise rfl tk W.I_BadTable (hr.mono (by decide)) W.g_BadTable (qa_cons (qv 4) qa_nil))) qss_nil) (qss_one (qs_asg (qT d_tupleX W.t_tuple (qa_cons (qB (d_sorted rfl) W.t_sorted (qa_cons (qix (d_ix (room1 hr)) (qv 5) qe_int) qa_nil)) qa_nil)) (qg_sub (room1 hr) (qv 2) (qix (d_ix (room1 hr)) (qv 5) qe_int)))))))) (qss_one (qs_fld W.cl_Question W.na_Question_held (qv 0) (qe_fz (qe_dc rfl sc_Question___init__.nd (qi_any (qB (d_sorted rfl) W.t_sorted (qa_cons (qv 2) qa_nil))) (blkOk_by (own := [("name", 7)]) (N := N_Question___init__) (sc := defScope st_Question___init__) (by decide +kernel)) (fun _ _ _ _ _ => qgo_name (i := 7) sc_Question___init__.nd) (fun _ _ _ _ _ _ => qts_nil) (fun _ _ _ _ _ _ => (qv 7)) (fun _ _ _ _ _ _ => (qix (d_ix (room1 hr)) (qv 2) (qv 7))))))))))) ?_
  rintro ds M Q X ⟨p, t, rfl, hp, ⟨tx, tp, tw, tf⟩, q⟩
  refine seq_cut (fun z => (∃ l, ptD t = some l ∧ 1 ≤ l.length ∧ l.length ≤ 6) ∧ z = ⟨ini N_Question___init__.length [.ref p, t], M⟩) (fun k hk => ?_) ?_
  · obtain ⟨T, hT, kt⟩ := pr_ty3 (M := M) tp tx
    dsimp only [wMakeE, wRevT, wOrN, wKeysT, wLendW, wSlQ, gSetN, wLendN, wFzT, sAug, gN, gSet, gT0, gT1, gTup, sFldD, wAnd, wAndV, wAsg, wB, wBM, wBM0, wC, wChain, wCons, wDc, wDnew, wDrop, wEnum, wFld, wFor, wFrz, wFrzD, wFz, wIf, wIfS, wItems, wLc, wLcM, wLst, wLstM, wMake, wMakeM, wMeth, wN, wNever, wNext, wNil, wNoPart, wNot, wNotV, wOp, wOr, wOrV, wPar, wPar3, wPart, wPass, wRet, wRevS, wRng1, wRng2, wSeq, wSl, wTup, wUn, wVar, wYes, wZip, enD, enW, outE, wMethE, wBinE, wRaise0, rdBinO, wFrzDO, wFrzDD, wSlX, wFmt, wJoin, wJs, wItemsL, rdLenO, rdReprO, rdEqO, wNE, wNEN, wRaise, wTry, hcont, wXf, rdIsE, rdIsEV, wFrzO, wFzL, wDnewT, wVals, wItemsD, wEither, wForM, wSlM, wLendE, wLendT, wLendL, wFmtRO, wFmtRD, wBMX, wTupX, wLendD, wOrD, wRev2, wRevI, wFrzTT, wFrzT, wDcT, wDisp1T, wGz, wPrs, wDisp, wDcN, wDnewN]
    refine ⟨_, rfl, by show 2 ≤ sizeLine; decide, _, T, hT, .inr ⟨_, _, _, rfl, rfl, kt, _, rfl, ifx (fun e => ?_) (fun e => ?_)⟩⟩
    · rw [if_pos rfl]
      have e : ptD t = none := by
        cases h : ptD t with
        | none => rfl
        | some l => rw [h] at e; cases e
      refine ⟨rfl, by decide, M, Mle.refl M, ?_⟩
      rcases q with ⟨_, x⟩ | ⟨l, h, _⟩
      · exact x
      · rw [e] at h; cases h
    · obtain ⟨l, hl⟩ : ∃ l, ptD t = some l := by
        cases h : ptD t with
        | none => rw [h] at e; cases e
        | some l => exact ⟨l, rfl⟩
      have hq : ((l.length < 1 ∨ 6 < l.length) → X W.C_Wrong (placeE 0) M) := fun hb => by
        rcases q with ⟨h, _⟩ | ⟨l', h, q⟩
        · rw [hl] at h; cases h
        · rw [hl] at h; cases h
          rcases q with ⟨_, x⟩ | ⟨⟨a, b⟩, _⟩
          · exact x
          · omega
      rcases pt_or hl with rfl | rfl
      all_goals
        refine ⟨_, rfl, _, rfl, _, rfl, ifc (fun h1 => ⟨_, rfl, ifx (fun h6 => ⟨rfl, by decide, M, Mle.refl M, hq (.inr ?_)⟩) (fun h6 => hk _ ⟨⟨l, hl, ?_, ?_⟩, rfl⟩)⟩) (fun h1 => ⟨_, rfl, ifx (fun _ => ⟨rfl, by decide, M, Mle.refl M, hq (.inl ?_)⟩) (fun e => by cases e)⟩)⟩
        · have h6 : ¬ ((l.length : Int) ≤ 6) := by simpa using h6
          omega
        · omega
        · have h6 : (l.length : Int) ≤ 6 := by simpa using h6
          omega
        · omega
  · rintro z ⟨⟨l, hl, n1, n6⟩, rfl⟩
    have ht := pt_or hl
    refine seq_cut (fun z => ∃ pf pk, z = ⟨[some (.ref p), some t, some (.ref pf), some (.ref pk), none, none, none, none], mupd (mupd M pf (some (.dct []))) pk (some (.dct []))⟩ ∧ M pf = none ∧ pf ≠ pk ∧ M pk = none) (fun k hk => ?_) ?_
    · dsimp only [wMakeE, wRevT, wOrN, wKeysT, wLendW, wSlQ, gSetN, wLendN, wFzT, sAug, gN, gSet, gT0, gT1, gTup, sFldD, wAnd, wAndV, wAsg, wB, wBM, wBM0, wC, wChain, wCons, wDc, wDnew, wDrop, wEnum, wFld, wFor, wFrz, wFrzD, wFz, wIf, wIfS, wItems, wLc, wLcM, wLst, wLstM, wMake, wMakeM, wMeth, wN, wNever, wNext, wNil, wNoPart, wNot, wNotV, wOp, wOr, wOrV, wPar, wPar3, wPart, wPass, wRet, wRevS, wRng1, wRng2, wSeq, wSl, wTup, wUn, wVar, wYes, wZip, enD, enW, outE, wMethE, wBinE, wRaise0, rdBinO, wFrzDO, wFrzDD, wSlX, wFmt, wJoin, wJs, wItemsL, rdLenO, rdReprO, rdEqO, wNE, wNEN, wRaise, wTry, hcont, wXf, rdIsE, rdIsEV, wFrzO, wFzL, wDnewT, wVals, wItemsD, wEither, wForM, wSlM, wLendE, wLendT, wLendL, wFmtRO, wFmtRD, wBMX, wTupX, wLendD, wOrD, wRev2, wRevI, wFrzTT, wFrzT, wDcT, wDisp1T, wGz, wPrs, wDisp, wDcN, wDnewN]
      intro pf hpf pk hpk
      have hne : pf ≠ pk := fun e => by subst e; rw [mupd_same] at hpk; cases hpk
      exact ⟨by show 2 ≤ sizeLine; decide, _, rfl, rfl, _, _, rfl, _, _, rfl, rfl, hk _ ⟨pf, pk, rfl, hpf, hne, by rwa [mupd_ne (Ne.symm hne)] at hpk⟩⟩
    · rintro z ⟨pf, pk, rfl, hpf, hne, hpk⟩
      have qb : ∀ i, scanQ [] l = .inl i → X W.C_BadTable (atE i) M := fun i hi => by
        rcases q with ⟨h, _⟩ | ⟨l', h, q⟩
        · rw [hl] at h; cases h
        · rw [hl] at h; cases h
          rcases q with ⟨_, _⟩ | ⟨_, ⟨j, h, x⟩ | ⟨r, h, x⟩⟩
          · omega
          · rw [hi] at h; cases h; exact x
          · rw [hi] at h; cases h
      have qg : ∀ rows, scanQ [] l = .inr rows → Q .non (mupd M p (some (.ins W.C_Question [("held", .dct (heldD (webOf rows)))]))) := fun rows hi => by
        rcases q with ⟨h, _⟩ | ⟨l', h, q⟩
        · rw [hl] at h; cases h
        · rw [hl] at h; cases h
          rcases q with ⟨_, _⟩ | ⟨_, ⟨j, h, x⟩ | ⟨r, h, x⟩⟩
          · omega
          · rw [hi] at h; cases h
          · rw [hi] at h; cases h; exact x
      have hx := tf l hl
      have wl : ∀ d ∈ l, d.nx = true ∧ d.pr = true ∧ d.py.weight ≤ 200000 := by
        intro d hd
        have := sumW_mem hd
        rcases ht with rfl | rfl
        · refine ⟨nxs_mem (by simpa only [D.nx] using tx) d hd, prs_mem (by simpa only [D.pr] using tp) d hd, ?_⟩
          rw [wt_lst] at tw
          omega
        · refine ⟨nxs_mem (by simpa only [D.nx] using tx) d hd, prs_mem (by simpa only [D.pr] using tp) d hd, ?_⟩
          rw [wt_tup] at tw
          omega
      refine seq_cut (fun z => ∃ done d4 d5 d6 M', z = ⟨[some (.ref p), some t, some (.ref pf), some (.ref pk), d4, d5, d6, none], M'⟩ ∧ QEt M pf pk l done l.length M') (fun k hk => ?_) ?_
      · dsimp only [wMakeE, wRevT, wOrN, wKeysT, wLendW, wSlQ, gSetN, wLendN, wFzT, sAug, gN, gSet, gT0, gT1, gTup, sFldD, wAnd, wAndV, wAsg, wB, wBM, wBM0, wC, wChain, wCons, wDc, wDnew, wDrop, wEnum, wFld, wFor, wFrz, wFrzD, wFz, wIf, wIfS, wItems, wLc, wLcM, wLst, wLstM, wMake, wMakeM, wMeth, wN, wNever, wNext, wNil, wNoPart, wNot, wNotV, wOp, wOr, wOrV, wPar, wPar3, wPart, wPass, wRet, wRevS, wRng1, wRng2, wSeq, wSl, wTup, wUn, wVar, wYes, wZip, enD, enW, outE, wMethE, wBinE, wRaise0, rdBinO, wFrzDO, wFrzDD, wSlX, wFmt, wJoin, wJs, wItemsL, rdLenO, rdReprO, rdEqO, wNE, wNEN, wRaise, wTry, hcont, wXf, rdIsE, rdIsEV, wFrzO, wFzL, wDnewT, wVals, wItemsD, wEither, wForM, wSlM, wLendE, wLendT, wLendL, wFmtRO, wFmtRD, wBMX, wTupX, wLendD, wOrD, wRev2, wRevI, wFrzTT, wFrzT, wDcT, wDisp1T, wGz, wPrs, wDisp, wDcN, wDnewN]
        refine ⟨_, rfl, t, l, rfl, ht, wLoop_list _ (fun i z => ∃ done d4 d5 d6 M', z = ⟨[some (.ref p), some t, some (.ref pf), some (.ref pk), d4, d5, d6, none], M'⟩ ∧ QEt M pf pk l done i M') (fun i d hd k z hI hk => ?_) (fun z hI => hk z (by rwa [enumD_length] at hI)) _ ?_⟩
        rotate_right
        · exact ⟨[], _, _, _, _, rfl, hne, hpf, hpk, by rw [mupd_ne hne, mupd_same]; rfl, ⟨[], mupd_same, List.nodup_nil, fun k hk => (nomatch hk), fun c hc => (nomatch hc)⟩, ((Mle.refl M).put hpf).put hpk, rfl, List.nodup_nil, fun r h => (nomatch h), by decide, rfl⟩
        · obtain ⟨done, d4, d5, d6, M', rfl, hQ⟩ := hI
          have hi : i < l.length := by
            have := (List.getElem?_eq_some_iff.mp hd).1
            rwa [enumD_length] at this
          have hd2 := enumD_get (ds := l) (i := i) (d := l[i]) (List.getElem?_eq_getElem hi)
          rw [hd] at hd2
          cases hd2
          have hmem : l[i] ∈ l := List.getElem_mem hi
          have hsc := hQ.at_
          rw [List.drop_eq_getElem_cons hi] at hsc
          obtain ⟨kd, k1, k2, k3, k4⟩ := hQ.h2
          have kl : kd.length = (rowsU done).length := keys_many k2 k3 k4
          have hfew := hQ.few
          obtain ⟨hnx, hpr, hwd⟩ := wl _ hmem
          have hcf := hx _ hmem
          have hbad : scanQ [] l = .inl done.length → ∃ M1, Mle M1 M' ∧ X W.C_BadTable (atE i) M1 := fun h => ⟨M, hQ.le, qb _ (by rw [h, hQ.n])⟩
          generalize hdd : l[i] = dd at hsc hnx hpr hwd hcf ⊢
          dsimp only [wMakeE, wRevT, wOrN, wKeysT, wLendW, wSlQ, gSetN, wLendN, wFzT, sAug, gN, gSet, gT0, gT1, gTup, sFldD, wAnd, wAndV, wAsg, wB, wBM, wBM0, wC, wChain, wCons, wDc, wDnew, wDrop, wEnum, wFld, wFor, wFrz, wFrzD, wFz, wIf, wIfS, wItems, wLc, wLcM, wLst, wLstM, wMake, wMakeM, wMeth, wN, wNever, wNext, wNil, wNoPart, wNot, wNotV, wOp, wOr, wOrV, wPar, wPar3, wPart, wPass, wRet, wRevS, wRng1, wRng2, wSeq, wSl, wTup, wUn, wVar, wYes, wZip, enD, enW, outE, wMethE, wBinE, wRaise0, rdBinO, wFrzDO, wFrzDD, wSlX, wFmt, wJoin, wJs, wItemsL, rdLenO, rdReprO, rdEqO, wNE, wNEN, wRaise, wTry, hcont, wXf, rdIsE, rdIsEV, wFrzO, wFzL, wDnewT, wVals, wItemsD, wEither, wForM, wSlM, wLendE, wLendT, wLendL, wFmtRO, wFmtRD, wBMX, wTupX, wLendD, wOrD, wRev2, wRevI, wFrzTT, wFrzT, wDcT, wDisp1T, wGz, wPrs, wDisp, wDcN, wDnewN]
          refine ⟨_, rfl, rfl, _, _, rfl, _, _, rfl, rfl, _, rfl, dd, rfl, hnx, hpr, ⟨hwd, hcf⟩, _, rfl, ifx (fun e => ?_) (fun e => ?_)⟩
          · rw [if_pos rfl]
            exact ⟨_, rfl, rfl, (by show 1 ≤ 10; decide), hbad (hsc.trans (scanQ_none (rowO_none ((Bool.not_eq_true' _).mp e))))⟩
          obtain ⟨r, hr⟩ := rowO_some (d := dd) (by simpa using e)
          obtain ⟨er, hrn, hcn⟩ := rowO_eq hr
          subst er
          have hc60 := cols_few hcf hcn
          refine ⟨_, rfl, _, _, rfl, rfl, _, rfl, in_d (look_ref_dct hQ.h1) rfl ⟨_, rfl, ifx (fun e => ?_) (fun e => ?_)⟩⟩
          · exact ⟨_, rfl, rfl, (by show 1 ≤ 10; decide), hbad (hsc.trans (scanQ_bad hr (.inl (fdD_mem.mp (by simpa using e)))))⟩
          have hm : r.nm ∉ done.map (·.nm) := fun h => by
            rw [fdD_mem.mpr h] at e
            cases e
          refine ⟨_, rfl, ty_d (look_ref_dct k1), _, rfl, _, _, rfl, rfl, sts r.cs, items_cols _ _, fun _ => ⟨by rw [len_sts]; exact line_le (by omega), ?_⟩⟩
          refine dcGo_ind (fun rest acc M'' => M'' = M' ∧ ∃ dn td, rest = sts td ∧ dn ++ td = r.cs ∧ acc = dn.map fun c => (.inr c, .bl true)) ?_ ?_ _ _ _ ⟨rfl, [], r.cs, rfl, rfl, rfl⟩
          · rintro d rest acc M'' k' ⟨rfl, dn, td, h1, h2, rfl⟩ hk'
            cases td with
            | nil => cases h1
            | cons c td =>
              cases h1
              dsimp only [wMakeE, wRevT, wOrN, wKeysT, wLendW, wSlQ, gSetN, wLendN, wFzT, sAug, gN, gSet, gT0, gT1, gTup, sFldD, wAnd, wAndV, wAsg, wB, wBM, wBM0, wC, wChain, wCons, wDc, wDnew, wDrop, wEnum, wFld, wFor, wFrz, wFrzD, wFz, wIf, wIfS, wItems, wLc, wLcM, wLst, wLstM, wMake, wMakeM, wMeth, wN, wNever, wNext, wNil, wNoPart, wNot, wNotV, wOp, wOr, wOrV, wPar, wPar3, wPart, wPass, wRet, wRevS, wRng1, wRng2, wSeq, wSl, wTup, wUn, wVar, wYes, wZip, enD, enW, outE, wMethE, wBinE, wRaise0, rdBinO, wFrzDO, wFrzDD, wSlX, wFmt, wJoin, wJs, wItemsL, rdLenO, rdReprO, rdEqO, wNE, wNEN, wRaise, wTry, hcont, wXf, rdIsE, rdIsEV, wFrzO, wFzL, wDnewT, wVals, wItemsD, wEither, wForM, wSlM, wLendE, wLendT, wLendL, wFmtRO, wFmtRD, wBMX, wTupX, wLendD, wOrD, wRev2, wRevI, wFrzTT, wFrzT, wDcT, wDisp1T, wGz, wPrs, wDisp, wDcN, wDnewN]
              refine ⟨_, rfl, .inr c, rfl, hk' _ _ ⟨rfl, dn ++ [c], td, rfl, by rw [← h2]; simp, ?_⟩⟩
              rw [putD_new]
              · simp
              · intro hq
                rw [List.map_map] at hq
                obtain ⟨c', hc', e⟩ := List.mem_map.mp hq
                cases (show Sum.inr c' = Sum.inr c from e)
                have nd := hcn.nd
                rw [← h2, List.nodup_append] at nd
                exact nd.2.2 c hc' c (by simp) rfl
          · rintro acc M'' ⟨rfl, dn, td, h1, h2, rfl⟩ pn hpn
            cases td with
            | cons c td => cases h1
            | nil =>
              rw [List.append_nil] at h2
              subst h2
              refine ⟨pn, _, rfl, mupd_same, ?_⟩
              rw [mupd_back hpn]
              refine ⟨pk, kd, _, rfl, k1, rfl, by rw [List.length_map]; exact line_le (by omega), ?_⟩
              have fl : (done ++ [r]).flatMap (·.cs) = done.flatMap (·.cs) ++ r.cs := by simp
              have mk : (r.cs.map fun c => ((.inr c : Key), D.bl true)).map (·.1) = r.cs.map Sum.inr := by rw [List.map_map]; rfl
              obtain ⟨g1, g2⟩ := mergeD_keys (S := fun k => ∃ c ∈ (done ++ [r]).flatMap (·.cs), k = .inr c) (more := r.cs.map fun c => (.inr c, .bl true)) k2 (fun k hk => by
                obtain ⟨c, hc, e⟩ := k3 k hk
                exact ⟨c, by rw [fl]; exact List.mem_append.mpr (.inl hc), e⟩) (fun k hk => by
                rw [mk] at hk
                obtain ⟨c, hc, rfl⟩ := List.mem_map.mp hk
                exact ⟨c, by rw [fl]; exact List.mem_append.mpr (.inr hc), rfl⟩)
              have g3 : ∀ c ∈ (done ++ [r]).flatMap (·.cs), (.inr c : Key) ∈ (mergeD kd (r.cs.map fun c => (.inr c, .bl true))).map (·.1) := fun c hc => by
                rw [fl] at hc
                refine mergeD_has ?_
                rcases List.mem_append.mp hc with h | h
                · exact .inl (k4 c h)
                · exact .inr (by rw [mk]; exact List.mem_map.mpr ⟨c, h, rfl⟩)
              have gl : _ = (rowsU (done ++ [r])).length := keys_many g1 g2 g3
              refine ⟨_, rfl, len_d lkD ⟨_, rfl, ifc (fun h => ?_) (fun h => ?_)⟩⟩
              · exact ⟨_, rfl, rfl, (by show 1 ≤ 10; decide), M, hQ.le.put hpk, qb _ ((hsc.trans (scanQ_bad hr (.inr (by rw [← gl]; omega)))).trans (by rw [hQ.n]))⟩
              have h8 : (rowsU (done ++ [r])).length ≤ 8 := by rw [← gl]; omega
              have hn := hQ.n
              refine ⟨_, rfl, _, _, rfl, rfl, _, _, _, rfl, seqD_cols _ _ _, strsD_sts _, by omega, _, _, rfl, rfl, _, rfl, _, rfl, _, _, rfl, rfl, pf, rfl, ?_⟩
              rw [mupd_ne hne, hQ.h1]
              refine ⟨.inr r.nm, rfl, ?_, hk _ ⟨done ++ [r], _, _, _, _, rfl, hne, hpf, hpk, ?_, ⟨_, by rw [mupd_ne (Ne.symm hne)]; exact mupd_same, g1, g2, g3⟩, (hQ.le.put hpk).put hpf, by rw [List.length_append, hn]; rfl, ?_, ?_, h8, hsc.trans (scanQ_ok hr fun k => k.elim hm fun k => by omega)⟩⟩
              · unfold fdD; rw [List.length_map, sizeLine_eq]; omega
              · rw [mupd_same]
                exact congrArg (fun x => some (MO.dct x)) (fdD_add hm)
              · rw [List.map_append, List.nodup_append]
                refine ⟨hQ.nd, by simp, fun x hx y hy e => ?_⟩
                rw [List.map_cons, List.map_nil, List.mem_singleton] at hy
                subst hy e
                exact hm hx
              · intro r' h'
                rcases List.mem_append.mp h' with h' | h'
                · exact hQ.nm r' h'
                · rw [List.mem_singleton.mp h']
                  exact ⟨hrn, hcn⟩
      · rintro z ⟨rows, d4, d5, d6, M', rfl, hQ⟩
        have h1 := hQ.h1
        have hnd := hQ.nd
        have hn := hQ.n
        have q := qg rows (by rw [hQ.at_, List.drop_length]; rfl)
        dsimp only [wMakeE, wRevT, wOrN, wKeysT, wLendW, wSlQ, gSetN, wLendN, wFzT, sAug, gN, gSet, gT0, gT1, gTup, sFldD, wAnd, wAndV, wAsg, wB, wBM, wBM0, wC, wChain, wCons, wDc, wDnew, wDrop, wEnum, wFld, wFor, wFrz, wFrzD, wFz, wIf, wIfS, wItems, wLc, wLcM, wLst, wLstM, wMake, wMakeM, wMeth, wN, wNever, wNext, wNil, wNoPart, wNot, wNotV, wOp, wOr, wOrV, wPar, wPar3, wPart, wPass, wRet, wRevS, wRng1, wRng2, wSeq, wSl, wTup, wUn, wVar, wYes, wZip, enD, enW, outE, wMethE, wBinE, wRaise0, rdBinO, wFrzDO, wFrzDD, wSlX, wFmt, wJoin, wJs, wItemsL, rdLenO, rdReprO, rdEqO, wNE, wNEN, wRaise, wTry, hcont, wXf, rdIsE, rdIsEV, wFrzO, wFzL, wDnewT, wVals, wItemsD, wEither, wForM, wSlM, wLendE, wLendT, wLendL, wFmtRO, wFmtRD, wBMX, wTupX, wLendD, wOrD, wRev2, wRevI, wFrzTT, wFrzT, wDcT, wDisp1T, wGz, wPrs, wDisp, wDcN, wDnewN]
        refine ⟨_, rfl, _, _, rows.map (·.nm), rfl, by rw [look_ref_dct h1]; show some ((fdD rows).map fun p => kD p.1) = _; rw [fdD_keys], strsD_sts _, by rw [List.length_map]; omega, _, rfl, fun _ => ⟨by rw [List.length_map, length_ssort, List.length_map]; exact line_le (by omega), ?_⟩⟩
        refine dcGo_ind (fun rest acc M'' => M'' = M' ∧ ∃ dn td, rest = sts td ∧ dn ++ td = ssort (rows.map (·.nm)) ∧ acc = dn.map fun n => (.inr n, .tux (ssort (((webOf rows).lookup n).getD [])))) ?_ ?_ _ _ _ ⟨rfl, [], _, rfl, rfl, rfl⟩
        · rintro d rest acc M'' k' ⟨rfl, dn, td, e1, e2, rfl⟩ hk'
          cases td with
          | nil => cases e1
          | cons c td =>
            cases e1
            dsimp only [wMakeE, wRevT, wOrN, wKeysT, wLendW, wSlQ, gSetN, wLendN, wFzT, sAug, gN, gSet, gT0, gT1, gTup, sFldD, wAnd, wAndV, wAsg, wB, wBM, wBM0, wC, wChain, wCons, wDc, wDnew, wDrop, wEnum, wFld, wFor, wFrz, wFrzD, wFz, wIf, wIfS, wItems, wLc, wLcM, wLst, wLstM, wMake, wMakeM, wMeth, wN, wNever, wNext, wNil, wNoPart, wNot, wNotV, wOp, wOr, wOrV, wPar, wPar3, wPart, wPass, wRet, wRevS, wRng1, wRng2, wSeq, wSl, wTup, wUn, wVar, wYes, wZip, enD, enW, outE, wMethE, wBinE, wRaise0, rdBinO, wFrzDO, wFrzDD, wSlX, wFmt, wJoin, wJs, wItemsL, rdLenO, rdReprO, rdEqO, wNE, wNEN, wRaise, wTry, hcont, wXf, rdIsE, rdIsEV, wFrzO, wFzL, wDnewT, wVals, wItemsD, wEither, wForM, wSlM, wLendE, wLendT, wLendL, wFmtRO, wFmtRD, wBMX, wTupX, wLendD, wOrD, wRev2, wRevI, wFrzTT, wFrzT, wDcT, wDisp1T, wGz, wPrs, wDisp, wDcN, wDnewN]
            refine ⟨_, rfl, _, rfl, _, rfl, ix_d (look_ref_dct h1) rfl (fdD_val hnd (mem_ssort.mp (by rw [← e2]; simp))) ⟨.inr c, rfl, hk' _ _ ⟨rfl, dn ++ [c], td, rfl, by rw [← e2]; simp, ?_⟩⟩⟩
            rw [putD_new]
            · simp
            · intro hq
              rw [List.map_map] at hq
              obtain ⟨c', hc', e⟩ := List.mem_map.mp hq
              cases (show Sum.inr c' = Sum.inr c from e)
              have nd := (ssort_perm (rows.map (·.nm))).nodup_iff.mpr hnd
              rw [← e2, List.nodup_append] at nd
              exact nd.2.2 c hc' c (by simp) rfl
        · rintro acc M'' ⟨rfl, dn, td, e1, e2, rfl⟩ pn hpn
          cases td with
          | cons c td => cases e1
          | nil =>
            rw [List.append_nil] at e2
            subst e2
            refine ⟨pn, _, rfl, mupd_same, _, rfl, p, [], rfl, ?_, by decide, _, ?_, q⟩
            · rw [mupd_back hpn]; exact hQ.le _ _ hp
            · rw [mupd_back hpn]
              intro a mo ha
              by_cases e : a = p
              · subst e
                rw [mupd_same] at ha ⊢
                rw [← ha]
                unfold heldD
                rw [webOf_keys]
                rfl
              · rw [mupd_ne e] at ha ⊢
                exact hQ.le a mo ha
end
end Q
set_option Elab.async false
set_option linter.all false
set_option maxRecDepth 100000
set_option maxHeartbeats 4000000
namespace Q
open PySem PySem.Spec PyProof.Rows L2 My
section
variable {P : Program} {w : World} {K : PySem.W.Frag} {mg : Str → Option Value} {base : Heap}
theorem ok_Question___contains__ (W : Wd P w K mg base) : FnG P w K mg base CX0 1 W.f_Question___contains__ W.d_Question___contains__ ["self", "thing"] (spD K (den_Question___contains__ W.C_Question)) := by
  refine qfn (k := 0) W.e_Question___contains__.F sc_Question___contains__ ln_Question___contains__ (fun cdv A outer s H E g0 hr hg => (qss_one (qs_ret (qe_and (qB d_isi W.t_isinstance (qa_cons (qv 1) (qa_cons (qe_ty (n := "str") W.t_str) qa_nil))) (qe_one (qc (d_in (room65 hr)) (qv 1) (qe_fld W.cl_Question W.na_Question_held (qv 0)))))))) ?_
  rintro ds M Q ⟨w, d, rfl, hd, nd, q⟩
  obtain ⟨hl, T, hT, k1, k2, k3⟩ := pr_ty (M := M) hd
  dsimp only [wMakeE, wRevT, wOrN, wKeysT, wLendW, wSlQ, gSetN, wLendN, wFzT, sAug, gN, gSet, gT0, gT1, gTup, sFldD, wAnd, wAndV, wAsg, wB, wBM, wBM0, wC, wChain, wCons, wDc, wDnew, wDrop, wEnum, wFld, wFor, wFrz, wFrzD, wFz, wIf, wIfS, wItems, wLc, wLcM, wLst, wLstM, wMake, wMakeM, wMeth, wN, wNever, wNext, wNil, wNoPart, wNot, wNotV, wOp, wOr, wOrV, wPar, wPar3, wPart, wPass, wRet, wRevS, wRng1, wRng2, wSeq, wSl, wTup, wUn, wVar, wYes, wZip, enD, enW, outE, wMethE, wBinE, wRaise0, rdBinO, wFrzDO, wFrzDD, wSlX, wFmt, wJoin, wJs, wItemsL, rdLenO, rdReprO, rdEqO, wNE, wNEN, wRaise, wTry, hcont, wXf, rdIsE, rdIsEV, wFrzO, wFzL, wDnewT, wVals, wItemsD, wEither, wForM, wSlM, wLendE, wLendT, wLendL, wFmtRO, wFmtRD, wBMX, wTupX, wLendD, wOrD, wRev2, wRevI, wFrzTT, wFrzT, wDcT, wDisp1T, wGz, wPrs, wDisp, wDcN, wDnewN]
  refine ⟨_, rfl, _, T, hT, .inl ⟨_, _, rfl, k1, _, rfl, ifx (fun e => ?_) (fun e => ?_)⟩⟩
  · cases d <;> first | (cases e; done) | skip
    rename_i a
    refine ⟨_, rfl, _, rfl, _, _, rfl, rfl, in_d rfl rfl ?_⟩
    rw [held_val w nd, Bool.false_xor]
    exact q
  · cases d <;> first | (cases e; done) | exact q
end
end Q
set_option Elab.async false
set_option linter.all false
set_option maxRecDepth 100000
set_option maxHeartbeats 4000000
namespace Q
open PySem PySem.Spec PyProof.Rows L2 My
section
variable {P : Program} {w : World} {K : PySem.W.Frag} {mg : Str → Option Value} {base : Heap}
theorem ok_Question_need (W : Wd P w K mg base) : FnG P w K mg base CX0 2 W.f_Question_need W.d_Question_need ["self", "names"] (spD K (den_Question_need W.C_Question)) := by
  refine qfn (k := 1) W.e_Question_need.F sc_Question_need ln_Question_need (fun cdv A outer s H E g0 hr hg => (qss_one (qs_for PassesOwn.never rfl (qi_any (qv 1)) (qg_name (i := 2) sc_Question_need.nd) (qss_one (qs_if (qct (d_notInO W.in_Question W.fn_Question_contains (ok_Question___contains__ W) mo_Question___contains__ (hr.mono (by decide)) hg W.e_Question___contains__.bd) (qv 2) (qv 0)) (qss_one qs_never) qss_nil))))) ?_
  rintro ds M Q ⟨w', ns, rfl, nd, hl, hn, q⟩
  dsimp only [wMakeE, wRevT, wOrN, wKeysT, wLendW, wSlQ, gSetN, wLendN, wFzT, sAug, gN, gSet, gT0, gT1, gTup, sFldD, wAnd, wAndV, wAsg, wB, wBM, wBM0, wC, wChain, wCons, wDc, wDnew, wDrop, wEnum, wFld, wFor, wFrz, wFrzD, wFz, wIf, wIfS, wItems, wLc, wLcM, wLst, wLstM, wMake, wMakeM, wMeth, wN, wNever, wNext, wNil, wNoPart, wNot, wNotV, wOp, wOr, wOrV, wPar, wPar3, wPart, wPass, wRet, wRevS, wRng1, wRng2, wSeq, wSl, wTup, wUn, wVar, wYes, wZip, enD, enW, outE, wMethE, wBinE, wRaise0, rdBinO, wFrzDO, wFrzDD, wSlX, wFmt, wJoin, wJs, wItemsL, rdLenO, rdReprO, rdEqO, wNE, wNEN, wRaise, wTry, hcont, wXf, rdIsE, rdIsEV, wFrzO, wFzL, wDnewT, wVals, wItemsD, wEither, wForM, wSlM, wLendE, wLendT, wLendL, wFmtRO, wFmtRD, wBMX, wTupX, wLendD, wOrD, wRev2, wRevI, wFrzTT, wFrzT, wDcT, wDisp1T, wGz, wPrs, wDisp, wDcN, wDnewN]
  refine ⟨_, rfl, _, rfl, fun _ => ?_⟩
  refine wLoop_list _ (fun i z => ∃ d2, z = ⟨[some (questD W.C_Question w'), some (.lst (sts ns)), d2], M⟩) (fun i x hx k z hI hk => ?_) (fun z hI => ?_) _ ⟨none, rfl⟩
  · obtain ⟨d2, rfl⟩ := hI
    obtain ⟨n, hm, rfl⟩ := List.mem_map.mp (List.mem_of_getElem? hx)
    dsimp only [wMakeE, wRevT, wOrN, wKeysT, wLendW, wSlQ, gSetN, wLendN, wFzT, sAug, gN, gSet, gT0, gT1, gTup, sFldD, wAnd, wAndV, wAsg, wB, wBM, wBM0, wC, wChain, wCons, wDc, wDnew, wDrop, wEnum, wFld, wFor, wFrz, wFrzD, wFz, wIf, wIfS, wItems, wLc, wLcM, wLst, wLstM, wMake, wMakeM, wMeth, wN, wNever, wNext, wNil, wNoPart, wNot, wNotV, wOp, wOr, wOrV, wPar, wPar3, wPart, wPass, wRet, wRevS, wRng1, wRng2, wSeq, wSl, wTup, wUn, wVar, wYes, wZip, enD, enW, outE, wMethE, wBinE, wRaise0, rdBinO, wFrzDO, wFrzDD, wSlX, wFmt, wJoin, wJs, wItemsL, rdLenO, rdReprO, rdEqO, wNE, wNEN, wRaise, wTry, hcont, wXf, rdIsE, rdIsEV, wFrzO, wFzL, wDnewT, wVals, wItemsD, wEither, wForM, wSlM, wLendE, wLendT, wLendL, wFmtRO, wFmtRD, wBMX, wTupX, wLendD, wOrD, wRev2, wRevI, wFrzTT, wFrzT, wDcT, wDisp1T, wGz, wPrs, wDisp, wDcN, wDnewN]
    refine ⟨_, rfl, _, rfl, _, rfl, w', .str n, rfl, rfl, nd, _, rfl, _, rfl, ?_⟩
    rw [show hasB (w'.map (·.1)) (.str n) = true from decide_eq_true (hn n hm)]
    exact hk _ ⟨_, rfl⟩
  · obtain ⟨d2, rfl⟩ := hI
    exact q
end
end Q
set_option Elab.async false
set_option linter.all false
set_option maxRecDepth 100000
set_option maxHeartbeats 4000000
namespace Q
open PySem PySem.Spec PyProof.Rows L2 My
section
variable {P : Program} {w : World} {K : PySem.W.Frag} {mg : Str → Option Value} {base : Heap}
theorem ok_Question_columns (W : Wd P w K mg base) : FnG P w K mg base CX0 3 W.f_Question_columns W.d_Question_columns ["self", "table"] (spD K (den_Question_columns W.C_Question)) := by
  refine qfn (k := 2) W.e_Question_columns.F sc_Question_columns ln_Question_columns (fun cdv A outer s H E g0 hr hg => (qss_cons (qs_expr (qe_meth W.cl_Question W.m_Question_need (ok_Question_need W) mo_Question_need (hr.mono (by decide)) hg W.e_Question_need.bd (qv 0) (qa_cons (qe_lst (qa_cons (qv 1) qa_nil)) qa_nil))) (qss_one (qs_ret (qix (d_ix (room1 hr)) (qe_fld W.cl_Question W.na_Question_held (qv 0)) (qv 1)))))) ?_
  rintro ds M Q ⟨w', n, rfl, nd, hn, q⟩
  dsimp only [wMakeE, wRevT, wOrN, wKeysT, wLendW, wSlQ, gSetN, wLendN, wFzT, sAug, gN, gSet, gT0, gT1, gTup, sFldD, wAnd, wAndV, wAsg, wB, wBM, wBM0, wC, wChain, wCons, wDc, wDnew, wDrop, wEnum, wFld, wFor, wFrz, wFrzD, wFz, wIf, wIfS, wItems, wLc, wLcM, wLst, wLstM, wMake, wMakeM, wMeth, wN, wNever, wNext, wNil, wNoPart, wNot, wNotV, wOp, wOr, wOrV, wPar, wPar3, wPart, wPass, wRet, wRevS, wRng1, wRng2, wSeq, wSl, wTup, wUn, wVar, wYes, wZip, enD, enW, outE, wMethE, wBinE, wRaise0, rdBinO, wFrzDO, wFrzDD, wSlX, wFmt, wJoin, wJs, wItemsL, rdLenO, rdReprO, rdEqO, wNE, wNEN, wRaise, wTry, hcont, wXf, rdIsE, rdIsEV, wFrzO, wFzL, wDnewT, wVals, wItemsD, wEither, wForM, wSlM, wLendE, wLendT, wLendL, wFmtRO, wFmtRD, wBMX, wTupX, wLendD, wOrD, wRev2, wRevI, wFrzTT, wFrzT, wDcT, wDisp1T, wGz, wPrs, wDisp, wDcN, wDnewN]
  refine ⟨_, rfl, _, rfl, rfl, _, rfl, line_le (Nat.le_of_ble_eq_true rfl), w', [n], rfl, nd, Nat.le_of_ble_eq_true rfl, fun m hm => ?_, _, rfl, _, _, rfl, rfl, _, rfl, ix_d rfl rfl (held_at w' nd hn) q⟩
  rw [List.mem_singleton.mp hm]
  exact hn
end
end Q
set_option Elab.async false
set_option linter.all false
set_option maxRecDepth 100000
set_option maxHeartbeats 4000000
namespace Q
open PySem PySem.Spec PyProof.Rows L2 My
section
variable {P : Program} {w : World} {K : PySem.W.Frag} {mg : Str → Option Value} {base : Heap}
theorem ok_Question_tables (W : Wd P w K mg base) : FnG P w K mg base CX0 1 W.f_Question_tables W.d_Question_tables ["self"] (spD K (den_Question_tables W.C_Question)) := by
  refine qfn (k := 0) W.e_Question_tables.F sc_Question_tables ln_Question_tables (fun cdv A outer s H E g0 hr hg => (qss_one (qs_ret (qT (d_list rfl) W.t_list (qa_cons (qe_fld W.cl_Question W.na_Question_held (qv 0)) qa_nil))))) ?_
  rintro ds M Q ⟨w', rfl, hl, q⟩
  dsimp only [wMakeE, wRevT, wOrN, wKeysT, wLendW, wSlQ, gSetN, wLendN, wFzT, sAug, gN, gSet, gT0, gT1, gTup, sFldD, wAnd, wAndV, wAsg, wB, wBM, wBM0, wC, wChain, wCons, wDc, wDnew, wDrop, wEnum, wFld, wFor, wFrz, wFrzD, wFz, wIf, wIfS, wItems, wLc, wLcM, wLst, wLstM, wMake, wMakeM, wMeth, wN, wNever, wNext, wNil, wNoPart, wNot, wNotV, wOp, wOr, wOrV, wPar, wPar3, wPart, wPass, wRet, wRevS, wRng1, wRng2, wSeq, wSl, wTup, wUn, wVar, wYes, wZip, enD, enW, outE, wMethE, wBinE, wRaise0, rdBinO, wFrzDO, wFrzDD, wSlX, wFmt, wJoin, wJs, wItemsL, rdLenO, rdReprO, rdEqO, wNE, wNEN, wRaise, wTry, hcont, wXf, rdIsE, rdIsEV, wFrzO, wFzL, wDnewT, wVals, wItemsD, wEither, wForM, wSlM, wLendE, wLendT, wLendL, wFmtRO, wFmtRD, wBMX, wTupX, wLendD, wOrD, wRev2, wRevI, wFrzTT, wFrzT, wDcT, wDisp1T, wGz, wPrs, wDisp, wDcN, wDnewN]
  exact ⟨_, rfl, _, _, rfl, rfl, list_d q⟩
end
end Q
set_option Elab.async false
set_option linter.all false
set_option maxRecDepth 100000
set_option maxHeartbeats 4000000
namespace Q
open PySem PySem.Spec PyProof.Rows L2 My
section
variable {P : Program} {w : World} {K : PySem.W.Frag} {mg : Str → Option Value} {base : Heap}
theorem ok_l_told (W : Wd P w K mg base) : FnG P w K mg base CX0 5 W.f_l_told W.d_l_told ["_law_thing"] (spD K (den_l_told13)) := by
  refine qfw (k := 4) W.e_l_told.F sc_l_told ln_l_told13 (fun cdv A outer s H E g0 hr hg => (qss_cons (qs_try (i := 2) K sc_l_told.nd W.g_RowError TkQ.none (fun g1 xc pn xe tk po => (qss_one (qs_set (i := 1) sc_l_told.nd (qe_makeE W.mk_Question (ok_Question___init__E W) mo_Question___init__E tk (hr.mono (by decide)) hg W.g_Question W.e_Question___init__.bd (qa_cons (qv 0) qa_nil))))) (fun a oe C fs d pn g1 hz hf er => (qss_cons (qs_if (QW.qt (qw_or (qt_not (qt_val (qe_isEV K List.mem_cons_self hz hf er W.t_isinstance (qa_cons (qv 2) (qa_cons (qe_ty (n := "ValueError") W.t_ValueError) qa_nil))))) (qw_or1 (qt_val (qe_isE K List.mem_cons_self hz hf er W.t_isinstance (qa_cons (qv 2) (qa_cons (qe_tup (qa_cons (qe_cls W.g_BadRow) (qa_cons (qe_cls W.g_NoTable) (qa_cons (qe_cls W.g_TooMany) qa_nil)))) qa_nil))))))) (qss_one (qs_ret (qe_tup (qa_cons qe_str (qa_cons qe_int qa_nil))))) qss_nil) (qss_cons (qs_if (qt_val (qe_isE K List.mem_cons_self hz hf er W.t_isinstance (qa_cons (qv 2) (qa_cons (qe_cls W.g_Wrong) qa_nil)))) (qss_one (qs_ret (qe_if (qt_val (qe_isE K List.mem_cons_self hz hf er W.t_isinstance (qa_cons (qv 2) (qa_cons (qe_cls W.g_BadTable) qa_nil)))) (qe_tup (qa_cons qe_str (qa_cons qe_int qa_nil))) (qe_tup (qa_cons qe_str (qa_cons (qe_xf K hz hf er (qv 2)) qa_nil)))))) qss_nil) (qss_one (qs_ret (qe_if (qt_val (qe_isE K List.mem_cons_self hz hf er W.t_isinstance (qa_cons (qv 2) (qa_cons (qe_cls W.g_BadTable) qa_nil)))) (qe_tup (qa_cons qe_str (qa_cons (qe_xf K hz hf er (qv 2)) qa_nil))) (qe_tup (qa_cons qe_str (qa_cons qe_int qa_nil)))))))))) (qss_one (qs_ret (qe_tup (qa_cons qe_str (qa_cons (qe_lc rfl sc_l_told.nd (qi_any (qe_meth0 W.cl_Question W.m_Question_tables (ok_Question_tables W) mo_Question_tables (hr.mono (by decide)) hg W.e_Question_tables.bd (qv 1))) (blkOk_by (own := [("_law_name", 3)]) (N := N_l_told) (sc := defScope st_l_told) (by decide +kernel)) (fun _ _ _ _ _ => qgo_name (i := 3) sc_l_told.nd) (fun _ _ _ _ _ _ => qts_nil) (fun _ _ _ _ _ _ => (qe_tup (qa_cons (qv 3) (qa_cons (qe_meth W.cl_Question W.m_Question_columns (ok_Question_columns W) mo_Question_columns (hr.mono (by decide)) hg W.e_Question_columns.bd (qv 1) (qa_cons (qv 3) qa_nil)) qa_nil))))) qa_nil))))))) ?_
  --W
  rintro ds M Q ⟨t, rfl, ht, q⟩
  have T := W.E_Wrong
  have B := W.E_BadTable
  dsimp only [wMakeE, wRevT, wOrN, wKeysT, wLendW, wSlQ, gSetN, wLendN, wFzT, sAug, gN, gSet, gT0, gT1, gTup, sFldD, wAnd, wAndV, wAsg, wB, wBM, wBM0, wC, wChain, wCons, wDc, wDnew, wDrop, wEnum, wFld, wFor, wFrz, wFrzD, wFz, wIf, wIfS, wItems, wLc, wLcM, wLst, wLstM, wMake, wMakeM, wMeth, wN, wNever, wNext, wNil, wNoPart, wNot, wNotV, wOp, wOr, wOrV, wPar, wPar3, wPart, wPass, wRet, wRevS, wRng1, wRng2, wSeq, wSl, wTup, wUn, wVar, wYes, wZip, enD, enW, outE, wMethE, wBinE, wRaise0, rdBinO, wFrzDO, wFrzDD, wSlX, wFmt, wJoin, wJs, wItemsL, rdLenO, rdReprO, rdEqO, wNE, wNEN, wRaise, wTry, hcont, wXf, rdIsE, rdIsEV, wFrzO, wFzL, wDnewT, wVals, wItemsD, wEither, wForM, wSlM, wLendE, wLendT, wLendL, wFmtRO, wFmtRD, wBMX, wTupX, wLendD, wOrD, wRev2, wRevI, wFrzTT, wFrzT, wDcT, wDisp1T, wGz, wPrs, wDisp, wDcN, wDnewN]
  refine ⟨_, .refl _, _, rfl, fun p hp => ⟨p, t, rfl, mupd_same, ⟨ht.nx, ht.pr, ht.wt, ht.few⟩, ?_⟩⟩
  cases hl : ptD t with
  | none =>
    refine .inl ⟨rfl, true, T.exm, ?_⟩
    refine fun a => ⟨_, rfl, T.exc, "ValueError", true, rfl, W.kWV, true, rfl, ?_⟩
    refine ⟨_, rfl, line_le (Nat.le_of_ble_eq_true rfl), T.exc, .inr ⟨[W.C_BadRow, W.C_NoTable, W.C_TooMany], false, rfl, W.kWA, _, rfl, ?_⟩⟩
    refine ⟨_, rfl, T.exc, .inl ⟨W.C_Wrong, true, rfl, W.kWW, _, rfl, ?_⟩⟩
    refine ⟨_, rfl, T.exc, .inl ⟨W.C_BadTable, false, rfl, W.kWB, _, rfl, ?_⟩⟩
    refine ⟨T.xf, W.I_Wrong.no _ List.mem_cons_self, _, rfl, rfl, _, rfl, by show 2 ≤ sizeLine; decide, M, (Mle.refl M).put hp, ?_⟩
    rw [due_none hl] at q
    exact q
  | some l =>
    refine .inr ⟨l, rfl, ?_⟩
    by_cases h : l.length < 1 ∨ 6 < l.length
    · refine .inl ⟨h, true, T.exm, ?_⟩
      refine fun a => ⟨_, rfl, T.exc, "ValueError", true, rfl, W.kWV, true, rfl, ?_⟩
      refine ⟨_, rfl, line_le (Nat.le_of_ble_eq_true rfl), T.exc, .inr ⟨[W.C_BadRow, W.C_NoTable, W.C_TooMany], false, rfl, W.kWA, _, rfl, ?_⟩⟩
      refine ⟨_, rfl, T.exc, .inl ⟨W.C_Wrong, true, rfl, W.kWW, _, rfl, ?_⟩⟩
      refine ⟨_, rfl, T.exc, .inl ⟨W.C_BadTable, false, rfl, W.kWB, _, rfl, ?_⟩⟩
      refine ⟨T.xf, W.I_Wrong.no _ List.mem_cons_self, _, rfl, rfl, _, rfl, by show 2 ≤ sizeLine; decide, M, (Mle.refl M).put hp, ?_⟩
      rw [due_many hl h] at q
      exact q
    have h' : 1 ≤ l.length ∧ l.length ≤ 6 := by omega
    refine .inr ⟨h', ?_⟩
    cases hs : scanQ [] l with
    | inl i =>
      refine .inl ⟨i, rfl, true, B.exm, ?_⟩
      refine fun a => ⟨_, rfl, B.exc, "ValueError", true, rfl, W.kBV, true, rfl, ?_⟩
      refine ⟨_, rfl, line_le (Nat.le_of_ble_eq_true rfl), B.exc, .inr ⟨[W.C_BadRow, W.C_NoTable, W.C_TooMany], false, rfl, W.kBA, _, rfl, ?_⟩⟩
      refine ⟨_, rfl, B.exc, .inl ⟨W.C_Wrong, false, rfl, W.kBW, _, rfl, ?_⟩⟩
      refine ⟨_, rfl, B.exc, .inl ⟨W.C_BadTable, true, rfl, W.kBB, _, rfl, ?_⟩⟩
      refine ⟨B.xf, W.I_BadTable.no _ List.mem_cons_self, _, rfl, rfl, _, rfl, by show 2 ≤ sizeLine; decide, M, (Mle.refl M).put hp, ?_⟩
      rw [due_bad hl h' hs] at q
      exact q
    | inr rows =>
      refine .inr ⟨rows, rfl, rfl, _, mupd_same, ?_⟩
      obtain ⟨n1, nd, nms⟩ := scan_ok hs List.nodup_nil (fun r h => (nomatch h))
      rw [due_fine hl h' hs] at q
      dsimp only [wMakeE, wRevT, wOrN, wKeysT, wLendW, wSlQ, gSetN, wLendN, wFzT, sAug, gN, gSet, gT0, gT1, gTup, sFldD, wAnd, wAndV, wAsg, wB, wBM, wBM0, wC, wChain, wCons, wDc, wDnew, wDrop, wEnum, wFld, wFor, wFrz, wFrzD, wFz, wIf, wIfS, wItems, wLc, wLcM, wLst, wLstM, wMake, wMakeM, wMeth, wN, wNever, wNext, wNil, wNoPart, wNot, wNotV, wOp, wOr, wOrV, wPar, wPar3, wPart, wPass, wRet, wRevS, wRng1, wRng2, wSeq, wSl, wTup, wUn, wVar, wYes, wZip, enD, enW, outE, wMethE, wBinE, wRaise0, rdBinO, wFrzDO, wFrzDD, wSlX, wFmt, wJoin, wJs, wItemsL, rdLenO, rdReprO, rdEqO, wNE, wNEN, wRaise, wTry, hcont, wXf, rdIsE, rdIsEV, wFrzO, wFzL, wDnewT, wVals, wItemsD, wEither, wForM, wSlM, wLendE, wLendT, wLendL, wFmtRO, wFmtRD, wBMX, wTupX, wLendD, wOrD, wRev2, wRevI, wFrzTT, wFrzT, wDcT, wDisp1T, wGz, wPrs, wDisp, wDcN, wDnewN]
      have wl : (webOf rows).length = rows.length := by unfold webOf; rw [List.length_map]
      have wn : (webOf rows).map (·.1) = rows.map (·.nm) := webOf_keys rows
      have hw6 : (webOf rows).length ≤ 6 := by rw [wl, n1, List.length_nil]; omega
      have nl : (namesF (webOf rows)).length ≤ 6 := by
        show (ssort _).length ≤ 6
        rw [length_ssort, List.length_map]; exact hw6
      refine ⟨_, rfl, _, rfl, rfl, webOf rows, rfl, hw6, _, rfl, fun _ => ⟨by show (sts _).length ≤ _; rw [len_sts]; exact line_le (by omega), ?_⟩⟩
      refine lcGo_aa D.str (fun n => .tup [.str n, .tux (ssort (colsF (webOf rows) n))]) (namesF (webOf rows)) (fun n hn acc k hk => ?_) ?_
      · dsimp only [wMakeE, wRevT, wOrN, wKeysT, wLendW, wSlQ, gSetN, wLendN, wFzT, sAug, gN, gSet, gT0, gT1, gTup, sFldD, wAnd, wAndV, wAsg, wB, wBM, wBM0, wC, wChain, wCons, wDc, wDnew, wDrop, wEnum, wFld, wFor, wFrz, wFrzD, wFz, wIf, wIfS, wItems, wLc, wLcM, wLst, wLstM, wMake, wMakeM, wMeth, wN, wNever, wNext, wNil, wNoPart, wNot, wNotV, wOp, wOr, wOrV, wPar, wPar3, wPart, wPass, wRet, wRevS, wRng1, wRng2, wSeq, wSl, wTup, wUn, wVar, wYes, wZip, enD, enW, outE, wMethE, wBinE, wRaise0, rdBinO, wFrzDO, wFrzDD, wSlX, wFmt, wJoin, wJs, wItemsL, rdLenO, rdReprO, rdEqO, wNE, wNEN, wRaise, wTry, hcont, wXf, rdIsE, rdIsEV, wFrzO, wFzL, wDnewT, wVals, wItemsD, wEither, wForM, wSlM, wLendE, wLendT, wLendL, wFmtRO, wFmtRD, wBMX, wTupX, wLendD, wOrD, wRev2, wRevI, wFrzTT, wFrzT, wDcT, wDisp1T, wGz, wPrs, wDisp, wDcN, wDnewN]
        refine ⟨_, rfl, _, rfl, _, rfl, rfl, _, rfl, webOf rows, n, rfl, by rw [wn]; exact nd, mem_ssort.mp hn, by show 2 ≤ sizeLine; decide, hk⟩
      · refine ⟨by show 2 ≤ sizeLine; decide, M, fun a mo ha => ?_, q⟩
        have e : a ≠ p := fun e => by subst e; rw [hp] at ha; cases ha
        rw [mupd_ne e, mupd_ne e, mupd_ne e]
        exact ha
end
end Q
set_option Elab.async false
set_option linter.all false
set_option maxRecDepth 100000
set_option maxHeartbeats 4000000
namespace Q
open PySem PySem.Spec PyProof.Rows L2 My
section
variable {P : Program} {w : World} {K : PySem.W.Frag} {mg : Str → Option Value} {base : Heap}
theorem ok_l_names (W : Wd P w K mg base) : FnG P w K mg base CX0 2 W.f_l_names W.d_l_names ["_law_bag_here", "_law_many"] (spD K (den_l_names)) := by
  refine qfn (k := 1) W.e_l_names.F sc_l_names ln_l_names (fun cdv A outer s H E g0 hr hg => (qss_cons (qs_set (i := 2) sc_l_names.nd qe_str) (qss_cons (qs_set (i := 3) sc_l_names.nd qe_str) (qss_cons (qs_set (i := 3) sc_l_names.nd (qe_bm PySem.F.plainAttrs_str PySem.F.slot_str_split PySem.F.type_str_split d_split (q2 d_add (qv 3) qe_str) (qa_cons qe_str qa_nil))) (qss_cons (qs_asg (qe_tup (qa_cons (qe_call (ok_l_take W) mo_l_take (hr.mono (by decide)) hg W.e_l_take.mg W.e_l_take.F.kp W.e_l_take.bd (qa_cons (qv 0) (qa_cons qe_int qa_nil))) (qa_cons (qe_call (ok_l_take W) mo_l_take (hr.mono (by decide)) hg W.e_l_take.mg W.e_l_take.F.kp W.e_l_take.bd (qa_cons (qv 0) (qa_cons qe_int qa_nil))) qa_nil))) (qg_tup (n := 2) rfl (qgs_cons (qg_name (i := 4) sc_l_names.nd) (qgs_cons (qg_name (i := 5) sc_l_names.nd) qgs_nil)))) (qss_cons (qs_set (i := 6) sc_l_names.nd (qe_bm PySem.F.plainAttrs_str PySem.F.slot_str_join PySem.F.type_str_join d_join qe_str (qa_cons (qe_lc rfl sc_l_names.nd (qi_range1 W.t_range (qa_cons (q2 d_add qe_int (qe_call (ok_l_take W) mo_l_take (hr.mono (by decide)) hg W.e_l_take.mg W.e_l_take.F.kp W.e_l_take.bd (qa_cons (qv 0) (qa_cons qe_int qa_nil)))) qa_nil)) (blkOk_by (own := [("_law_k", 7)]) (N := N_l_names) (sc := defScope st_l_names) (by decide +kernel)) (fun _ _ _ _ _ => qgo_name (i := 7) sc_l_names.nd) (fun _ _ _ _ _ _ => qts_nil) (fun _ _ _ _ _ _ => (qix (d_ix (room1 hr)) (qv 2) (qe_call (ok_l_take W) mo_l_take (hr.mono (by decide)) hg W.e_l_take.mg W.e_l_take.F.kp W.e_l_take.bd (qa_cons (qv 0) (qa_cons qe_int qa_nil)))))) qa_nil))) (qss_cons (qs_set (i := 8) sc_l_names.nd (qe_call (ok_l_take W) mo_l_take (hr.mono (by decide)) hg W.e_l_take.mg W.e_l_take.F.kp W.e_l_take.bd (qa_cons (qv 0) (qa_cons (q2 d_add (qB d_len W.t_len (qa_cons (qv 6) qa_nil)) qe_int) qa_nil)))) (qss_cons (qs_if (qct (d_eq (room64 hr)) (qv 4) qe_int) (qss_one (qs_ret (qsl (q2 d_add (qsl (qv 3) (qo_some (qv 5)) qo_none) (qsl (qv 3) qo_none (qo_some (qv 5)))) qo_none (qo_some (qv 1))))) qss_nil) (qss_cons (qs_if (qct (d_eq (room64 hr)) (qv 4) qe_int) (qss_one (qs_ret (qe_lc rfl sc_l_names.nd (qi_range1 W.t_range (qa_cons (qv 1) qa_nil)) (blkOk_by (own := [("_law_k", 7)]) (N := N_l_names) (sc := defScope st_l_names) (by decide +kernel)) (fun _ _ _ _ _ => qgo_name (i := 7) sc_l_names.nd) (fun _ _ _ _ _ _ => qts_nil) (fun _ _ _ _ _ _ => (qix (d_ix (room1 hr)) (qv 2) (q2 d_mod (qT d_int W.t_int (qa_cons (q2 d_add (qv 5) (q2 d_mul qe_int (qv 7))) qa_nil)) qe_int)))))) qss_nil) (qss_one (qs_ret (qe_lc rfl sc_l_names.nd (qi_range1 W.t_range (qa_cons (qv 1) qa_nil)) (blkOk_by (own := [("_law_k", 7)]) (N := N_l_names) (sc := defScope st_l_names) (by decide +kernel)) (fun _ _ _ _ _ => qgo_name (i := 7) sc_l_names.nd) (fun _ _ _ _ _ _ => qts_nil) (fun _ _ _ _ _ _ => (q2 d_add (q2 d_add (qsl (qv 6) qo_none (qo_some (qv 8))) (qix (d_ix (room1 hr)) (qv 2) (q2 d_mod (qT d_int W.t_int (qa_cons (q2 d_add (qv 5) (q2 d_mul qe_int (qv 7))) qa_nil)) qe_int))) (qsl (qv 6) (qo_some (qv 8)) qo_none))))))))))))))) ?_
  rintro ds M Q ⟨n, rfl, hn, q⟩
  dsimp only [wMakeE, wRevT, wOrN, wKeysT, wLendW, wSlQ, gSetN, wLendN, wFzT, sAug, gN, gSet, gT0, gT1, gTup, sFldD, wAnd, wAndV, wAsg, wB, wBM, wBM0, wC, wChain, wCons, wDc, wDnew, wDrop, wEnum, wFld, wFor, wFrz, wFrzD, wFz, wIf, wIfS, wItems, wLc, wLcM, wLst, wLstM, wMake, wMakeM, wMeth, wN, wNever, wNext, wNil, wNoPart, wNot, wNotV, wOp, wOr, wOrV, wPar, wPar3, wPart, wPass, wRet, wRevS, wRng1, wRng2, wSeq, wSl, wTup, wUn, wVar, wYes, wZip, enD, enW, outE, wMethE, wBinE, wRaise0, rdBinO, wFrzDO, wFrzDD, wSlX, wFmt, wJoin, wJs, wItemsL, rdLenO, rdReprO, rdEqO, wNE, wNEN, wRaise, wTry, hcont, wXf, rdIsE, rdIsEV, wFrzO, wFzL, wDnewT, wVals, wItemsD, wEither, wForM, wSlM, wLendE, wLendT, wLendL, wFmtRO, wFmtRD, wBMX, wTupX, wLendD, wOrD, wRev2, wRevI, wFrzTT, wFrzT, wDcT, wDisp1T, wGz, wPrs, wDisp, wDcN, wDnewN]
  refine ⟨_, rfl, by decide +kernel, rfl, ⟨by decide +kernel, by decide +kernel⟩, ?_⟩
  rw [words_split]
  refine ⟨_, rfl, 4, rfl, by decide, by decide, fun way hw0 hw1 => ⟨_, rfl, 20, rfl, by decide, by decide, fun turn ht0 ht1 => ⟨by show 2 ≤ sizeLine; decide, _, rfl, rfl, _, _, rfl, _, _, rfl, rfl, rfl, ?_⟩⟩⟩
  refine ⟨_, rfl, 7, rfl, by decide, by decide, fun v hv0 hv1 => ⟨_, rfl, by omega, by omega, rng_len (by omega), ?_⟩⟩
  refine lcGo_ind (fun rest acc M' => M' = M ∧ ∃ cs : List Nat, acc = cs.map (fun c => .str (chS c)) ∧ (∀ c ∈ cs, 97 ≤ c ∧ c < 123) ∧ cs.length + rest.length = (1 + v).toNat) ?_ ?_ _ _ _ ⟨rfl, [], rfl, (fun c hc => (nomatch hc)), by simp⟩
  · rintro d rest acc M' k ⟨rfl, cs, rfl, hcs, hlen⟩ hk
    dsimp only [wMakeE, wRevT, wOrN, wKeysT, wLendW, wSlQ, gSetN, wLendN, wFzT, sAug, gN, gSet, gT0, gT1, gTup, sFldD, wAnd, wAndV, wAsg, wB, wBM, wBM0, wC, wChain, wCons, wDc, wDnew, wDrop, wEnum, wFld, wFor, wFrz, wFrzD, wFz, wIf, wIfS, wItems, wLc, wLcM, wLst, wLstM, wMake, wMakeM, wMeth, wN, wNever, wNext, wNil, wNoPart, wNot, wNotV, wOp, wOr, wOrV, wPar, wPar3, wPart, wPass, wRet, wRevS, wRng1, wRng2, wSeq, wSl, wTup, wUn, wVar, wYes, wZip, enD, enW, outE, wMethE, wBinE, wRaise0, rdBinO, wFrzDO, wFrzDD, wSlX, wFmt, wJoin, wJs, wItemsL, rdLenO, rdReprO, rdEqO, wNE, wNEN, wRaise, wTry, hcont, wXf, rdIsE, rdIsEV, wFrzO, wFzL, wDnewT, wVals, wItemsD, wEither, wForM, wSlM, wLendE, wLendT, wLendL, wFmtRO, wFmtRD, wBMX, wTupX, wLendD, wOrD, wRev2, wRevI, wFrzTT, wFrzT, wDcT, wDisp1T, wGz, wPrs, wDisp, wDcN, wDnewN]
    refine ⟨_, rfl, _, rfl, 26, rfl, by decide, by decide, fun u hu0 hu1 => ⟨u, _, rfl, by decide +kernel, letter_at hu0 hu1, ?_⟩⟩
    refine hk _ _ ⟨rfl, cs ++ [97 + u.toNat], by simp [chS], fun c hc => ?_, by simp at hlen ⊢; omega⟩
    rcases List.mem_append.mp hc with h | h
    · exact hcs c h
    · rw [List.mem_singleton.mp h]; omega
  · rintro acc M' ⟨rfl, cs, rfl, hcs, hlen⟩
    refine ⟨_, _, _, cs.map chS, rfl, rfl, rfl, strsD_chS cs, ?_, ?_⟩
    · rw [sum_chS, show ("" : Str).length = 0 by decide +kernel]; simp at hlen; omega
    rw [join_signs]
    have hl1 : 1 ≤ cs.length ∧ cs.length ≤ 7 := by simp at hlen; omega
    have hl2 := str_len cs
    refine ⟨_, rfl, _, rfl, _, rfl, by rw [hl2]; exact line_le (by omega), ?_⟩
    refine ⟨_, rfl, by omega, by rw [hl2]; omega, fun at' ha0 ha1 => ?_⟩
    rw [hl2] at ha1
    refine ⟨_, rfl, _, rfl, ifd (fun e => ?_) (fun e => ?_)⟩
    · refine ⟨_, rfl, _, rfl, _, rfl, _, rfl, _, rfl, _, rfl, ?_⟩
      refine ⟨?_, _, rfl, _, rfl, ?_⟩
      · rw [cutD_from ht0, cutD_to ht0]; simp; exact line_le (by have : wordsL.length = 20 := rfl; omega)
      obtain ⟨k1, k2⟩ := words_turn turn.toNat n (by omega) hn
      show Q (.lst (cutD (cutD _ _ _ ++ cutD _ _ _) none (some (n : Int)))) M'
      rw [cutD_from ht0, cutD_to ht0, cutD_to (by omega)]
      have e1 : ((wordsL.map D.str).drop turn.toNat ++ (wordsL.map D.str).take turn.toNat).take (n : Int).toNat = sts ((wordsL.drop turn.toNat ++ wordsL.take turn.toNat).take n) := by
        unfold sts
        simp [List.map_take, List.map_drop]
      rw [e1]
      exact q _ k2 k1
    · refine ⟨_, rfl, _, rfl, ifd (fun e => ?_) (fun e => ?_)⟩
      · refine ⟨_, rfl, _, rfl, by omega, by omega, rng_len (by omega), lcGo_rng (fun i => .str (nearS [] [] turn i)) _ (fun i k hi hk => ?_) ?_⟩
        · dsimp only [wMakeE, wRevT, wOrN, wKeysT, wLendW, wSlQ, gSetN, wLendN, wFzT, sAug, gN, gSet, gT0, gT1, gTup, sFldD, wAnd, wAndV, wAsg, wB, wBM, wBM0, wC, wChain, wCons, wDc, wDnew, wDrop, wEnum, wFld, wFor, wFrz, wFrzD, wFz, wIf, wIfS, wItems, wLc, wLcM, wLst, wLstM, wMake, wMakeM, wMeth, wN, wNever, wNext, wNil, wNoPart, wNot, wNotV, wOp, wOr, wOrV, wPar, wPar3, wPart, wPass, wRet, wRevS, wRng1, wRng2, wSeq, wSl, wTup, wUn, wVar, wYes, wZip, enD, enW, outE, wMethE, wBinE, wRaise0, rdBinO, wFrzDO, wFrzDD, wSlX, wFmt, wJoin, wJs, wItemsL, rdLenO, rdReprO, rdEqO, wNE, wNEN, wRaise, wTry, hcont, wXf, rdIsE, rdIsEV, wFrzO, wFzL, wDnewT, wVals, wItemsD, wEither, wForM, wSlM, wLendE, wLendT, wLendL, wFmtRO, wFmtRD, wBMX, wTupX, wLendD, wOrD, wRev2, wRevI, wFrzTT, wFrzT, wDcT, wDisp1T, wGz, wPrs, wDisp, wDcN, wDnewN]
          refine ⟨_, rfl, _, rfl, _, rfl, ⟨.inl ⟨by decide, by decide⟩, (by show (0 : Int) < 26; decide), _, _, rfl, by decide +kernel, letter_at (Int.emod_nonneg _ (by decide)) (Int.emod_lt_of_pos _ (by decide)), hk⟩⟩
        · have e2 : ((List.range (n : Int).toNat).map fun i => D.str (nearS [] [] turn i)) = sts ((List.range n).map (nearS [] [] turn)) := by
            unfold sts
            rw [List.map_map]; rfl
          show Q (.lst _) M'
          rw [e2]
          exact q _ (by simp) (near_names hn (by simp) (fun c hc => (nomatch hc)))
      · refine ⟨_, rfl, _, rfl, by omega, by omega, rng_len (by omega), lcGo_rng (fun i => .str (nearS (cs.take at'.toNat) (cs.drop at'.toNat) turn i)) _ (fun i k hi hk => ?_) ?_⟩
        · dsimp only [wMakeE, wRevT, wOrN, wKeysT, wLendW, wSlQ, gSetN, wLendN, wFzT, sAug, gN, gSet, gT0, gT1, gTup, sFldD, wAnd, wAndV, wAsg, wB, wBM, wBM0, wC, wChain, wCons, wDc, wDnew, wDrop, wEnum, wFld, wFor, wFrz, wFrzD, wFz, wIf, wIfS, wItems, wLc, wLcM, wLst, wLstM, wMake, wMakeM, wMeth, wN, wNever, wNext, wNil, wNoPart, wNot, wNotV, wOp, wOr, wOrV, wPar, wPar3, wPart, wPass, wRet, wRevS, wRng1, wRng2, wSeq, wSl, wTup, wUn, wVar, wYes, wZip, enD, enW, outE, wMethE, wBinE, wRaise0, rdBinO, wFrzDO, wFrzDD, wSlX, wFmt, wJoin, wJs, wItemsL, rdLenO, rdReprO, rdEqO, wNE, wNEN, wRaise, wTry, hcont, wXf, rdIsE, rdIsEV, wFrzO, wFzL, wDnewT, wVals, wItemsD, wEither, wForM, wSlM, wLendE, wLendT, wLendL, wFmtRO, wFmtRD, wBMX, wTupX, wLendD, wOrD, wRev2, wRevI, wFrzTT, wFrzT, wDcT, wDisp1T, wGz, wPrs, wDisp, wDcN, wDnewN]
          refine ⟨_, rfl, _, rfl, _, rfl, by rw [hl2]; exact line_le (by omega), _, rfl, ?_⟩
          refine ⟨_, rfl, _, rfl, ⟨.inl ⟨by decide, by decide⟩, (by show (0 : Int) < 26; decide), _, _, rfl, by decide +kernel, letter_at (Int.emod_nonneg _ (by decide)) (Int.emod_lt_of_pos _ (by decide)), ?_⟩⟩
          rw [cutS_to ha0]
          refine ⟨by rw [str_len]; show _ + 1 ≤ _; simp; exact line_le (by omega), _, rfl, _, rfl, _, rfl, by rw [hl2]; exact line_le (by omega), ?_⟩
          rw [cutS_from ha0]
          have e3 : (⟨(cs.take at'.toNat).toArray⟩ : Str) ++ (⟨#[97 + ((turn + 3 * (i : Int)) % 26).toNat]⟩ : Str) = ⟨(cs.take at'.toNat ++ [letN turn i]).toArray⟩ := append_str _ [letN turn i]
          have e4 : (⟨(cs.take at'.toNat ++ [letN turn i]).toArray⟩ : Str) ++ (⟨(cs.drop at'.toNat).toArray⟩ : Str) = nearS (cs.take at'.toNat) (cs.drop at'.toNat) turn i := by
            rw [append_str]
            simp [nearS]
          rw [e3]
          refine ⟨by rw [str_len, str_len]; simp; exact line_le (by omega), ?_⟩
          rw [e4]
          exact hk
        · have e2 : ((List.range (n : Int).toNat).map fun i => D.str (nearS (cs.take at'.toNat) (cs.drop at'.toNat) turn i)) = sts ((List.range n).map (nearS (cs.take at'.toNat) (cs.drop at'.toNat) turn)) := by
            unfold sts
            rw [List.map_map]; rfl
          show Q (.lst _) M'
          rw [e2]
          refine q _ (by simp) (near_names hn (by simp; omega) (fun c hc => ?_))
          rw [List.take_append_drop] at hc
          exact hcs c hc
end
end Q
set_option Elab.async false
set_option linter.all false
set_option maxRecDepth 100000
set_option maxHeartbeats 4000000
namespace Q
open PySem PySem.Spec PyProof.Rows L2 My
section
variable {P : Program} {w : World} {K : PySem.W.Frag} {mg : Str → Option Value} {base : Heap}
theorem ok_l_web (W : Wd P w K mg base) : FnG P w K mg base CX0 3 W.f_l_web W.d_l_web ["_law_bag_here", "_law_most"] (spD K (den_l_web)) := by
  refine qfw (k := 2) W.e_l_web.F sc_l_web ln_l_web (fun cdv A outer s H E g0 hr hg => (qss_cons (qs_asg (qe_tup (qa_cons (qe_call (ok_l_names W) mo_l_names (hr.mono (by decide)) hg W.e_l_names.mg W.e_l_names.F.kp W.e_l_names.bd (qa_cons (qv 0) (qa_cons qe_int qa_nil))) (qa_cons (qe_call (ok_l_names W) mo_l_names (hr.mono (by decide)) hg W.e_l_names.mg W.e_l_names.F.kp W.e_l_names.bd (qa_cons (qv 0) (qa_cons qe_int qa_nil))) (qa_cons (qe_call (ok_l_take W) mo_l_take (hr.mono (by decide)) hg W.e_l_take.mg W.e_l_take.F.kp W.e_l_take.bd (qa_cons (qv 0) (qa_cons qe_int qa_nil))) qa_nil)))) (qg_tup (n := 3) rfl (qgs_cons (qg_name (i := 2) sc_l_web.nd) (qgs_cons (qg_name (i := 3) sc_l_web.nd) (qgs_cons (qg_name (i := 4) sc_l_web.nd) qgs_nil))))) (qss_cons (qs_par3 (i := 5) (j := 6) (l := 7) rfl sc_l_web.nd (qa_cons (q2 d_add qe_int (qe_call (ok_l_take W) mo_l_take (hr.mono (by decide)) hg W.e_l_take.mg W.e_l_take.F.kp W.e_l_take.bd (qa_cons (qv 0) (qa_cons (qv 1) qa_nil)))) (qa_cons (qe_lstM qa_nil) (qa_cons (qT (d_listM rfl) W.t_list (qa_cons (qsl (qv 3) (qo_some qe_int) qo_none) qa_nil)) qa_nil)))) (qss_cons (qs_for PassesOwn.never rfl (qi_range1 W.t_range (qa_cons (qv 5) qa_nil)) (qg_name (i := 8) sc_l_web.nd) (qss_cons (qs_setLcM (i := 9) rfl sc_l_web.nd (qi_any (qsl (qv 3) qo_none (qo_some qe_int))) (blkOk_by (own := [("_law_one", 10)]) (N := N_l_web) (sc := defScope st_l_web) (by decide +kernel)) (fun _ _ _ _ _ => qgo_name (i := 10) sc_l_web.nd) (fun _ _ _ _ _ _ => qts_one (qct (d_eq (room64 hr)) (qe_call (ok_l_take W) mo_l_take (hr.mono (by decide)) hg W.e_l_take.mg W.e_l_take.F.kp W.e_l_take.bd (qa_cons (qv 0) (qa_cons qe_int qa_nil))) qe_int)) (fun _ _ _ _ _ _ => (qv 10))) (qss_cons (qs_if (QW.qt (qw_and (qct d_lt (qv 4) qe_int) (qw_and1 (qct d_gt (qv 8) qe_int)))) (qss_cons (qs_setLcM (i := 9) rfl sc_l_web.nd (qi_any (qix (d_ix (room1 hr)) (qv 6) (qe_call (ok_l_take W) mo_l_take (hr.mono (by decide)) hg W.e_l_take.mg W.e_l_take.F.kp W.e_l_take.bd (qa_cons (qv 0) (qa_cons (qv 8) qa_nil))))) (blkOk_by (own := [("_law_one", 10)]) (N := N_l_web) (sc := defScope st_l_web) (by decide +kernel)) (fun _ _ _ _ _ => qgo_name (i := 10) sc_l_web.nd) (fun _ _ _ _ _ _ => qts_one (qct d_gt (qe_call (ok_l_take W) mo_l_take (hr.mono (by decide)) hg W.e_l_take.mg W.e_l_take.F.kp W.e_l_take.bd (qa_cons (qv 0) (qa_cons qe_int qa_nil))) qe_int)) (fun _ _ _ _ _ _ => (qv 10))) (qss_one (qs_for PassesOwn.never rfl (qi_range1 W.t_range (qa_cons (qB (d_min rfl) W.t_min (qa_cons (qB d_len W.t_len (qa_cons (qv 7) qa_nil)) (qa_cons (qe_call (ok_l_take W) mo_l_take (hr.mono (by decide)) hg W.e_l_take.mg W.e_l_take.F.kp W.e_l_take.bd (qa_cons (qv 0) (qa_cons qe_int qa_nil))) qa_nil))) qa_nil)) (qg_name (i := 11) sc_l_web.nd) (qss_one (qs_expr (qe_bm PySem.F.plainAttrs_list PySem.F.slot_list_append PySem.F.type_list_append d_append (qv 9) (qa_cons (qe_bm0 PySem.F.plainAttrs_list PySem.F.slot_list_pop PySem.F.type_list_pop d_pop (qv 7)) qa_nil))))))) qss_nil) (qss_cons (qs_if (qct (d_eq (room64 hr)) (qv 4) qe_int) (qss_one (qs_set (i := 9) sc_l_web.nd (qe_lstM (qa_cons (qix (d_ix (room1 hr)) (qv 3) (qv 8)) (qa_cons (qix (d_ix (room1 hr)) (qv 3) (q2 d_mod (qT d_int W.t_int (qa_cons (q2 d_add (qv 8) qe_int) qa_nil)) (qv 5))) qa_nil))))) qss_nil) (qss_cons (qs_if (qct (d_eq (room64 hr)) (qv 4) qe_int) (qss_one (qs_setLcM (i := 9) rfl sc_l_web.nd (qi_range1 W.t_range (qa_cons (qv 5) qa_nil)) (blkOk_by (own := [("_law_j", 11)]) (N := N_l_web) (sc := defScope st_l_web) (by decide +kernel)) (fun _ _ _ _ _ => qgo_name (i := 11) sc_l_web.nd) (fun _ _ _ _ _ _ => qts_one (qct (d_ne (room64 hr)) (qv 11) (qv 8))) (fun _ _ _ _ _ _ => (qix (d_ix (room1 hr)) (qv 3) (qv 11))))) qss_nil) (qss_cons (qs_if (qct (d_eq (room64 hr)) (qv 4) qe_int) (qss_one (qs_set (i := 9) sc_l_web.nd (qsl (qv 9) qo_none (qo_some qe_int)))) qss_nil) (qss_one (qs_expr (qe_bm PySem.F.plainAttrs_list PySem.F.slot_list_append PySem.F.type_list_append d_append (qv 6) (qa_cons (qv_frzO 9) qa_nil)))))))))) (qss_one (qs_ret (qe_fz (qT (d_dict rfl) W.t_dict (qa_cons (qe_lc rfl sc_l_web.nd (qi_zip W.t_zip (qa_cons (qv 2) (qa_cons (qv_frzO 6) qa_nil))) (blkOk_by (own := [("_law_name", 12), ("_law_some", 9)]) (N := N_l_web) (sc := defScope st_l_web) (by decide +kernel)) (fun _ _ _ _ _ => qgo_two K (i := 12) (j := 9) sc_l_web.nd) (fun _ _ _ _ _ _ => qts_nil) (fun _ _ _ _ _ _ => (qe_tup (qa_cons (qv 12) (qa_cons (qT d_tuple W.t_tuple (qa_cons (qe_sortedSet rfl W.t_sorted W.t_set (qv 9)) qa_nil)) qa_nil))))) qa_nil))))))))) ?_
  --W
  rintro ds M Q ⟨n, rfl, h1, h6, q⟩
  dsimp only [wMakeE, wRevT, wOrN, wKeysT, wLendW, wSlQ, gSetN, wLendN, wFzT, sAug, gN, gSet, gT0, gT1, gTup, sFldD, wAnd, wAndV, wAsg, wB, wBM, wBM0, wC, wChain, wCons, wDc, wDnew, wDrop, wEnum, wFld, wFor, wFrz, wFrzD, wFz, wIf, wIfS, wItems, wLc, wLcM, wLst, wLstM, wMake, wMakeM, wMeth, wN, wNever, wNext, wNil, wNoPart, wNot, wNotV, wOp, wOr, wOrV, wPar, wPar3, wPart, wPass, wRet, wRevS, wRng1, wRng2, wSeq, wSl, wTup, wUn, wVar, wYes, wZip, enD, enW, outE, wMethE, wBinE, wRaise0, rdBinO, wFrzDO, wFrzDD, wSlX, wFmt, wJoin, wJs, wItemsL, rdLenO, rdReprO, rdEqO, wNE, wNEN, wRaise, wTry, hcont, wXf, rdIsE, rdIsEV, wFrzO, wFzL, wDnewT, wVals, wItemsD, wEither, wForM, wSlM, wLendE, wLendT, wLendL, wFmtRO, wFmtRD, wBMX, wTupX, wLendD, wOrD, wRev2, wRevI, wFrzTT, wFrzT, wDcT, wDisp1T, wGz, wPrs, wDisp, wDcN, wDnewN]
  refine ⟨_, rfl, 6, rfl, by decide, fun ns hns hnok => ⟨_, rfl, 8, rfl, by decide, fun L hL hLok => ⟨_, rfl, 7, rfl, by decide, by decide, fun way hw0 hw1 => ⟨by show 3 ≤ sizeLine; decide, _, rfl, rfl, _, _, rfl, _, _, rfl, _, _, rfl, rfl, ?_⟩⟩⟩⟩
  refine ⟨_, rfl, _, rfl, n, rfl, by omega, by omega, fun u hu0 hu1 => ⟨by decide, fun p1 hp1 => ⟨_, rfl, _, rfl, _, _, rfl, rfl, fun p2 hp2 => ⟨_, _, _, rfl, _, rfl, _, rfl, by omega, by omega, ?_⟩⟩⟩⟩
  rw [cutD_from (by decide)]
  have hn12 : p2 ≠ p1 := fun e => by subst e; rw [mupd_same] at hp2; cases hp2
  have hp2' : M p2 = none := by rwa [mupd_ne hn12] at hp2
  refine wLoop_rng _ (WebI M p1 p2 n ns L way (1 + u)) (fun i hi k z hI hk => ?_) (fun z hI => ?_) _ ?_
  rotate_right
  · refine ⟨none, none, none, none, none, [], L.drop 4, _, rfl, ⟨Ne.symm hn12, hp1, hp2', ?_, ?_, ?_, rfl, (fun s hs => (nomatch hs)), ?_, fun c hc => List.mem_of_mem_drop hc⟩⟩
    · rw [mupd_ne (Ne.symm hn12), mupd_same]; rfl
    · rw [mupd_same, sts_drop]; rfl
    · exact ((Mle.refl M).put hp1).put hp2'
    · rw [List.length_drop, hL]; decide
  · obtain ⟨d8, d9, d10, d11, d12, sets, free, M', rfl, hW⟩ := hI
    have hi6 : i < 6 := by omega
    dsimp only [gN]
    refine seq_cut (WebB M p1 p2 n ns L way (1 + u) i) (fun k1 hk1 => ?_) (fun z hz => ?_)
    · dsimp only [wMakeE, wRevT, wOrN, wKeysT, wLendW, wSlQ, gSetN, wLendN, wFzT, sAug, gN, gSet, gT0, gT1, gTup, sFldD, wAnd, wAndV, wAsg, wB, wBM, wBM0, wC, wChain, wCons, wDc, wDnew, wDrop, wEnum, wFld, wFor, wFrz, wFrzD, wFz, wIf, wIfS, wItems, wLc, wLcM, wLst, wLstM, wMake, wMakeM, wMeth, wN, wNever, wNext, wNil, wNoPart, wNot, wNotV, wOp, wOr, wOrV, wPar, wPar3, wPart, wPass, wRet, wRevS, wRng1, wRng2, wSeq, wSl, wTup, wUn, wVar, wYes, wZip, enD, enW, outE, wMethE, wBinE, wRaise0, rdBinO, wFrzDO, wFrzDD, wSlX, wFmt, wJoin, wJs, wItemsL, rdLenO, rdReprO, rdEqO, wNE, wNEN, wRaise, wTry, hcont, wXf, rdIsE, rdIsEV, wFrzO, wFzL, wDnewT, wVals, wItemsD, wEither, wForM, wSlM, wLendE, wLendT, wLendL, wFmtRO, wFmtRD, wBMX, wTupX, wLendD, wOrD, wRev2, wRevI, wFrzTT, wFrzT, wDcT, wDisp1T, wGz, wPrs, wDisp, wDcN, wDnewN]
      refine ⟨_, rfl, _, rfl, _, rfl, fun _ => ?_⟩
      rw [cutD_to (by decide), sts_take]
      refine ⟨by rw [len_sts]; exact line_le (by simp; omega), lcGo_sub _ (fun x acc k hy hn => ?_) (fun ss hss p hp => ?_)⟩
      · dsimp only [wMakeE, wRevT, wOrN, wKeysT, wLendW, wSlQ, gSetN, wLendN, wFzT, sAug, gN, gSet, gT0, gT1, gTup, sFldD, wAnd, wAndV, wAsg, wB, wBM, wBM0, wC, wChain, wCons, wDc, wDnew, wDrop, wEnum, wFld, wFor, wFrz, wFrzD, wFz, wIf, wIfS, wItems, wLc, wLcM, wLst, wLstM, wMake, wMakeM, wMeth, wN, wNever, wNext, wNil, wNoPart, wNot, wNotV, wOp, wOr, wOrV, wPar, wPar3, wPart, wPass, wRet, wRevS, wRng1, wRng2, wSeq, wSl, wTup, wUn, wVar, wYes, wZip, enD, enW, outE, wMethE, wBinE, wRaise0, rdBinO, wFrzDO, wFrzDD, wSlX, wFmt, wJoin, wJs, wItemsL, rdLenO, rdReprO, rdEqO, wNE, wNEN, wRaise, wTry, hcont, wXf, rdIsE, rdIsEV, wFrzO, wFzL, wDnewT, wVals, wItemsD, wEither, wForM, wSlM, wLendE, wLendT, wLendL, wFmtRO, wFmtRD, wBMX, wTupX, wLendD, wOrD, wRev2, wRevI, wFrzTT, wFrzT, wDcT, wDisp1T, wGz, wPrs, wDisp, wDcN, wDnewN]
        exact ⟨_, rfl, 2, rfl, by decide, by decide, fun v _ _ => ⟨_, rfl, ifd (fun _ => ⟨_, rfl, hy⟩) (fun _ => hn)⟩⟩
      · have hlen := hss.length_le
        exact hk1 _ ⟨_, _, _, _, ss, sets, free, _, rfl, hW.new hp _, hW.some hp, by simp at hlen; omega, fun c hc => List.mem_of_mem_take (hss.subset hc)⟩
    refine seq_cut (WebB M p1 p2 n ns L way (1 + u) i) (fun k1 hk1 => ?_) (fun z hz => ?_)
    · obtain ⟨dS, e10, e11, e12, ss, sets, free, M', rfl, hW, hS, hl, hs⟩ := hz
      dsimp only [wMakeE, wRevT, wOrN, wKeysT, wLendW, wSlQ, gSetN, wLendN, wFzT, sAug, gN, gSet, gT0, gT1, gTup, sFldD, wAnd, wAndV, wAsg, wB, wBM, wBM0, wC, wChain, wCons, wDc, wDnew, wDrop, wEnum, wFld, wFor, wFrz, wFrzD, wFz, wIf, wIfS, wItems, wLc, wLcM, wLst, wLstM, wMake, wMakeM, wMeth, wN, wNever, wNext, wNil, wNoPart, wNot, wNotV, wOp, wOr, wOrV, wPar, wPar3, wPart, wPass, wRet, wRevS, wRng1, wRng2, wSeq, wSl, wTup, wUn, wVar, wYes, wZip, enD, enW, outE, wMethE, wBinE, wRaise0, rdBinO, wFrzDO, wFrzDD, wSlX, wFmt, wJoin, wJs, wItemsL, rdLenO, rdReprO, rdEqO, wNE, wNEN, wRaise, wTry, hcont, wXf, rdIsE, rdIsEV, wFrzO, wFzL, wDnewT, wVals, wItemsD, wEither, wForM, wSlM, wLendE, wLendT, wLendL, wFmtRO, wFmtRD, wBMX, wTupX, wLendD, wOrD, wRev2, wRevI, wFrzTT, wFrzT, wDcT, wDisp1T, wGz, wPrs, wDisp, wDcN, wDnewN]
      refine ⟨_, rfl, _, rfl, ifc (fun hw3 => ⟨_, rfl, _, rfl, ifc (fun hk0 => ?_) (fun _ => hk1 _ ⟨dS, _, _, _, ss, sets, free, M', rfl, hW, hS, hl, hs⟩)⟩) (fun _ => hk1 _ ⟨dS, _, _, _, ss, sets, free, M', rfl, hW, hS, hl, hs⟩)⟩
      refine ⟨_, rfl, _, rfl, _, rfl, (i : Int), rfl, by omega, by omega, fun v hv0 hv1 => ?_⟩
      have hv2 : v.toNat < (sets.map fun s => D.lst (sts s)).length := by rw [List.length_map, hW.len]; omega
      have hv3 : v.toNat < sets.length := by rw [hW.len]; omega
      have a : atI (sets.map fun s => D.lst (sts s)) v = some (.lst (sts sets[v.toNat])) := by rw [atI_at hv0 hv2]; simp
      have hs' := hW.sub _ (List.getElem_mem hv3)
      refine ix_l (lkL hW.h1) a ⟨_, rfl, fun _ => ⟨by rw [len_sts]; exact line_le (by omega), lcGo_sub _ (fun x acc k hy hn => ?_) (fun s2 hs2 p hp => ?_)⟩⟩
      · dsimp only [wMakeE, wRevT, wOrN, wKeysT, wLendW, wSlQ, gSetN, wLendN, wFzT, sAug, gN, gSet, gT0, gT1, gTup, sFldD, wAnd, wAndV, wAsg, wB, wBM, wBM0, wC, wChain, wCons, wDc, wDnew, wDrop, wEnum, wFld, wFor, wFrz, wFrzD, wFz, wIf, wIfS, wItems, wLc, wLcM, wLst, wLstM, wMake, wMakeM, wMeth, wN, wNever, wNext, wNil, wNoPart, wNot, wNotV, wOp, wOr, wOrV, wPar, wPar3, wPart, wPass, wRet, wRevS, wRng1, wRng2, wSeq, wSl, wTup, wUn, wVar, wYes, wZip, enD, enW, outE, wMethE, wBinE, wRaise0, rdBinO, wFrzDO, wFrzDD, wSlX, wFmt, wJoin, wJs, wItemsL, rdLenO, rdReprO, rdEqO, wNE, wNEN, wRaise, wTry, hcont, wXf, rdIsE, rdIsEV, wFrzO, wFzL, wDnewT, wVals, wItemsD, wEither, wForM, wSlM, wLendE, wLendT, wLendL, wFmtRO, wFmtRD, wBMX, wTupX, wLendD, wOrD, wRev2, wRevI, wFrzTT, wFrzT, wDcT, wDisp1T, wGz, wPrs, wDisp, wDcN, wDnewN]
        exact ⟨_, rfl, 3, rfl, by decide, by decide, fun v _ _ => ⟨_, rfl, ifc (fun _ => ⟨_, rfl, hy⟩) (fun _ => hn)⟩⟩
      have l2 := hs2.length_le
      refine ⟨_, rfl, len_l (lkL (at_put hW.h2 hp)) ⟨_, rfl, 3, rfl, by decide, by decide, fun t ht0 ht1 => ?_⟩⟩
      have hm : 0 ≤ (if t < (sts free).length then t else ((sts free).length : Int)) ∧ (if t < (sts free).length then t else ((sts free).length : Int)) ≤ 2 ∧ (if t < (sts free).length then t else ((sts free).length : Int)) ≤ free.length := by
        rw [len_sts]
        split <;> omega
      refine ⟨_, rfl, by omega, by omega, ?_⟩
      refine wLoop_rng _ (fun j z => ∃ d11 s3 fr M', z = ⟨[some .bag, some (.int n), some (.lst (sts ns)), some (.lst (sts L)), some (.int way), some (.int (1 + u)), some (.ref p1), some (.ref p2), some (.int i), some (.ref p), e10, d11, e12], M'⟩ ∧
        WebAt M p1 p2 L i sets fr M' ∧ M' p = some (.lst (sts s3)) ∧ s3.length ≤ 4 + 2 * i + j ∧ (∀ c ∈ s3, c ∈ L) ∧ fr.length + j = free.length) (fun j hj k z hI hk => ?_) (fun z hI => ?_) _ ?_
      · obtain ⟨d11, s3, fr, M2, rfl, hW2, hp2, b1, b2, b3⟩ := hI
        have hne : fr ≠ [] := fun e => by subst e; simp at b3; omega
        have n1 : p ≠ p1 := Ne.symm (ne_free hW.h1 hp)
        have n2 : p ≠ p2 := Ne.symm (ne_free hW.h2 hp)
        dsimp only [wMakeE, wRevT, wOrN, wKeysT, wLendW, wSlQ, gSetN, wLendN, wFzT, sAug, gN, gSet, gT0, gT1, gTup, sFldD, wAnd, wAndV, wAsg, wB, wBM, wBM0, wC, wChain, wCons, wDc, wDnew, wDrop, wEnum, wFld, wFor, wFrz, wFrzD, wFz, wIf, wIfS, wItems, wLc, wLcM, wLst, wLstM, wMake, wMakeM, wMeth, wN, wNever, wNext, wNil, wNoPart, wNot, wNotV, wOp, wOr, wOrV, wPar, wPar3, wPart, wPass, wRet, wRevS, wRng1, wRng2, wSeq, wSl, wTup, wUn, wVar, wYes, wZip, enD, enW, outE, wMethE, wBinE, wRaise0, rdBinO, wFrzDO, wFrzDD, wSlX, wFmt, wJoin, wJs, wItemsL, rdLenO, rdReprO, rdEqO, wNE, wNEN, wRaise, wTry, hcont, wXf, rdIsE, rdIsEV, wFrzO, wFzL, wDnewT, wVals, wItemsD, wEither, wForM, wSlM, wLendE, wLendT, wLendL, wFmtRO, wFmtRD, wBMX, wTupX, wLendD, wOrD, wRev2, wRevI, wFrzTT, wFrzT, wDcT, wDisp1T, wGz, wPrs, wDisp, wDcN, wDnewN]
        refine ⟨_, rfl, ty_l (lkL hp2), _, rfl, ty_l (lkL hW2.h2), p2, _, _, _, rfl, hW2.h2, pop_sts hne, by rw [len_sts, List.length_dropLast]; exact line_le (by have := hW2.fr.1; omega), p, _, _, _, rfl, (by rw [mupd_ne n2]; exact hp2), rfl, by simp [len_sts]; exact line_le (by omega), ?_⟩
        refine hk _ ⟨_, s3 ++ [fr.getLast hne], fr.dropLast, _, rfl, ?_, by rw [mupd_same, ← sts_app]; rfl, by simp; omega, fun c hc => ?_, by simp; have := List.length_pos_iff.mpr hne; omega⟩
        · exact ⟨hW2.ne, hW2.f1, hW2.f2, by rw [mupd_ne (Ne.symm n1), mupd_ne hW2.ne]; exact hW2.h1, by rw [mupd_ne (Ne.symm n2), mupd_same], (hW2.le.put hW2.f2).put (hW.le.free hp), hW2.len, hW2.sub, by simp; have := hW2.fr.1; omega, fun c hc => hW2.fr.2 c (List.dropLast_subset _ hc)⟩
        · rcases List.mem_append.mp hc with h | h
          · exact b2 c h
          · rw [List.mem_singleton.mp h]; exact hW2.fr.2 _ (List.getLast_mem hne)
      · obtain ⟨d11, s3, fr, M2, rfl, hW2, hp2, b1, b2, b3⟩ := hI
        exact hk1 _ ⟨_, _, _, _, s3, sets, fr, _, rfl, hW2, .inl ⟨p, rfl, hp2, Ne.symm (ne_free hW.h1 hp), Ne.symm (ne_free hW.h2 hp), hW.le.free hp⟩, by omega, b2⟩
      · exact ⟨_, s2, free, _, rfl, hW.new hp _, mupd_same, by omega, fun c hc => hs'.2 c (hs2.subset hc), rfl⟩
    refine seq_cut (WebB M p1 p2 n ns L way (1 + u) i) (fun k1 hk1 => ?_) (fun z hz => ?_)
    · obtain ⟨dS, e10, e11, e12, ss, sets, free, M', rfl, hW, hS, hl, hs⟩ := hz
      dsimp only [wMakeE, wRevT, wOrN, wKeysT, wLendW, wSlQ, gSetN, wLendN, wFzT, sAug, gN, gSet, gT0, gT1, gTup, sFldD, wAnd, wAndV, wAsg, wB, wBM, wBM0, wC, wChain, wCons, wDc, wDnew, wDrop, wEnum, wFld, wFor, wFrz, wFrzD, wFz, wIf, wIfS, wItems, wLc, wLcM, wLst, wLstM, wMake, wMakeM, wMeth, wN, wNever, wNext, wNil, wNoPart, wNot, wNotV, wOp, wOr, wOrV, wPar, wPar3, wPart, wPass, wRet, wRevS, wRng1, wRng2, wSeq, wSl, wTup, wUn, wVar, wYes, wZip, enD, enW, outE, wMethE, wBinE, wRaise0, rdBinO, wFrzDO, wFrzDD, wSlX, wFmt, wJoin, wJs, wItemsL, rdLenO, rdReprO, rdEqO, wNE, wNEN, wRaise, wTry, hcont, wXf, rdIsE, rdIsEV, wFrzO, wFzL, wDnewT, wVals, wItemsD, wEither, wForM, wSlM, wLendE, wLendT, wLendL, wFmtRO, wFmtRD, wBMX, wTupX, wLendD, wOrD, wRev2, wRevI, wFrzTT, wFrzT, wDcT, wDisp1T, wGz, wPrs, wDisp, wDcN, wDnewN]
      refine ⟨_, rfl, _, rfl, ifd (fun hw3 => ?_) (fun _ => hk1 _ ⟨dS, _, _, _, ss, sets, free, M', rfl, hW, hS, hl, hs⟩)⟩
      obtain ⟨c1, a1, m1⟩ := sts_at (ss := L) (v := (i : Int)) (by omega) (by omega)
      obtain ⟨c2, a2, m2⟩ := sts_at (ss := L) (v := ((i : Int) + 1) % (1 + u)) (Int.emod_nonneg _ (by omega)) (by have := Int.emod_lt_of_pos ((i : Int) + 1) (show 0 < 1 + u by omega); omega)
      refine ⟨_, rfl, _, rfl, _, _, rfl, a1, _, rfl, _, rfl, _, rfl, (show 0 < 1 + u by omega), _, _, rfl, a2, by show 2 ≤ sizeLine; decide, fun p hp => ?_⟩
      refine hk1 _ ⟨_, _, _, _, [c1, c2], sets, free, _, rfl, hW.new hp _, hW.some (ss := [c1, c2]) hp, by simp; omega, fun c hc => ?_⟩
      simp only [List.mem_cons, List.not_mem_nil, or_false] at hc
      rcases hc with rfl | rfl
      · exact m1
      · exact m2
    refine seq_cut (WebB M p1 p2 n ns L way (1 + u) i) (fun k1 hk1 => ?_) (fun z hz => ?_)
    · obtain ⟨dS, e10, e11, e12, ss, sets, free, M', rfl, hW, hS, hl, hs⟩ := hz
      dsimp only [wMakeE, wRevT, wOrN, wKeysT, wLendW, wSlQ, gSetN, wLendN, wFzT, sAug, gN, gSet, gT0, gT1, gTup, sFldD, wAnd, wAndV, wAsg, wB, wBM, wBM0, wC, wChain, wCons, wDc, wDnew, wDrop, wEnum, wFld, wFor, wFrz, wFrzD, wFz, wIf, wIfS, wItems, wLc, wLcM, wLst, wLstM, wMake, wMakeM, wMeth, wN, wNever, wNext, wNil, wNoPart, wNot, wNotV, wOp, wOr, wOrV, wPar, wPar3, wPart, wPass, wRet, wRevS, wRng1, wRng2, wSeq, wSl, wTup, wUn, wVar, wYes, wZip, enD, enW, outE, wMethE, wBinE, wRaise0, rdBinO, wFrzDO, wFrzDD, wSlX, wFmt, wJoin, wJs, wItemsL, rdLenO, rdReprO, rdEqO, wNE, wNEN, wRaise, wTry, hcont, wXf, rdIsE, rdIsEV, wFrzO, wFzL, wDnewT, wVals, wItemsD, wEither, wForM, wSlM, wLendE, wLendT, wLendL, wFmtRO, wFmtRD, wBMX, wTupX, wLendD, wOrD, wRev2, wRevI, wFrzTT, wFrzT, wDcT, wDisp1T, wGz, wPrs, wDisp, wDcN, wDnewN]
      refine ⟨_, rfl, _, rfl, ifd (fun hw3 => ?_) (fun _ => hk1 _ ⟨dS, _, _, _, ss, sets, free, M', rfl, hW, hS, hl, hs⟩)⟩
      refine ⟨_, rfl, _, rfl, by omega, by omega, rng_len (by omega), ?_⟩
      refine lcGo_ind (fun rest acc M'' => M'' = M' ∧ ∃ ss, acc = sts ss ∧ ss.length + rest.length ≤ 6 ∧ (∀ c ∈ ss, c ∈ L) ∧ ∀ d ∈ rest, ∃ j : Nat, d = .int j ∧ j < 8) ?_ ?_ _ _ _ ⟨rfl, [], rfl, by simp; omega, (fun c hc => (nomatch hc)), fun d hd => ?_⟩
      · rintro d rest acc M'' k ⟨rfl, s2, rfl, l2, b2, b3⟩ hk
        obtain ⟨j, rfl, hj⟩ := b3 d List.mem_cons_self
        obtain ⟨c1, a1, m1⟩ := sts_at (ss := L) (v := (j : Int)) (by omega) (by omega)
        dsimp only [wMakeE, wRevT, wOrN, wKeysT, wLendW, wSlQ, gSetN, wLendN, wFzT, sAug, gN, gSet, gT0, gT1, gTup, sFldD, wAnd, wAndV, wAsg, wB, wBM, wBM0, wC, wChain, wCons, wDc, wDnew, wDrop, wEnum, wFld, wFor, wFrz, wFrzD, wFz, wIf, wIfS, wItems, wLc, wLcM, wLst, wLstM, wMake, wMakeM, wMeth, wN, wNever, wNext, wNil, wNoPart, wNot, wNotV, wOp, wOr, wOrV, wPar, wPar3, wPart, wPass, wRet, wRevS, wRng1, wRng2, wSeq, wSl, wTup, wUn, wVar, wYes, wZip, enD, enW, outE, wMethE, wBinE, wRaise0, rdBinO, wFrzDO, wFrzDD, wSlX, wFmt, wJoin, wJs, wItemsL, rdLenO, rdReprO, rdEqO, wNE, wNEN, wRaise, wTry, hcont, wXf, rdIsE, rdIsEV, wFrzO, wFzL, wDnewT, wVals, wItemsD, wEither, wForM, wSlM, wLendE, wLendT, wLendL, wFmtRO, wFmtRD, wBMX, wTupX, wLendD, wOrD, wRev2, wRevI, wFrzTT, wFrzT, wDcT, wDisp1T, wGz, wPrs, wDisp, wDcN, wDnewN]
        refine ⟨_, rfl, _, rfl, _, rfl, ifn (fun _ => ⟨_, rfl, _, rfl, _, _, rfl, a1, hk _ _ ⟨rfl, s2 ++ [c1], by rw [← sts_app]; rfl, by simp at l2 ⊢; omega, fun c hc => ?_, fun d hd => b3 d (List.mem_cons_of_mem _ hd)⟩⟩) (fun _ => hk _ _ ⟨rfl, s2, rfl, by simp at l2; omega, b2, fun d hd => b3 d (List.mem_cons_of_mem _ hd)⟩)⟩
        rcases List.mem_append.mp hc with h | h
        · exact b2 c h
        · rw [List.mem_singleton.mp h]; exact m1
      · rintro acc M'' ⟨rfl, s2, rfl, l2, b2, b3⟩ p hp
        exact hk1 _ ⟨_, _, _, _, s2, sets, free, _, rfl, hW.new hp _, hW.some hp, by simp at l2; omega, b2⟩
      · obtain ⟨j, hj, rfl⟩ := List.mem_map.mp hd
        exact ⟨j, rfl, by have := List.mem_range.mp hj; omega⟩
    refine seq_cut (WebB M p1 p2 n ns L way (1 + u) i) (fun k1 hk1 => ?_) (fun z hz => ?_)
    · obtain ⟨dS, e10, e11, e12, ss, sets, free, M', rfl, hW, hS, hl, hs⟩ := hz
      dsimp only [wMakeE, wRevT, wOrN, wKeysT, wLendW, wSlQ, gSetN, wLendN, wFzT, sAug, gN, gSet, gT0, gT1, gTup, sFldD, wAnd, wAndV, wAsg, wB, wBM, wBM0, wC, wChain, wCons, wDc, wDnew, wDrop, wEnum, wFld, wFor, wFrz, wFrzD, wFz, wIf, wIfS, wItems, wLc, wLcM, wLst, wLstM, wMake, wMakeM, wMeth, wN, wNever, wNext, wNil, wNoPart, wNot, wNotV, wOp, wOr, wOrV, wPar, wPar3, wPart, wPass, wRet, wRevS, wRng1, wRng2, wSeq, wSl, wTup, wUn, wVar, wYes, wZip, enD, enW, outE, wMethE, wBinE, wRaise0, rdBinO, wFrzDO, wFrzDD, wSlX, wFmt, wJoin, wJs, wItemsL, rdLenO, rdReprO, rdEqO, wNE, wNEN, wRaise, wTry, hcont, wXf, rdIsE, rdIsEV, wFrzO, wFzL, wDnewT, wVals, wItemsD, wEither, wForM, wSlM, wLendE, wLendT, wLendL, wFmtRO, wFmtRD, wBMX, wTupX, wLendD, wOrD, wRev2, wRevI, wFrzTT, wFrzT, wDcT, wDisp1T, wGz, wPrs, wDisp, wDcN, wDnewN]
      refine ⟨_, rfl, _, rfl, ifd (fun hw3 => ⟨_, rfl, _, rfl, ?_⟩) (fun _ => hk1 _ ⟨dS, _, _, _, ss, sets, free, M', rfl, hW, hS, hl, hs⟩)⟩
      unfold rdSl
      rw [hS.look]
      show k1 _
      rw [cutD_to (by decide), sts_take]
      exact hk1 _ ⟨_, _, _, _, ss.take (1 : Int).toNat, sets, free, _, rfl, hW, .inr rfl, by simp; omega, fun c hc => hs c (List.mem_of_mem_take hc)⟩
    · obtain ⟨dS, e10, e11, e12, ss, sets, free, M', rfl, hW, hS, hl, hs⟩ := hz
      have hW' : ∀ M'', M'' p1 = some (.lst (sets.map fun s => .lst (sts s))) → M'' p2 = some (.lst (sts free)) → Mle M M'' → WebAt M p1 p2 L (i + 1) (sets ++ [ss]) free (mupd M'' p1 (some (.lst ((sets.map fun s => D.lst (sts s)) ++ [.lst (sts ss)])))) := fun M'' a b c =>
        ⟨hW.ne, hW.f1, hW.f2, by rw [mupd_same]; simp, by rw [mupd_ne (Ne.symm hW.ne)]; exact b, c.put hW.f1, by simp [hW.len], fun s hs' => by
          rcases List.mem_append.mp hs' with h | h
          · exact ⟨by have := (hW.sub s h).1; omega, (hW.sub s h).2⟩
          · rw [List.mem_singleton.mp h]; exact ⟨by omega, hs⟩, hW.fr⟩
      have hlen : (sets.map fun s => D.lst (sts s)).length = i := by simp [hW.len]
      dsimp only [wMakeE, wRevT, wOrN, wKeysT, wLendW, wSlQ, gSetN, wLendN, wFzT, sAug, gN, gSet, gT0, gT1, gTup, sFldD, wAnd, wAndV, wAsg, wB, wBM, wBM0, wC, wChain, wCons, wDc, wDnew, wDrop, wEnum, wFld, wFor, wFrz, wFrzD, wFz, wIf, wIfS, wItems, wLc, wLcM, wLst, wLstM, wMake, wMakeM, wMeth, wN, wNever, wNext, wNil, wNoPart, wNot, wNotV, wOp, wOr, wOrV, wPar, wPar3, wPart, wPass, wRet, wRevS, wRng1, wRng2, wSeq, wSl, wTup, wUn, wVar, wYes, wZip, enD, enW, outE, wMethE, wBinE, wRaise0, rdBinO, wFrzDO, wFrzDD, wSlX, wFmt, wJoin, wJs, wItemsL, rdLenO, rdReprO, rdEqO, wNE, wNEN, wRaise, wTry, hcont, wXf, rdIsE, rdIsEV, wFrzO, wFzL, wDnewT, wVals, wItemsD, wEither, wForM, wSlM, wLendE, wLendT, wLendL, wFmtRO, wFmtRD, wBMX, wTupX, wLendD, wOrD, wRev2, wRevI, wFrzTT, wFrzT, wDcT, wDisp1T, wGz, wPrs, wDisp, wDcN, wDnewN]
      refine ⟨_, rfl, ty_l (lkL hW.h1), ?_⟩
      rcases hS with ⟨p, rfl, hp, n1, n2, hMp⟩ | rfl
      · have b1 : mupd M' p none p1 = some (.lst (sets.map fun s => .lst (sts s))) := by rw [mupd_ne (Ne.symm n1)]; exact hW.h1
        have b2 : mupd M' p none p2 = some (.lst (sts free)) := by rw [mupd_ne (Ne.symm n2)]; exact hW.h2
        refine .inl ⟨p, _, rfl, hp, p1, _, _, _, rfl, b1, rfl, by simp [hlen]; exact line_le (by omega), ?_⟩
        exact hk _ ⟨_, _, _, _, _, _, free, _, rfl, hW' _ b1 b2 (hW.le.put hMp)⟩
      · refine .inr ⟨_, rfl, p1, _, _, _, rfl, hW.h1, rfl, by simp [hlen]; exact line_le (by omega), ?_⟩
        exact hk _ ⟨_, _, _, _, _, _, free, _, rfl, hW' _ hW.h1 hW.h2 hW.le⟩
  · obtain ⟨d8, d9, d10, d11, d12, sets, free, M', rfl, hW⟩ := hI
    dsimp only [wMakeE, wRevT, wOrN, wKeysT, wLendW, wSlQ, gSetN, wLendN, wFzT, sAug, gN, gSet, gT0, gT1, gTup, sFldD, wAnd, wAndV, wAsg, wB, wBM, wBM0, wC, wChain, wCons, wDc, wDnew, wDrop, wEnum, wFld, wFor, wFrz, wFrzD, wFz, wIf, wIfS, wItems, wLc, wLcM, wLst, wLstM, wMake, wMakeM, wMeth, wN, wNever, wNext, wNil, wNoPart, wNot, wNotV, wOp, wOr, wOrV, wPar, wPar3, wPart, wPass, wRet, wRevS, wRng1, wRng2, wSeq, wSl, wTup, wUn, wVar, wYes, wZip, enD, enW, outE, wMethE, wBinE, wRaise0, rdBinO, wFrzDO, wFrzDD, wSlX, wFmt, wJoin, wJs, wItemsL, rdLenO, rdReprO, rdEqO, wNE, wNEN, wRaise, wTry, hcont, wXf, rdIsE, rdIsEV, wFrzO, wFzL, wDnewT, wVals, wItemsD, wEither, wForM, wSlM, wLendE, wLendT, wLendL, wFmtRO, wFmtRD, wBMX, wTupX, wLendD, wOrD, wRev2, wRevI, wFrzTT, wFrzT, wDcT, wDisp1T, wGz, wPrs, wDisp, wDcN, wDnewN]
    have hz := zipD_sts ns sets
    have hlen : (zipD (sts ns) (sets.map fun s => D.lst (sts s))).length ≤ sizeLine := by
      rw [hz]; simp; exact line_le (by omega)
    refine ⟨_, rfl, .inl ⟨p1, _, rfl, hW.h1, _, _, .inl rfl, hlen, ?_⟩⟩
    refine lcGo_all tidy _ (fun x acc k hx hk => ?_) ?_
    · rw [hz] at hx
      obtain ⟨r, hr, rfl⟩ := List.mem_map.mp hx
      have hr2 := (hW.sub _ (List.of_mem_zip hr).2).1
      rw [tidy_at] at hk
      dsimp only [wMakeE, wRevT, wOrN, wKeysT, wLendW, wSlQ, gSetN, wLendN, wFzT, sAug, gN, gSet, gT0, gT1, gTup, sFldD, wAnd, wAndV, wAsg, wB, wBM, wBM0, wC, wChain, wCons, wDc, wDnew, wDrop, wEnum, wFld, wFor, wFrz, wFrzD, wFz, wIf, wIfS, wItems, wLc, wLcM, wLst, wLstM, wMake, wMakeM, wMeth, wN, wNever, wNext, wNil, wNoPart, wNot, wNotV, wOp, wOr, wOrV, wPar, wPar3, wPart, wPass, wRet, wRevS, wRng1, wRng2, wSeq, wSl, wTup, wUn, wVar, wYes, wZip, enD, enW, outE, wMethE, wBinE, wRaise0, rdBinO, wFrzDO, wFrzDD, wSlX, wFmt, wJoin, wJs, wItemsL, rdLenO, rdReprO, rdEqO, wNE, wNEN, wRaise, wTry, hcont, wXf, rdIsE, rdIsEV, wFrzO, wFzL, wDnewT, wVals, wItemsD, wEither, wForM, wSlM, wLendE, wLendT, wLendL, wFmtRO, wFmtRD, wBMX, wTupX, wLendD, wOrD, wRev2, wRevI, wFrzTT, wFrzT, wDcT, wDisp1T, wGz, wPrs, wDisp, wDcN, wDnewN]
      refine ⟨_, rfl, rfl, _, _, rfl, _, _, rfl, rfl, _, rfl, _, rfl, ?_⟩
      exact ⟨r.2, strsD_sts _, by omega, _, rfl, by show 2 ≤ sizeLine; decide, hk⟩
    · rw [hz, List.map_map]
      have e1 : (ns.zip sets).map (tidy ∘ fun p => D.tup [.str p.1, .lst (sts p.2)]) = (((ns.zip sets).map fun p => (p.1, sset p.2)) : Wb).map fun p => .tup [.str p.1, .tup (sts p.2)] := by
        rw [List.map_map]
        exact List.map_congr_left fun p _ => tidy_at p.1 p.2
      have hok : WebOk ((ns.zip sets).map fun p => (p.1, sset p.2)) := web_made hnok hL hLok fun s hs => (hW.sub s hs).2
      rw [e1]
      refine ⟨_, rfl, _, pairs_web _, fun p hp => ?_⟩
      rw [mergeD_new (by rw [List.nil_append]; exact webD_nodup hok.nm.nd), List.nil_append]
      have hl : List.length ((ns.zip sets).map fun p => (p.1, sset p.2)) = min 6 (1 + u).toNat := by rw [List.length_map, List.length_zip, hns, hW.len]
      exact ⟨p, _, rfl, mupd_same, M, ((((hW.le.put hW.f1)).put (((hW.le.put hW.f1)).free hp)).put (((hW.le.put hW.f1)).free hp)), q _ hok (by rw [hl]; omega) (by rw [hl]; omega)⟩
end
end Q
set_option Elab.async false
set_option linter.all false
set_option maxRecDepth 100000
set_option maxHeartbeats 4000000
namespace Q
open PySem PySem.Spec PyProof.Rows L2 My
section
variable {P : Program} {w : World} {K : PySem.W.Frag} {mg : Str → Option Value} {base : Heap}
theorem ok_law (W : Wd P w K mg base) : FnG P w K mg base CX0 6 W.f_law W.d_law ["_law_script"] (spLaw K) := by
  refine lawfn (k := 5) (N' := ["_law_turn", "_law_web_here", "_law_rows", "_law_name", "_law_k", "_law_at", "_law_more", "_law_thing", "_law_shown", "_law_due_here", "_law_again"]) W.e_law.F sc_law rfl (fun cdv A outer s H E hr hg => ps_set (i := 1) sc_law.nd rfl (.inr rfl) (pe_callG (ok_l_bag W) (hr.mono (by decide)) hg (by rfl) W.e_l_bag.mg W.e_l_bag.F.kp W.e_l_bag.bd .nil pass0 (pa_cons (pv 0) pa_nil)))
    (fun cdv A outer s H E g0 hr hg => (qss_cons (qs_for PassesOwn.never rfl (qi_range1 W.t_range (qa_cons qe_int qa_nil)) (qg_name (i := 2) sc_law.nd) (qss_cons (qs_set (i := 3) sc_law.nd (qe_call (ok_l_web W) mo_l_web (hr.mono (by decide)) hg W.e_l_web.mg W.e_l_web.F.kp W.e_l_web.bd (qa_cons (qv 1) (qa_cons qe_int qa_nil)))) (qss_cons (qs_setLcM (i := 4) rfl sc_law.nd (qi_any (qe_call (ok_l_mixed W) mo_l_mixed60 (hr.mono (by decide)) hg W.e_l_mixed.mg W.e_l_mixed.F.kp W.e_l_mixed.bd (qa_cons (qv 1) (qa_cons (qB (d_sorted rfl) W.t_sorted (qa_cons (qv 3) qa_nil)) qa_nil)))) (blkOk_by (own := [("_law_name", 5)]) (N := N_law) (sc := defScope st_law) (by decide +kernel)) (fun _ _ _ _ _ => qgo_name (i := 5) sc_law.nd) (fun _ _ _ _ _ _ => qts_nil) (fun _ _ _ _ _ _ => (qe_tup (qa_cons (qv 5) (qa_cons (qix (d_ix (room1 hr)) (qe_lst (qa_cons (qT (d_list rfl) W.t_list (qa_cons (qix (d_ix (room1 hr)) (qv 3) (qv 5)) qa_nil)) (qa_cons (qix (d_ix (room1 hr)) (qv 3) (qv 5)) qa_nil))) (qe_call (ok_l_take W) mo_l_take (hr.mono (by decide)) hg W.e_l_take.mg W.e_l_take.F.kp W.e_l_take.bd (qa_cons (qv 1) (qa_cons qe_int qa_nil)))) qa_nil))))) (qss_cons (qs_for PassesOwn.never rfl (qi_range1 W.t_range (qa_cons (qe_call (ok_l_take W) mo_l_take (hr.mono (by decide)) hg W.e_l_take.mg W.e_l_take.F.kp W.e_l_take.bd (qa_cons (qv 1) (qa_cons qe_int qa_nil))) qa_nil)) (qg_name (i := 6) sc_law.nd) (qss_cons (qs_set (i := 7) sc_law.nd (qe_call (ok_l_take W) mo_l_take (hr.mono (by decide)) hg W.e_l_take.mg W.e_l_take.F.kp W.e_l_take.bd (qa_cons (qv 1) (qa_cons (qB d_len W.t_len (qa_cons (qv 4) qa_nil)) qa_nil)))) (qss_one (qs_if (QW.qt (qw_and (qt_val (qB d_isi W.t_isinstance (qa_cons (qix (d_ix (room1 hr)) (qv 4) (qv 7)) (qa_cons (qe_ty (n := "tuple") W.t_tuple) qa_nil)))) (qw_and (qct (d_eq (room64 hr)) (qB d_len W.t_len (qa_cons (qix (d_ix (room1 hr)) (qv 4) (qv 7)) qa_nil)) qe_int) (qw_and1 (qt_val (qB d_isi W.t_isinstance (qa_cons (qix (d_ix (room1 hr)) (qix (d_ix (room1 hr)) (qv 4) (qv 7)) qe_int) (qa_cons (qe_tup (qa_cons (qe_ty (n := "list") W.t_list) (qa_cons (qe_ty (n := "tuple") W.t_tuple) qa_nil))) qa_nil)))))))) (qss_one (qs_asg (qe_call (ok_l_bent_table W) mo_l_bent_table (hr.mono (by decide)) hg W.e_l_bent_table.mg W.e_l_bent_table.F.kp W.e_l_bent_table.bd (qa_cons (qv 1) (qa_cons (qix (d_ix (room1 hr)) (qv 4) (qv 7)) (qa_cons (qB (d_sorted rfl) W.t_sorted (qa_cons (qv 3) qa_nil)) qa_nil)))) (qg_sub (room1 hr) (qv 4) (qv 7)))) qss_nil)))) (qss_cons (qs_set (i := 8) sc_law.nd (qix (d_ix (room1 hr)) (qe_lst (qa_cons (qv_frzO 4) (qa_cons (qv_frzO 4) (qa_cons (q2 d_add (qv 4) (qv 4)) (qa_cons (qsl (qv 4) qo_none (qo_some qe_int)) (qa_cons (q2 d_mul (qsl (qv 4) qo_none (qo_some qe_int)) qe_int) (qa_cons (qe_lst (qa_cons (qv_frzO 4) qa_nil)) (qa_cons (qe_call (ok_l_odd W) mo_l_odd13 (hr.mono (by decide)) hg W.e_l_odd.mg W.e_l_odd.F.kp W.e_l_odd.bd (qa_cons (qv 1) qa_nil)) qa_nil)))))))) (qe_call (ok_l_take W) mo_l_take (hr.mono (by decide)) hg W.e_l_take.mg W.e_l_take.F.kp W.e_l_take.bd (qa_cons (qv 1) (qa_cons qe_int qa_nil))))) (qss_cons (qs_set (i := 9) sc_law.nd (qe_if (qt_val (qB d_isi W.t_isinstance (qa_cons (qv 8) (qa_cons (qe_ty (n := "list") W.t_list) qa_nil)))) (qix (d_ix (room1 hr)) (qe_lst (qa_cons (qv 8) (qa_cons (qT d_tuple W.t_tuple (qa_cons (qv 8) qa_nil)) qa_nil))) (qe_call (ok_l_take W) mo_l_take (hr.mono (by decide)) hg W.e_l_take.mg W.e_l_take.F.kp W.e_l_take.bd (qa_cons (qv 1) (qa_cons qe_int qa_nil)))) (qv 8))) (qss_cons (qs_par (i := 10) (j := 11) rfl sc_law.nd (qa_cons (qB (d_repr hg (room200 hr) W.sy) W.t_repr (qa_cons (qv 9) qa_nil)) (qa_cons (qe_call (ok_l_due W) mo_l_due13 (hr.mono (by decide)) hg W.e_l_due.mg W.e_l_due.F.kp W.e_l_due.bd (qa_cons (qv 9) qa_nil)) qa_nil))) (qss_one (qs_for PassesOwn.never rfl (qi_range1 W.t_range (qa_cons qe_int qa_nil)) (qg_name (i := 12) sc_law.nd) (qss_one (qs_if (QW.qt (qw_or (qt_not (qt_val (qe_call (ok_l_alike W) mo_l_alikeE (hr.mono (by decide)) hg W.e_l_alike.mg W.e_l_alike.F.kp W.e_l_alike.bd (qa_cons (qe_call (ok_l_told W) mo_l_told13 (hr.mono (by decide)) hg W.e_l_told.mg W.e_l_told.F.kp W.e_l_told.bd (qa_cons (qv 9) qa_nil)) (qa_cons (qv 11) qa_nil))))) (qw_or1 (qct (d_ne (room64 hr)) (qB (d_repr hg (room200 hr) W.sy) W.t_repr (qa_cons (qv 9) qa_nil)) (qv 10))))) (qss_one (qs_ret qe_bl)) qss_nil))))))))))) (qss_one (qs_ret qe_bl)))) ?_
  dsimp only [wMakeE, wRevT, wOrN, wKeysT, wLendW, wSlQ, gSetN, wLendN, wFzT, sAug, gN, gSet, gT0, gT1, gTup, sFldD, wAnd, wAndV, wAsg, wB, wBM, wBM0, wC, wChain, wCons, wDc, wDnew, wDrop, wEnum, wFld, wFor, wFrz, wFrzD, wFz, wIf, wIfS, wItems, wLc, wLcM, wLst, wLstM, wMake, wMakeM, wMeth, wN, wNever, wNext, wNil, wNoPart, wNot, wNotV, wOp, wOr, wOrV, wPar, wPar3, wPart, wPass, wRet, wRevS, wRng1, wRng2, wSeq, wSl, wTup, wUn, wVar, wYes, wZip, enD, enW, outE, wMethE, wBinE, wRaise0, rdBinO, wFrzDO, wFrzDD, wSlX, wFmt, wJoin, wJs, wItemsL, rdLenO, rdReprO, rdEqO, wNE, wNEN, wRaise, wTry, hcont, wXf, rdIsE, rdIsEV, wFrzO, wFzL, wDnewT, wVals, wItemsD, wEither, wForM, wSlM, wLendE, wLendT, wLendL, wFmtRO, wFmtRD, wBMX, wTupX, wLendD, wOrD, wRev2, wRevI, wFrzTT, wFrzT, wDcT, wDisp1T, wGz, wPrs, wDisp, wDcN, wDnewN]
  refine ⟨_, rfl, by decide, by decide, ?_⟩
  refine wLoop_rng _ (fun i z => ∃ (M' : Mp) (d2 d3 d4 d5 d6 d7 d8 d9 d10 d11 d12 : Option D), z = ⟨[none, some .bag, d2, d3, d4, d5, d6, d7, d8, d9, d10, d11, d12], M'⟩) (fun i hi k z hI hk => ?_) (fun z hI => ?_) _ ⟨_, none, none, none, none, none, none, none, none, none, none, none, rfl⟩
  rotate_left
  · obtain ⟨M', d2, d3, d4, d5, d6, d7, d8, d9, d10, d11, d12, rfl⟩ := hI
    exact rfl
  obtain ⟨M', d2, d3, d4, d5, d6, d7, d8, d9, d10, d11, d12, rfl⟩ := hI
  dsimp only [gN]
  refine seq_cut (fun z => ∃ (w' : Wb), (WebOk w' ∧ 1 ≤ w'.length ∧ w'.length ≤ 6) ∧ z = ⟨[none, some .bag, some (.int i), some (.dct (webD w')), d4, d5, d6, d7, d8, d9, d10, d11, d12], M'⟩) (fun k1 hk1 => ?_) (fun z hz1 => ?_)
  · dsimp only [wMakeE, wRevT, wOrN, wKeysT, wLendW, wSlQ, gSetN, wLendN, wFzT, sAug, gN, gSet, gT0, gT1, gTup, sFldD, wAnd, wAndV, wAsg, wB, wBM, wBM0, wC, wChain, wCons, wDc, wDnew, wDrop, wEnum, wFld, wFor, wFrz, wFrzD, wFz, wIf, wIfS, wItems, wLc, wLcM, wLst, wLstM, wMake, wMakeM, wMeth, wN, wNever, wNext, wNil, wNoPart, wNot, wNotV, wOp, wOr, wOrV, wPar, wPar3, wPart, wPass, wRet, wRevS, wRng1, wRng2, wSeq, wSl, wTup, wUn, wVar, wYes, wZip, enD, enW, outE, wMethE, wBinE, wRaise0, rdBinO, wFrzDO, wFrzDD, wSlX, wFmt, wJoin, wJs, wItemsL, rdLenO, rdReprO, rdEqO, wNE, wNEN, wRaise, wTry, hcont, wXf, rdIsE, rdIsEV, wFrzO, wFzL, wDnewT, wVals, wItemsD, wEither, wForM, wSlM, wLendE, wLendT, wLendL, wFmtRO, wFmtRD, wBMX, wTupX, wLendD, wOrD, wRev2, wRevI, wFrzTT, wFrzT, wDcT, wDisp1T, wGz, wPrs, wDisp, wDcN, wDnewN]
    exact ⟨_, rfl, 6, rfl, by decide, by decide, fun w1 ok1 l1 m1 => hk1 _ ⟨w1, ⟨ok1, l1, m1⟩, rfl⟩⟩
  obtain ⟨w', ⟨ok, l1, l6⟩, rfl⟩ := hz1
  have hnl : (w'.map (·.1)).length = w'.length := List.length_map ..
  refine seq_cut (fun z => ∃ p rs d5, M' p = none ∧ (1 ≤ rs.length ∧ rs.length ≤ 6) ∧ (∀ d ∈ rs, It 12 15 100 d) ∧ z = ⟨[none, some .bag, some (.int i), some (.dct (webD w')), some (.ref p), d5, d6, d7, d8, d9, d10, d11, d12], mupd M' p (some (.lst rs))⟩) (fun k1 hk1 => ?_) (fun z hz1 => ?_)
  · dsimp only [wMakeE, wRevT, wOrN, wKeysT, wLendW, wSlQ, gSetN, wLendN, wFzT, sAug, gN, gSet, gT0, gT1, gTup, sFldD, wAnd, wAndV, wAsg, wB, wBM, wBM0, wC, wChain, wCons, wDc, wDnew, wDrop, wEnum, wFld, wFor, wFrz, wFrzD, wFz, wIf, wIfS, wItems, wLc, wLcM, wLst, wLstM, wMake, wMakeM, wMeth, wN, wNever, wNext, wNil, wNoPart, wNot, wNotV, wOp, wOr, wOrV, wPar, wPar3, wPart, wPass, wRet, wRevS, wRng1, wRng2, wSeq, wSl, wTup, wUn, wVar, wYes, wZip, enD, enW, outE, wMethE, wBinE, wRaise0, rdBinO, wFrzDO, wFrzDD, wSlX, wFmt, wJoin, wJs, wItemsL, rdLenO, rdReprO, rdEqO, wNE, wNEN, wRaise, wTry, hcont, wXf, rdIsE, rdIsEV, wFrzO, wFzL, wDnewT, wVals, wItemsD, wEither, wForM, wSlM, wLendE, wLendT, wLendL, wFmtRO, wFmtRD, wBMX, wTupX, wLendD, wOrD, wRev2, wRevI, wFrzTT, wFrzT, wDcT, wDisp1T, wGz, wPrs, wDisp, wDcN, wDnewN]
    refine ⟨_, rfl, _, rfl, _, _, w'.map (·.1), rfl, webD_seq w', strsD_sts _, by omega, _, _, rfl, .inl rfl, by rw [List.length_map, length_ssort]; omega, fun ls' hp => ?_⟩
    obtain ⟨ns, rfl, hns⟩ := perm_sts hp
    have nsl : ns.length = w'.length := by rw [hns.length_eq, length_ssort, hnl]
    have nsm : ∀ n ∈ ns, n ∈ w'.map (·.1) := fun n hn => (ssort_perm _).mem_iff.mp (hns.mem_iff.mp hn)
    refine ⟨_, rfl, fun _ => ⟨by rw [len_sts]; exact line_le (by omega), ?_⟩⟩
    refine lcGo_ind (fun rest acc M2 => M2 = M' ∧ (∃ ns2, rest = sts ns2 ∧ ∀ n ∈ ns2, n ∈ w'.map (·.1)) ∧ acc.length + rest.length = ns.length ∧ ∀ d ∈ acc, It 12 15 100 d) (fun d rest acc M2 k2 hI hk2 => ?_) (fun acc M2 hI => ?_) _ _ _ ⟨rfl, ⟨ns, rfl, nsm⟩, by rw [len_sts, List.length_nil, Nat.zero_add], fun d h => nomatch h⟩
    · obtain ⟨rfl, ⟨ns2, e2, hn2⟩, hl, hacc⟩ := hI
      cases ns2 with
      | nil => cases e2
      | cons n ns2 =>
        cases e2
        have hn := hn2 n List.mem_cons_self
        have hc : Names (colsF w' n) ∧ (colsF w' n).length ≤ 8 := ok.cols_ok hn
        have ev := webD_val (w := w') ok.nm.nd hn
        dsimp only [wMakeE, wRevT, wOrN, wKeysT, wLendW, wSlQ, gSetN, wLendN, wFzT, sAug, gN, gSet, gT0, gT1, gTup, sFldD, wAnd, wAndV, wAsg, wB, wBM, wBM0, wC, wChain, wCons, wDc, wDnew, wDrop, wEnum, wFld, wFor, wFrz, wFrzD, wFz, wIf, wIfS, wItems, wLc, wLcM, wLst, wLstM, wMake, wMakeM, wMeth, wN, wNever, wNext, wNil, wNoPart, wNot, wNotV, wOp, wOr, wOrV, wPar, wPar3, wPart, wPass, wRet, wRevS, wRng1, wRng2, wSeq, wSl, wTup, wUn, wVar, wYes, wZip, enD, enW, outE, wMethE, wBinE, wRaise0, rdBinO, wFrzDO, wFrzDD, wSlX, wFmt, wJoin, wJs, wItemsL, rdLenO, rdReprO, rdEqO, wNE, wNEN, wRaise, wTry, hcont, wXf, rdIsE, rdIsEV, wFrzO, wFzL, wDnewT, wVals, wItemsD, wEither, wForM, wSlM, wLendE, wLendT, wLendL, wFmtRO, wFmtRD, wBMX, wTupX, wLendD, wOrD, wRev2, wRevI, wFrzTT, wFrzT, wDcT, wDisp1T, wGz, wPrs, wDisp, wDcN, wDnewN]
        refine ⟨_, rfl, _, rfl, _, rfl, ix_d rfl rfl ev ⟨_, _, rfl, rfl, _, rfl, _, rfl, ix_d rfl rfl ev ⟨Nat.le_of_ble_eq_true rfl, _, rfl, 2, rfl, by decide, by decide, fun b b0 b1 => ?_⟩⟩⟩
        have itm : ∀ y, (y = .lst (sts (colsF w' n)) ∨ y = .tup (sts (colsF w' n))) → It 12 15 100 (.tup [.str n, y]) := fun y hy => by
          have hcs := Ns.names (j := 12) hc.1.ok
          have hc9 := Nat.mul_le_mul_right 9 hc.2
          refine .pair ((Ns.two (Nl.name (j := 13) (ok.nm.ok n hn)) (m := 72) ?_).tup.up (by omega) (by omega)) fun ds e => ?_
          · rcases hy with rfl | rfl
            · exact hcs.lst.up (Nat.le_refl _) (by omega)
            · exact hcs.tup.up (Nat.le_refl _) (by omega)
          · have := cntN_le (sts (colsF w' n))
            rw [len_sts] at this
            have := hc.2
            rcases hy with rfl | rfl <;> (cases e; omega)
        have fin : ∀ y, (y = .lst (sts (colsF w' n)) ∨ y = .tup (sts (colsF w' n))) → k2 (acc ++ [.tup [.str n, y]]) M2 := fun y hy => hk2 _ _ ⟨rfl, ⟨ns2, rfl, fun m hm => hn2 m (List.mem_cons_of_mem _ hm)⟩, by rw [List.length_append]; rw [List.length_cons] at hl; show acc.length + 1 + _ = _; omega, fun d hd => by
          rcases List.mem_append.mp hd with hd | hd
          · exact hacc d hd
          · rw [List.mem_singleton.mp hd]
            exact itm y hy⟩
        obtain ⟨y, ay, ym⟩ := atI_ex (l := [D.lst (sts (colsF w' n)), D.tup (sts (colsF w' n))]) b0 b1
        refine ix_l rfl ay ⟨Nat.le_of_ble_eq_true rfl, fin y ?_⟩
        simp only [List.mem_cons, List.not_mem_nil, or_false] at ym
        exact ym
    · obtain ⟨rfl, _, hl, hacc⟩ := hI
      rw [List.length_nil] at hl
      intro p hp
      exact hk1 _ ⟨p, acc, _, hp, ⟨by omega, by omega⟩, hacc, rfl⟩
  obtain ⟨p, rs, d5, hp, ⟨r1, r6⟩, hrs, rfl⟩ := hz1
  refine seq_cut (fun z => ∃ rs d5 d6 d7, (1 ≤ rs.length ∧ rs.length ≤ 6) ∧ (∀ d ∈ rs, It 48 19 11000 d) ∧ z = ⟨[none, some .bag, some (.int i), some (.dct (webD w')), some (.ref p), d5, d6, d7, d8, d9, d10, d11, d12], mupd M' p (some (.lst rs))⟩) (fun k1 hk1 => ?_) (fun z hz1 => ?_)
  · dsimp only [wMakeE, wRevT, wOrN, wKeysT, wLendW, wSlQ, gSetN, wLendN, wFzT, sAug, gN, gSet, gT0, gT1, gTup, sFldD, wAnd, wAndV, wAsg, wB, wBM, wBM0, wC, wChain, wCons, wDc, wDnew, wDrop, wEnum, wFld, wFor, wFrz, wFrzD, wFz, wIf, wIfS, wItems, wLc, wLcM, wLst, wLstM, wMake, wMakeM, wMeth, wN, wNever, wNext, wNil, wNoPart, wNot, wNotV, wOp, wOr, wOrV, wPar, wPar3, wPart, wPass, wRet, wRevS, wRng1, wRng2, wSeq, wSl, wTup, wUn, wVar, wYes, wZip, enD, enW, outE, wMethE, wBinE, wRaise0, rdBinO, wFrzDO, wFrzDD, wSlX, wFmt, wJoin, wJs, wItemsL, rdLenO, rdReprO, rdEqO, wNE, wNEN, wRaise, wTry, hcont, wXf, rdIsE, rdIsEV, wFrzO, wFzL, wDnewT, wVals, wItemsD, wEither, wForM, wSlM, wLendE, wLendT, wLendL, wFmtRO, wFmtRD, wBMX, wTupX, wLendD, wOrD, wRev2, wRevI, wFrzTT, wFrzT, wDcT, wDisp1T, wGz, wPrs, wDisp, wDcN, wDnewN]
    refine ⟨_, rfl, 3, rfl, by decide, by decide, fun t ht0 ht1 => ⟨_, rfl, by omega, by omega, ?_⟩⟩
    refine wLoop_rng _ (fun b z => ∃ rs d5 d6 d7, (1 ≤ rs.length ∧ rs.length ≤ 6) ∧ (∀ d ∈ rs, It (12 * 2 ^ b) (15 + 2 * b) (2300 * 2 ^ b - 2200) d) ∧ z = ⟨[none, some .bag, some (.int i), some (.dct (webD w')), some (.ref p), d5, d6, d7, d8, d9, d10, d11, d12], mupd M' p (some (.lst rs))⟩) (fun b hb k2 z hI hk2 => ?_) (fun z hI => ?_) _ ⟨rs, _, _, _, ⟨r1, r6⟩, fun d hd => (hrs d hd).up (by decide) (by decide) (by decide), rfl⟩
    · obtain ⟨rs, d5, d6, d7, ⟨r1, r6⟩, hrs, rfl⟩ := hI
      have hb2 : b < 2 := by omega
      have hsame := fun d hd => (hrs d hd).up (k := 12 * 2 ^ (b + 1)) (i := 15 + 2 * (b + 1)) (m := 2300 * 2 ^ (b + 1) - 2200) (by rw [Nat.pow_succ]; omega) (by omega) (by rw [Nat.pow_succ]; omega)
      dsimp only [wMakeE, wRevT, wOrN, wKeysT, wLendW, wSlQ, gSetN, wLendN, wFzT, sAug, gN, gSet, gT0, gT1, gTup, sFldD, wAnd, wAndV, wAsg, wB, wBM, wBM0, wC, wChain, wCons, wDc, wDnew, wDrop, wEnum, wFld, wFor, wFrz, wFrzD, wFz, wIf, wIfS, wItems, wLc, wLcM, wLst, wLstM, wMake, wMakeM, wMeth, wN, wNever, wNext, wNil, wNoPart, wNot, wNotV, wOp, wOr, wOrV, wPar, wPar3, wPart, wPass, wRet, wRevS, wRng1, wRng2, wSeq, wSl, wTup, wUn, wVar, wYes, wZip, enD, enW, outE, wMethE, wBinE, wRaise0, rdBinO, wFrzDO, wFrzDD, wSlX, wFmt, wJoin, wJs, wItemsL, rdLenO, rdReprO, rdEqO, wNE, wNEN, wRaise, wTry, hcont, wXf, rdIsE, rdIsEV, wFrzO, wFzL, wDnewT, wVals, wItemsD, wEither, wForM, wSlM, wLendE, wLendT, wLendL, wFmtRO, wFmtRD, wBMX, wTupX, wLendD, wOrD, wRev2, wRevI, wFrzTT, wFrzT, wDcT, wDisp1T, wGz, wPrs, wDisp, wDcN, wDnewN]
      refine ⟨_, rfl, _, rfl, len_l lkS ⟨_, rfl, by omega, by omega, fun v v0 v1 => ?_⟩⟩
      obtain ⟨x, ax, xm⟩ := atI_ex (l := rs) v0 v1
      have hx := hrs x xm
      obtain ⟨_, T, hT, _, kT, _⟩ := pr_ty (M := mupd M' p (some (.lst rs))) hx.nl.pl.pr
      have skip : ∀ (d5 d6 d7 : Option D), k2 ⟨[none, some .bag, some (.int i), some (.dct (webD w')), some (.ref p), d5, d6, d7, d8, d9, d10, d11, d12], mupd M' p (some (.lst rs))⟩ := fun d5 d6 d7 => hk2 _ ⟨rs, d5, d6, d7, ⟨r1, r6⟩, hsame, rfl⟩
      refine ⟨_, rfl, _, rfl, ix_l lkS ax ⟨_, T, hT, .inl ⟨_, _, rfl, kT, _, rfl, ifx (fun e => ?_) (fun e => skip _ _ _)⟩⟩⟩
      obtain ⟨xs, rfl⟩ : ∃ xs, x = .tup xs := by
        have hc := hx.nl.nx
        cases x <;> first | exact ⟨_, rfl⟩ | (cases e; done) | (cases hc; done)
      refine ⟨_, rfl, _, rfl, ix_l lkS ax ⟨_, rfl, _, rfl, ifd (fun h => ?_) (fun h => skip _ _ _)⟩⟩
      obtain ⟨u, y, rfl⟩ : ∃ u y, xs = [u, y] := by
        match xs, h with
        | [u, y], _ => exact ⟨u, y, rfl⟩
        | [], h => simp at h
        | [_], h => simp at h
        | _ :: _ :: _ :: _, h => simp at h; omega
      have vy : Nl _ _ y := (hx.nl.of_tup).mem (by simp)
      obtain ⟨Ty, hTy, ky⟩ := pr_ty3 (M := mupd M' p (some (.lst rs))) vy.pl.pr vy.nx
      refine ⟨_, rfl, _, rfl, ix_l lkS ax (ix_t rfl (atI_nat (j := 1) rfl) ⟨Nat.le_of_ble_eq_true rfl, _, Ty, hTy, .inr ⟨_, _, _, rfl, rfl, ky, _, rfl, ifx (fun e => ?_) (fun e => skip _ _ _)⟩⟩)⟩
      obtain ⟨cs, hy⟩ := Option.isSome_iff_exists.mp e
      have b2 : 2 ^ b ≤ 2 := by
        match b, hb2 with
        | 0, _ => decide
        | 1, _ => decide
      have b1 : 1 ≤ 2 ^ b := Nat.one_le_two_pow
      refine ⟨_, rfl, _, rfl, _, rfl, ix_l lkS ax ⟨_, rfl, _, _, w'.map (·.1), rfl, webD_seq w', strsD_sts _, by omega, u, y, cs, ssort (w'.map (·.1)), _, _, _, rfl, hy, hx, ⟨by rw [length_ssort]; omega, by rw [length_ssort]; omega, fun s hs => ok.nm.ok s ((ssort_perm _).mem_iff.mp hs)⟩, by omega, by omega, by omega, fun d' hd' => ?_⟩⟩
      have ej : ixN rs.length v = some v.toNat := by unfold ixN; rw [if_pos v0, if_pos v1]
      refine ⟨_, rfl, _, rfl, p, rfl, ?_⟩
      rw [mupd_same]
      refine ⟨v, v.toNat, rfl, ej, ?_⟩
      rw [mupd_mupd]
      refine hk2 _ ⟨rs.set v.toNat d', _, _, _, ⟨by rw [List.length_set]; omega, by rw [List.length_set]; omega⟩, fun d hd => ?_, rfl⟩
      rcases List.mem_or_eq_of_mem_set hd with hd | rfl
      · exact hsame d hd
      · exact hd'.up (by rw [Nat.pow_succ]; omega) (by omega) (by rw [Nat.pow_succ]; omega)
    · obtain ⟨rs, d5, d6, d7, hl, hrs, rfl⟩ := hI
      refine hk1 _ ⟨rs, d5, d6, d7, hl, fun d hd => ?_, rfl⟩
      have h := hrs d hd
      have ht : t.toNat ≤ 2 := by omega
      generalize t.toNat = m at h ht
      match m, ht, h with
      | 0, _, h => exact h.up (by decide) (by decide) (by decide)
      | 1, _, h => exact h.up (by decide) (by decide) (by decide)
      | 2, _, h => exact h.up (by decide) (by decide) (by decide)
  clear hrs r1 r6 rs d5
  obtain ⟨rs, d5, d6, d7, ⟨r1, r6⟩, hrs, rfl⟩ := hz1
  refine seq_cut (fun z => ∃ more d4, Mo13 25 more ∧ z = ⟨[none, some .bag, some (.int i), some (.dct (webD w')), d4, d5, d6, d7, some more, d9, d10, d11, d12], M'⟩) (fun k1 hk1 => ?_) (fun z hz1 => ?_)
  · dsimp only [wMakeE, wRevT, wOrN, wKeysT, wLendW, wSlQ, gSetN, wLendN, wFzT, sAug, gN, gSet, gT0, gT1, gTup, sFldD, wAnd, wAndV, wAsg, wB, wBM, wBM0, wC, wChain, wCons, wDc, wDnew, wDrop, wEnum, wFld, wFor, wFrz, wFrzD, wFz, wIf, wIfS, wItems, wLc, wLcM, wLst, wLstM, wMake, wMakeM, wMeth, wN, wNever, wNext, wNil, wNoPart, wNot, wNotV, wOp, wOr, wOrV, wPar, wPar3, wPart, wPass, wRet, wRevS, wRng1, wRng2, wSeq, wSl, wTup, wUn, wVar, wYes, wZip, enD, enW, outE, wMethE, wBinE, wRaise0, rdBinO, wFrzDO, wFrzDD, wSlX, wFmt, wJoin, wJs, wItemsL, rdLenO, rdReprO, rdEqO, wNE, wNEN, wRaise, wTry, hcont, wXf, rdIsE, rdIsEV, wFrzO, wFzL, wDnewT, wVals, wItemsD, wEither, wForM, wSlM, wLendE, wLendT, wLendL, wFmtRO, wFmtRD, wBMX, wTupX, wLendD, wOrD, wRev2, wRevI, wFrzTT, wFrzT, wDcT, wDisp1T, wGz, wPrs, wDisp, wDcN, wDnewN]
    have cf : ∀ d ∈ rs, Cfew d := fun d hd => (hrs d hd).cfew (by decide)
    have nf : ∀ L : List D, (∀ d ∈ L, d ∈ rs) → L.length ≤ 12 → Mo13 25 (.lst L) := fun L h k => Mo13.lst (Ns.few (fun d hd => (hrs d (h d hd)).nl) k) (by decide) (by decide) fun d hd => cf d (h d hd)
    refine .inl ⟨p, rs, rfl, mupd_same, ?_⟩
    rw [mupd_back hp]
    refine .inr ⟨_, rfl, _, rfl, _, rfl, line_le (by omega), _, rfl, _, rfl, sl_r rfl ⟨_, rfl, _, rfl, sl_r rfl ?_⟩⟩
    have e1 : cutD rs none (some 1) = rs.take 1 := cutD_to (by decide)
    have e0 : cutD rs none (some 0) = [] := cutD_to (by decide)
    rw [e0, e1]
    have l1 : (rs.take 1).length ≤ 1 := by rw [List.length_take]; omega
    have lf : (List.replicate 7 (rs.take 1)).flatten.length ≤ 7 := by
      rw [List.length_flatten, List.map_replicate]
      generalize (rs.take 1).length = m at l1
      match m, l1 with
      | 0, _ => decide
      | 1, _ => decide
    refine ⟨⟨by decide, by decide, line_le (by show (rs.take 1).length * 7 ≤ _; omega)⟩, .inr ⟨_, rfl, Nat.le_of_ble_eq_true rfl, _, rfl, rfl, fun o o1 o2 o3 o4 => ⟨Nat.le_of_ble_eq_true rfl, _, rfl, 7, rfl, by decide, by decide, fun v v0 v1 => ?_⟩⟩⟩
    obtain ⟨x, ax, xm⟩ := atI_ex (l := [D.lst rs, .lst rs, .lst (rs ++ rs), .lst [], .lst (List.replicate 7 (rs.take 1)).flatten, .lst [.lst rs], o]) v0 v1
    refine ix_l rfl ax (hk1 _ ⟨x, _, ?_, rfl⟩)
    simp only [List.mem_cons, List.not_mem_nil, or_false] at xm
    rcases xm with rfl | rfl | rfl | rfl | rfl | rfl | rfl
    · exact nf _ (fun _ h => h) (by omega)
    · exact nf _ (fun _ h => h) (by omega)
    · exact nf _ (fun d h => (List.mem_append.mp h).elim id id) (by rw [List.length_append]; omega)
    · exact nf _ (fun d h => nomatch h) (by decide)
    · refine nf _ (fun d h => ?_) (by omega)
      obtain ⟨l, hl, hd⟩ := List.mem_flatten.mp h
      rw [List.eq_of_mem_replicate hl] at hd
      exact List.mem_of_mem_take hd
    · have z : Ns 19 (12 * 11001) rs := Ns.few (fun d hd => (hrs d hd).nl) (by omega)
      refine Mo13.lst (Ns.one z.lst) (by decide) (by decide) fun d hd u y ds e => ?_
      rw [List.mem_singleton.mp hd] at e
      cases e
    · exact .odd (.odd o1 o2 o3 o4)
  obtain ⟨more, d4, hm, rfl⟩ := hz1
  refine seq_cut (fun z => ∃ t, Mo13 26 t ∧ z = ⟨[none, some .bag, some (.int i), some (.dct (webD w')), d4, d5, d6, d7, some more, some t, d10, d11, d12], M'⟩) (fun k1 hk1 => ?_) (fun z hz1 => ?_)
  · dsimp only [wMakeE, wRevT, wOrN, wKeysT, wLendW, wSlQ, gSetN, wLendN, wFzT, sAug, gN, gSet, gT0, gT1, gTup, sFldD, wAnd, wAndV, wAsg, wB, wBM, wBM0, wC, wChain, wCons, wDc, wDnew, wDrop, wEnum, wFld, wFor, wFrz, wFrzD, wFz, wIf, wIfS, wItems, wLc, wLcM, wLst, wLstM, wMake, wMakeM, wMeth, wN, wNever, wNext, wNil, wNoPart, wNot, wNotV, wOp, wOr, wOrV, wPar, wPar3, wPart, wPass, wRet, wRevS, wRng1, wRng2, wSeq, wSl, wTup, wUn, wVar, wYes, wZip, enD, enW, outE, wMethE, wBinE, wRaise0, rdBinO, wFrzDO, wFrzDD, wSlX, wFmt, wJoin, wJs, wItemsL, rdLenO, rdReprO, rdEqO, wNE, wNEN, wRaise, wTry, hcont, wXf, rdIsE, rdIsEV, wFrzO, wFzL, wDnewT, wVals, wItemsD, wEither, wForM, wSlM, wLendE, wLendT, wLendL, wFmtRO, wFmtRD, wBMX, wTupX, wLendD, wOrD, wRev2, wRevI, wFrzTT, wFrzT, wDcT, wDisp1T, wGz, wPrs, wDisp, wDcN, wDnewN]
    obtain ⟨_, T, hT, _, _, k3⟩ := pr_ty (M := M') hm.nl.pl.pr
    refine ⟨_, rfl, _, T, hT, .inl ⟨_, _, rfl, k3, _, rfl, ifx (fun e => ?_) (fun e => ⟨_, rfl, hk1 _ ⟨more, hm.up, rfl⟩⟩)⟩⟩
    obtain ⟨l, rfl⟩ := isL_eq (d := more) e
    refine ⟨_, rfl, _, rfl, ⟨_, rfl, Nat.le_of_ble_eq_true rfl, _, rfl, 2, rfl, by decide, by decide, fun v v0 v1 => ?_⟩⟩
    obtain ⟨x, ax, xm⟩ := atI_ex (l := [D.lst l, .tup l]) v0 v1
    refine ix_l rfl ax (hk1 _ ⟨x, ?_, rfl⟩)
    simp only [List.mem_cons, List.not_mem_nil, or_false] at xm
    rcases xm with rfl | rfl
    · exact hm.up
    · exact hm.tup
  obtain ⟨t, ht, rfl⟩ := hz1
  have hpr := ht.nl.pl.pr
  have hlk : look M' t = t := look_pr hpr
  have hsh : Shows t.py := ht.nl.pl.shows (by decide) (Nat.le_trans ht.nl.wt (by decide))
  obtain ⟨dg, dw⟩ := due_gd t
  have dlk : look M' (dueD t) = dueD t := look_pr dg.pl.pr
  refine seq_cut (fun z => z = ⟨[none, some .bag, some (.int i), some (.dct (webD w')), d4, d5, d6, d7, some more, some t, some (.str t.py.shown), some (dueD t), d12], M'⟩) (fun k1 hk1 => ?_) (fun z hz1 => ?_)
  · dsimp only [wMakeE, wRevT, wOrN, wKeysT, wLendW, wSlQ, gSetN, wLendN, wFzT, sAug, gN, gSet, gT0, gT1, gTup, sFldD, wAnd, wAndV, wAsg, wB, wBM, wBM0, wC, wChain, wCons, wDc, wDnew, wDrop, wEnum, wFld, wFor, wFrz, wFrzD, wFz, wIf, wIfS, wItems, wLc, wLcM, wLst, wLstM, wMake, wMakeM, wMeth, wN, wNever, wNext, wNil, wNoPart, wNot, wNotV, wOp, wOr, wOrV, wPar, wPar3, wPart, wPass, wRet, wRevS, wRng1, wRng2, wSeq, wSl, wTup, wUn, wVar, wYes, wZip, enD, enW, outE, wMethE, wBinE, wRaise0, rdBinO, wFrzDO, wFrzDD, wSlX, wFmt, wJoin, wJs, wItemsL, rdLenO, rdReprO, rdEqO, wNE, wNEN, wRaise, wTry, hcont, wXf, rdIsE, rdIsEV, wFrzO, wFzL, wDnewT, wVals, wItemsD, wEither, wForM, wSlM, wLendE, wLendT, wLendL, wFmtRO, wFmtRD, wBMX, wTupX, wLendD, wOrD, wRev2, wRevI, wFrzTT, wFrzT, wDcT, wDisp1T, wGz, wPrs, wDisp, wDcN, wDnewN]
    refine ⟨_, rfl, _, rfl, by rw [hlk]; exact hpr, by rw [hlk]; exact hsh, ?_⟩
    rw [hlk]
    exact ⟨_, rfl, t, rfl, ht.tb, _, _, rfl, hk1 _ rfl⟩
  subst hz1
  dsimp only [wMakeE, wRevT, wOrN, wKeysT, wLendW, wSlQ, gSetN, wLendN, wFzT, sAug, gN, gSet, gT0, gT1, gTup, sFldD, wAnd, wAndV, wAsg, wB, wBM, wBM0, wC, wChain, wCons, wDc, wDnew, wDrop, wEnum, wFld, wFor, wFrz, wFrzD, wFz, wIf, wIfS, wItems, wLc, wLcM, wLst, wLstM, wMake, wMakeM, wMeth, wN, wNever, wNext, wNil, wNoPart, wNot, wNotV, wOp, wOr, wOrV, wPar, wPar3, wPart, wPass, wRet, wRevS, wRng1, wRng2, wSeq, wSl, wTup, wUn, wVar, wYes, wZip, enD, enW, outE, wMethE, wBinE, wRaise0, rdBinO, wFrzDO, wFrzDD, wSlX, wFmt, wJoin, wJs, wItemsL, rdLenO, rdReprO, rdEqO, wNE, wNEN, wRaise, wTry, hcont, wXf, rdIsE, rdIsEV, wFrzO, wFzL, wDnewT, wVals, wItemsD, wEither, wForM, wSlM, wLendE, wLendT, wLendL, wFmtRO, wFmtRD, wBMX, wTupX, wLendD, wOrD, wRev2, wRevI, wFrzTT, wFrzT, wDcT, wDisp1T, wGz, wPrs, wDisp, wDcN, wDnewN]
  refine ⟨_, rfl, by decide, by decide, ?_⟩
  refine wLoop_rng _ (fun j z => ∃ d12, z = ⟨[none, some .bag, some (.int i), some (.dct (webD w')), d4, d5, d6, d7, some more, some t, some (.str t.py.shown), some (dueD t), d12], M'⟩) (fun j hj k2 z hI hk2 => ?_) (fun z hI => ?_) _ ⟨_, rfl⟩
  · obtain ⟨d12, rfl⟩ := hI
    dsimp only [wMakeE, wRevT, wOrN, wKeysT, wLendW, wSlQ, gSetN, wLendN, wFzT, sAug, gN, gSet, gT0, gT1, gTup, sFldD, wAnd, wAndV, wAsg, wB, wBM, wBM0, wC, wChain, wCons, wDc, wDnew, wDrop, wEnum, wFld, wFor, wFrz, wFrzD, wFz, wIf, wIfS, wItems, wLc, wLcM, wLst, wLstM, wMake, wMakeM, wMeth, wN, wNever, wNext, wNil, wNoPart, wNot, wNotV, wOp, wOr, wOrV, wPar, wPar3, wPart, wPass, wRet, wRevS, wRng1, wRng2, wSeq, wSl, wTup, wUn, wVar, wYes, wZip, enD, enW, outE, wMethE, wBinE, wRaise0, rdBinO, wFrzDO, wFrzDD, wSlX, wFmt, wJoin, wJs, wItemsL, rdLenO, rdReprO, rdEqO, wNE, wNEN, wRaise, wTry, hcont, wXf, rdIsE, rdIsEV, wFrzO, wFzL, wDnewT, wVals, wItemsD, wEither, wForM, wSlM, wLendE, wLendT, wLendL, wFmtRO, wFmtRD, wBMX, wTupX, wLendD, wOrD, wRev2, wRevI, wFrzTT, wFrzT, wDcT, wDisp1T, wGz, wPrs, wDisp, wDcN, wDnewN]
    refine ⟨_, rfl, t, rfl, ht.tb, _, rfl, _, _, dueD t, rfl, dlk, dlk, .inl dg.eqOk, dg.pl.pr, dg.pl.shows (by decide) (by omega), true, rfl, ifx (fun e => by cases e) fun _ => ?_⟩
    refine ⟨_, rfl, _, rfl, by rw [hlk]; exact hpr, by rw [hlk]; exact hsh, ?_⟩
    rw [hlk]
    exact ⟨_, rfl, _, rfl, ifn (fun h => absurd rfl h) (fun _ => hk2 _ ⟨_, rfl⟩)⟩
  · obtain ⟨d12, rfl⟩ := hI
    exact hk _ ⟨_, _, _, _, _, _, _, _, _, _, _, _, rfl⟩
end
end Q
set_option Elab.async false
set_option linter.all false
set_option maxRecDepth 100000
set_option maxHeartbeats 4000000
namespace Q
open PySem PySem.Spec PyProof.Rows L2 My
open NdefX
theorem err_BadTable {P : Program} {w : World} {K : PySem.W.Frag} {mg : Str → Option Value} {base : Heap} {C : Addr} (t : ToldI P K "BadTable.__init__" (inClass (topS 4) 0) C ["at"]) (htop : (P.main.scope.names.lookup ("super" : Str)).isSome = false) (hm : mg "super" = none) : ErrI P w K mg base C ["at"] := by
  obtain ⟨fI, fd, h1, h2, F⟩ := t.init
  have S : NScope ["self", "at", "__class__"] ["self", "at"] ["__class__"] (defScope (inClass (topS 4) 0)) := nscope_by (by decide +kernel)
  refine ⟨t.T, t.no, fI, fd, ["self", "at"], h1, h2, init1 F rfl S rfl rfl rfl htop hm t.T (fun env => ⟨_, rfl⟩) (t.no _ List.mem_cons_self) (by decide) (by decide), ?_⟩
  obtain ⟨oc, od, kV, doc, pm, an, cda, ct, cc, osl, ccl, cdd, vc, ccs, file, tf, cl, cld, csl, rfl, _⟩ := F.ex
  exact Binds.all fun us hl => match us, hl with | [_, _], _ => rfl
theorem err_Wrong {P : Program} {w : World} {K : PySem.W.Frag} {mg : Str → Option Value} {base : Heap} {C : Addr} (t : ToldI P K "Wrong.__init__" (inClass (topS 3) 0) C ["place"]) (htop : (P.main.scope.names.lookup ("super" : Str)).isSome = false) (hm : mg "super" = none) : ErrI P w K mg base C ["place"] := by
  obtain ⟨fI, fd, h1, h2, F⟩ := t.init
  have S : NScope ["self", "place", "__class__"] ["self", "place"] ["__class__"] (defScope (inClass (topS 3) 0)) := nscope_by (by decide +kernel)
  refine ⟨t.T, t.no, fI, fd, ["self", "place"], h1, h2, init1 F rfl S rfl rfl rfl htop hm t.T (fun env => ⟨_, rfl⟩) (t.no _ List.mem_cons_self) (by decide) (by decide), ?_⟩
  obtain ⟨oc, od, kV, doc, pm, an, cda, ct, cc, osl, ccl, cdd, vc, ccs, file, tf, cl, cld, csl, rfl, _⟩ := F.ex
  exact Binds.all fun us hl => match us, hl with | [_, _], _ => rfl
theorem all_mk {w : World} {P : Program} {K : PySem.W.Frag} {h : Heap} {mg : Str → Option Value} {fa f_l_alike f_l_bag f_l_take f_l_name_near f_l_odd f_l_bent_table f_l_is_name f_l_is_table f_l_due f_l_mixed f_is_name f_is_table f_Question___init__ f_Question___contains__ f_Question_need f_Question_columns f_Question_tables f_l_told f_l_names f_l_web f_law C_Question C_BadRow C_BadTable C_NoTable C_RowError C_TooMany C_Wrong : Addr} {tk_LETTERS tk_MOST_COLUMNS tk_MOST_LETTERS tk_MOST_TABLES : Tok} (X : K.In h) (G : h.Ns mainGlobals mg) (hfa : mg "law" = some (.ref fa))
    (n_l_alike : PySem.W.nsIn K mainGlobals "_law_alike" = some (some (.ref f_l_alike)))
    (e_l_alike : Told K "_law_alike" "_law_alike" st_l_alike f_l_alike)
    (n_l_bag : PySem.W.nsIn K mainGlobals "_law_bag" = some (some (.ref f_l_bag)))
    (e_l_bag : Told K "_law_bag" "_law_bag" st_l_bag f_l_bag)
    (n_l_take : PySem.W.nsIn K mainGlobals "_law_take" = some (some (.ref f_l_take)))
    (e_l_take : Told K "_law_take" "_law_take" st_l_take f_l_take)
    (n_l_name_near : PySem.W.nsIn K mainGlobals "_law_name_near" = some (some (.ref f_l_name_near)))
    (e_l_name_near : Told K "_law_name_near" "_law_name_near" st_l_name_near f_l_name_near)
    (n_l_odd : PySem.W.nsIn K mainGlobals "_law_odd" = some (some (.ref f_l_odd)))
    (e_l_odd : Told K "_law_odd" "_law_odd" st_l_odd f_l_odd)
    (n_l_bent_table : PySem.W.nsIn K mainGlobals "_law_bent_table" = some (some (.ref f_l_bent_table)))
    (e_l_bent_table : Told K "_law_bent_table" "_law_bent_table" st_l_bent_table f_l_bent_table)
    (n_l_is_name : PySem.W.nsIn K mainGlobals "_law_is_name" = some (some (.ref f_l_is_name)))
    (e_l_is_name : Told K "_law_is_name" "_law_is_name" st_l_is_name f_l_is_name)
    (n_l_is_table : PySem.W.nsIn K mainGlobals "_law_is_table" = some (some (.ref f_l_is_table)))
    (e_l_is_table : Told K "_law_is_table" "_law_is_table" st_l_is_table f_l_is_table)
    (n_l_due : PySem.W.nsIn K mainGlobals "_law_due" = some (some (.ref f_l_due)))
    (e_l_due : Told K "_law_due" "_law_due" st_l_due f_l_due)
    (n_l_mixed : PySem.W.nsIn K mainGlobals "_law_mixed" = some (some (.ref f_l_mixed)))
    (e_l_mixed : Told K "_law_mixed" "_law_mixed" st_l_mixed f_l_mixed)
    (n_is_name : PySem.W.nsIn K mainGlobals "is_name" = some (some (.ref f_is_name)))
    (e_is_name : Told K "is_name" "is_name" st_is_name f_is_name)
    (n_is_table : PySem.W.nsIn K mainGlobals "is_table" = some (some (.ref f_is_table)))
    (e_is_table : Told K "is_table" "is_table" st_is_table f_is_table)
    (e_Question___init__ : Told K "__init__" "Question.__init__" st_Question___init__ f_Question___init__)
    (e_Question___contains__ : Told K "__contains__" "Question.__contains__" st_Question___contains__ f_Question___contains__)
    (e_Question_need : Told K "need" "Question.need" st_Question_need f_Question_need)
    (e_Question_columns : Told K "columns" "Question.columns" st_Question_columns f_Question_columns)
    (e_Question_tables : Told K "tables" "Question.tables" st_Question_tables f_Question_tables)
    (n_l_told : PySem.W.nsIn K mainGlobals "_law_told" = some (some (.ref f_l_told)))
    (e_l_told : Told K "_law_told" "_law_told" st_l_told f_l_told)
    (n_l_names : PySem.W.nsIn K mainGlobals "_law_names" = some (some (.ref f_l_names)))
    (e_l_names : Told K "_law_names" "_law_names" st_l_names f_l_names)
    (n_l_web : PySem.W.nsIn K mainGlobals "_law_web" = some (some (.ref f_l_web)))
    (e_l_web : Told K "_law_web" "_law_web" st_l_web f_l_web)
    (n_law : PySem.W.nsIn K mainGlobals "law" = some (some (.ref f_law)))
    (e_law : Told K "law" "law" st_law f_law)
    (c_LETTERS : PySem.W.nsIn K mainGlobals "LETTERS" = some (some (.str "abcdefghijklmnopqrstuvwxyz" tk_LETTERS)))
    (c_MOST_COLUMNS : PySem.W.nsIn K mainGlobals "MOST_COLUMNS" = some (some (.int 8 tk_MOST_COLUMNS)))
    (c_MOST_LETTERS : PySem.W.nsIn K mainGlobals "MOST_LETTERS" = some (some (.int 8 tk_MOST_LETTERS)))
    (c_MOST_TABLES : PySem.W.nsIn K mainGlobals "MOST_TABLES" = some (some (.int 6 tk_MOST_TABLES)))
    (gC : PySem.W.nsIn K mainGlobals "Question" = some (some (.ref C_Question)))
    (a1 : PySem.W.plainGet K C_Question Str.empty = true)
    (a2 : PySem.W.hasDictIn K C_Question = true)
    (a3 : PySem.W.plainOver K C_Question = true)
    (a4 : PySem.W.findIn K (.ref C_Question) "__setattr__" = some (some (.builtin "object.__setattr__")))
    (m1 : PySem.W.makesIn K C_Question = true)
    (m2 : PySem.W.findIn K (.ref C_Question) "__init__" = some (some (.ref f_Question___init__)))
    (m3 : PySem.W.isFn K (.ref f_Question___init__) = true)
    (m4 : PySem.W.keepIn K (.ref C_Question) = true)
    (na : PySem.W.findIn K (.ref C_Question) "held" = some none)
    (p0a : PySem.W.findIn K (.ref C_Question) "columns" = some (some (.ref f_Question_columns)))
    (p0b : PySem.W.isFn K (.ref f_Question_columns) = true)
    (p1a : PySem.W.findIn K (.ref C_Question) "need" = some (some (.ref f_Question_need)))
    (p1b : PySem.W.isFn K (.ref f_Question_need) = true)
    (p2a : PySem.W.findIn K (.ref C_Question) "tables" = some (some (.ref f_Question_tables)))
    (p2b : PySem.W.isFn K (.ref f_Question_tables) = true)
    (q1 : PySem.W.findIn K (.ref C_Question) "__contains__" = some (some (.ref f_Question___contains__)))
    (q2 : PySem.W.isFn K (.ref f_Question___contains__) = true)
    (g_BadRow : PySem.W.nsIn K mainGlobals "BadRow" = some (some (.ref C_BadRow)))
    (g_BadTable : PySem.W.nsIn K mainGlobals "BadTable" = some (some (.ref C_BadTable)))
    (g_NoTable : PySem.W.nsIn K mainGlobals "NoTable" = some (some (.ref C_NoTable)))
    (g_RowError : PySem.W.nsIn K mainGlobals "RowError" = some (some (.ref C_RowError)))
    (g_TooMany : PySem.W.nsIn K mainGlobals "TooMany" = some (some (.ref C_TooMany)))
    (g_Wrong : PySem.W.nsIn K mainGlobals "Wrong" = some (some (.ref C_Wrong)))
    (t_BadTable : ToldI P K "BadTable.__init__" (inClass (topS 4) 0) C_BadTable ["at"])
    (eb_BadTable : errB1 K C_BadTable C_RowError = true)
    (t_Wrong : ToldI P K "Wrong.__init__" (inClass (topS 3) 0) C_Wrong ["place"])
    (eb_Wrong : errB1 K C_Wrong C_RowError = true)
    (htop : (P.main.scope.names.lookup ("super" : Str)).isSome = false)
    (nsup : PySem.W.nsIn K mainGlobals "super" = some none)
    (kWV : PySem.W.kitOne K (.ref C_Wrong) (.type "ValueError") = some true)
    (kWA : PySem.W.kitAny K (.ref C_Wrong) [.ref C_BadRow, .ref C_NoTable, .ref C_TooMany] = some false)
    (kBV : PySem.W.kitOne K (.ref C_BadTable) (.type "ValueError") = some true)
    (kBA : PySem.W.kitAny K (.ref C_BadTable) [.ref C_BadRow, .ref C_NoTable, .ref C_TooMany] = some false)
    (kWW : PySem.W.kitOne K (.ref C_Wrong) (.ref C_Wrong) = some true)
    (kBW : PySem.W.kitOne K (.ref C_BadTable) (.ref C_Wrong) = some false)
    (kWB : PySem.W.kitOne K (.ref C_Wrong) (.ref C_BadTable) = some false)
    (kBB : PySem.W.kitOne K (.ref C_BadTable) (.ref C_BadTable) = some true)
    (z_ValueError : PySem.W.nsIn K mainGlobals "ValueError" = some none)
    (z_abs : PySem.W.nsIn K mainGlobals "abs" = some none)
    (z_all : PySem.W.nsIn K mainGlobals "all" = some none)
    (z_dict : PySem.W.nsIn K mainGlobals "dict" = some none)
    (z_enumerate : PySem.W.nsIn K mainGlobals "enumerate" = some none)
    (z_int : PySem.W.nsIn K mainGlobals "int" = some none)
    (z_isinstance : PySem.W.nsIn K mainGlobals "isinstance" = some none)
    (z_len : PySem.W.nsIn K mainGlobals "len" = some none)
    (z_list : PySem.W.nsIn K mainGlobals "list" = some none)
    (z_min : PySem.W.nsIn K mainGlobals "min" = some none)
    (z_range : PySem.W.nsIn K mainGlobals "range" = some none)
    (z_repr : PySem.W.nsIn K mainGlobals "repr" = some none)
    (z_set : PySem.W.nsIn K mainGlobals "set" = some none)
    (z_sorted : PySem.W.nsIn K mainGlobals "sorted" = some none)
    (z_str : PySem.W.nsIn K mainGlobals "str" = some none)
    (z_tuple : PySem.W.nsIn K mainGlobals "tuple" = some none)
    (z_zip : PySem.W.nsIn K mainGlobals "zip" = some none) :
    ∃ fd : FuncData, (∀ (s : Shared) (v : Value), BindsTo s fd ⟨[v], []⟩ [("_law_script", v)]) ∧
      ∀ base : Heap, K.In base → base.Ns mainGlobals mg → (∃ mm, base.Ns sysModules mm) → FnG P w K mg base CX0 6 fa fd ["_law_script"] (spLaw K) := by
  obtain ⟨d_l_alike, E_l_alike⟩ := e_l_alike.df (ps := ["_law_found", "_law_due_here"]) fun _ _ _ _ _ _ us hl => match us, hl with | [_, _], _ => rfl
  obtain ⟨d_l_bag, E_l_bag⟩ := e_l_bag.df (ps := ["_law_script"]) fun _ _ _ _ _ _ us hl => match us, hl with | [_], _ => rfl
  obtain ⟨d_l_take, E_l_take⟩ := e_l_take.df (ps := ["_law_bag_here", "_law_many"]) fun _ _ _ _ _ _ us hl => match us, hl with | [_, _], _ => rfl
  obtain ⟨d_l_name_near, E_l_name_near⟩ := e_l_name_near.df (ps := ["_law_bag_here"]) fun _ _ _ _ _ _ us hl => match us, hl with | [_], _ => rfl
  obtain ⟨d_l_odd, E_l_odd⟩ := e_l_odd.df (ps := ["_law_bag_here"]) fun _ _ _ _ _ _ us hl => match us, hl with | [_], _ => rfl
  obtain ⟨d_l_bent_table, E_l_bent_table⟩ := e_l_bent_table.df (ps := ["_law_bag_here", "_law_row", "_law_others"]) fun _ _ _ _ _ _ us hl => match us, hl with | [_, _, _], _ => rfl
  obtain ⟨d_l_is_name, E_l_is_name⟩ := e_l_is_name.df (ps := ["_law_thing"]) fun _ _ _ _ _ _ us hl => match us, hl with | [_], _ => rfl
  obtain ⟨d_l_is_table, E_l_is_table⟩ := e_l_is_table.df (ps := ["_law_thing"]) fun _ _ _ _ _ _ us hl => match us, hl with | [_], _ => rfl
  obtain ⟨d_l_due, E_l_due⟩ := e_l_due.df (ps := ["_law_thing"]) fun _ _ _ _ _ _ us hl => match us, hl with | [_], _ => rfl
  obtain ⟨d_l_mixed, E_l_mixed⟩ := e_l_mixed.df (ps := ["_law_bag_here", "_law_things"]) fun _ _ _ _ _ _ us hl => match us, hl with | [_, _], _ => rfl
  obtain ⟨d_is_name, E_is_name⟩ := e_is_name.df (ps := ["thing"]) fun _ _ _ _ _ _ us hl => match us, hl with | [_], _ => rfl
  obtain ⟨d_is_table, E_is_table⟩ := e_is_table.df (ps := ["thing"]) fun _ _ _ _ _ _ us hl => match us, hl with | [_], _ => rfl
  obtain ⟨d_Question___init__, E_Question___init__⟩ := e_Question___init__.df (ps := ["self", "tables"]) fun _ _ _ _ _ _ us hl => match us, hl with | [_, _], _ => rfl
  obtain ⟨d_Question___contains__, E_Question___contains__⟩ := e_Question___contains__.df (ps := ["self", "thing"]) fun _ _ _ _ _ _ us hl => match us, hl with | [_, _], _ => rfl
  obtain ⟨d_Question_need, E_Question_need⟩ := e_Question_need.df (ps := ["self", "names"]) fun _ _ _ _ _ _ us hl => match us, hl with | [_, _], _ => rfl
  obtain ⟨d_Question_columns, E_Question_columns⟩ := e_Question_columns.df (ps := ["self", "table"]) fun _ _ _ _ _ _ us hl => match us, hl with | [_, _], _ => rfl
  obtain ⟨d_Question_tables, E_Question_tables⟩ := e_Question_tables.df (ps := ["self"]) fun _ _ _ _ _ _ us hl => match us, hl with | [_], _ => rfl
  obtain ⟨d_l_told, E_l_told⟩ := e_l_told.df (ps := ["_law_thing"]) fun _ _ _ _ _ _ us hl => match us, hl with | [_], _ => rfl
  obtain ⟨d_l_names, E_l_names⟩ := e_l_names.df (ps := ["_law_bag_here", "_law_many"]) fun _ _ _ _ _ _ us hl => match us, hl with | [_, _], _ => rfl
  obtain ⟨d_l_web, E_l_web⟩ := e_l_web.df (ps := ["_law_bag_here", "_law_most"]) fun _ _ _ _ _ _ us hl => match us, hl with | [_, _], _ => rfl
  have hsup := PySem.W.mg_none_of X G nsup
  obtain ⟨oc, od, an, sl, kV, dc, pm, cd, ct, l, c⟩ := e_law.ex
  have FL := fun_mk (st := st_law) l c e_law.kp
  have BL := FL.binds (ps := ["_law_script"]) fun _ _ _ _ _ _ us hl => match us, hl with | [_], _ => rfl
  have e := hfa.symm.trans (PySem.W.mg_of X G n_law)
  cases e
  exact ⟨_, fun s v => .of_eq rfl, fun base _ _ hsy => ok_law (W := { f_l_alike := f_l_alike, d_l_alike := d_l_alike, e_l_alike := ⟨E_l_alike, PySem.W.mg_of X G n_l_alike⟩, f_l_bag := f_l_bag, d_l_bag := d_l_bag, e_l_bag := ⟨E_l_bag, PySem.W.mg_of X G n_l_bag⟩, f_l_take := f_l_take, d_l_take := d_l_take, e_l_take := ⟨E_l_take, PySem.W.mg_of X G n_l_take⟩, f_l_name_near := f_l_name_near, d_l_name_near := d_l_name_near, e_l_name_near := ⟨E_l_name_near, PySem.W.mg_of X G n_l_name_near⟩, f_l_odd := f_l_odd, d_l_odd := d_l_odd, e_l_odd := ⟨E_l_odd, PySem.W.mg_of X G n_l_odd⟩, f_l_bent_table := f_l_bent_table, d_l_bent_table := d_l_bent_table, e_l_bent_table := ⟨E_l_bent_table, PySem.W.mg_of X G n_l_bent_table⟩, f_l_is_name := f_l_is_name, d_l_is_name := d_l_is_name, e_l_is_name := ⟨E_l_is_name, PySem.W.mg_of X G n_l_is_name⟩, f_l_is_table := f_l_is_table, d_l_is_table := d_l_is_table, e_l_is_table := ⟨E_l_is_table, PySem.W.mg_of X G n_l_is_table⟩, f_l_due := f_l_due, d_l_due := d_l_due, e_l_due := ⟨E_l_due, PySem.W.mg_of X G n_l_due⟩, f_l_mixed := f_l_mixed, d_l_mixed := d_l_mixed, e_l_mixed := ⟨E_l_mixed, PySem.W.mg_of X G n_l_mixed⟩, f_is_name := f_is_name, d_is_name := d_is_name, e_is_name := ⟨E_is_name, PySem.W.mg_of X G n_is_name⟩, f_is_table := f_is_table, d_is_table := d_is_table, e_is_table := ⟨E_is_table, PySem.W.mg_of X G n_is_table⟩, f_Question___init__ := f_Question___init__, d_Question___init__ := d_Question___init__, e_Question___init__ := E_Question___init__, f_Question___contains__ := f_Question___contains__, d_Question___contains__ := d_Question___contains__, e_Question___contains__ := E_Question___contains__, f_Question_need := f_Question_need, d_Question_need := d_Question_need, e_Question_need := E_Question_need, f_Question_columns := f_Question_columns, d_Question_columns := d_Question_columns, e_Question_columns := E_Question_columns, f_Question_tables := f_Question_tables, d_Question_tables := d_Question_tables, e_Question_tables := E_Question_tables, f_l_told := f_l_told, d_l_told := d_l_told, e_l_told := ⟨E_l_told, PySem.W.mg_of X G n_l_told⟩, f_l_names := f_l_names, d_l_names := d_l_names, e_l_names := ⟨E_l_names, PySem.W.mg_of X G n_l_names⟩, f_l_web := f_l_web, d_l_web := d_l_web, e_l_web := ⟨E_l_web, PySem.W.mg_of X G n_l_web⟩, k_LETTERS := tk_LETTERS, c_LETTERS := PySem.W.mg_of X G c_LETTERS, k_MOST_COLUMNS := tk_MOST_COLUMNS, c_MOST_COLUMNS := PySem.W.mg_of X G c_MOST_COLUMNS, k_MOST_LETTERS := tk_MOST_LETTERS, c_MOST_LETTERS := PySem.W.mg_of X G c_MOST_LETTERS, k_MOST_TABLES := tk_MOST_TABLES, c_MOST_TABLES := PySem.W.mg_of X G c_MOST_TABLES, C_Question := C_Question, g_Question := PySem.W.mg_of X G gC, cl_Question := ⟨a1, a2, a3, a4⟩, mk_Question := ⟨m1, m2, m3, m4⟩, na_Question_held := na, m_Question_columns := ⟨p0a, p0b, e_Question_columns.kp⟩, m_Question_need := ⟨p1a, p1b, e_Question_need.kp⟩, m_Question_tables := ⟨p2a, p2b, e_Question_tables.kp⟩, in_Question := q1, fn_Question_contains := q2, C_BadRow := C_BadRow, g_BadRow := PySem.W.mg_of X G g_BadRow, C_BadTable := C_BadTable, g_BadTable := PySem.W.mg_of X G g_BadTable, C_NoTable := C_NoTable, g_NoTable := PySem.W.mg_of X G g_NoTable, C_RowError := C_RowError, g_RowError := PySem.W.mg_of X G g_RowError, C_TooMany := C_TooMany, g_TooMany := PySem.W.mg_of X G g_TooMany, C_Wrong := C_Wrong, g_Wrong := PySem.W.mg_of X G g_Wrong, I_BadTable := err_BadTable t_BadTable htop hsup, E_BadTable := errB1_ok eb_BadTable, I_Wrong := err_Wrong t_Wrong htop hsup, E_Wrong := errB1_ok eb_Wrong, kWV := kWV, kWA := kWA, kBV := kBV, kBA := kBA, kWW := kWW, kBW := kBW, kWB := kWB, kBB := kBB, t_ValueError := PySem.W.mg_none_of X G z_ValueError, t_abs := PySem.W.mg_none_of X G z_abs, t_all := PySem.W.mg_none_of X G z_all, t_dict := PySem.W.mg_none_of X G z_dict, t_enumerate := PySem.W.mg_none_of X G z_enumerate, t_int := PySem.W.mg_none_of X G z_int, t_isinstance := PySem.W.mg_none_of X G z_isinstance, t_len := PySem.W.mg_none_of X G z_len, t_list := PySem.W.mg_none_of X G z_list, t_min := PySem.W.mg_none_of X G z_min, t_range := PySem.W.mg_none_of X G z_range, t_repr := PySem.W.mg_none_of X G z_repr, t_set := PySem.W.mg_none_of X G z_set, t_sorted := PySem.W.mg_none_of X G z_sorted, t_str := PySem.W.mg_none_of X G z_str, t_tuple := PySem.W.mg_none_of X G z_tuple, t_zip := PySem.W.mg_none_of X G z_zip, f_law := _, d_law := _, e_law := ⟨⟨FL, BL⟩, hfa⟩, sy := hsy })⟩
end Q
open PySem PySem.W PyProof.Rows
set_option maxHeartbeats 0 in
theorem PySem.Challenge.cw_deadrows_k13_questions_refused_holds : PySem.Challenge.rw_deadrows_k13_questions_refused.Holds := by
  w_on; o_law; k_head; (case hw => w_witness2)
  k_fill
  refine My.walk_ofG (l := PySem.Challenge.rw_deadrows_k13_questions_refused) (n := 63) (k := 6) (x := "_law_script") (CX := L2.CX0) (sp := Q.spLaw) rfl (by decide) rfl ⟨rfl, by decide, by decide⟩ (by first | rfl | decide +kernel) (fun w h Y => PySem.W.kIn_of Y) ?F
    (fun _ _ a ns hl _ hS => ⟨a, ns, rfl, hS, hl, fun _ => rfl⟩) (fun _ _ _ _ z => z)
  case F =>
    intro w mg fa h KX G hmg
    refine' Q.all_mk KX G hmg ?n_l_alike (Q.told ?l_l_alike ?c_l_alike ?k_l_alike) ?n_l_bag (Q.told ?l_l_bag ?c_l_bag ?k_l_bag) ?n_l_take (Q.told ?l_l_take ?c_l_take ?k_l_take) ?n_l_name_near (Q.told ?l_l_name_near ?c_l_name_near ?k_l_name_near) ?n_l_odd (Q.told ?l_l_odd ?c_l_odd ?k_l_odd) ?n_l_bent_table (Q.told ?l_l_bent_table ?c_l_bent_table ?k_l_bent_table) ?n_l_is_name (Q.told ?l_l_is_name ?c_l_is_name ?k_l_is_name) ?n_l_is_table (Q.told ?l_l_is_table ?c_l_is_table ?k_l_is_table) ?n_l_due (Q.told ?l_l_due ?c_l_due ?k_l_due) ?n_l_mixed (Q.told ?l_l_mixed ?c_l_mixed ?k_l_mixed) ?n_is_name (Q.told ?l_is_name ?c_is_name ?k_is_name) ?n_is_table (Q.told ?l_is_table ?c_is_table ?k_is_table) (Q.told ?l_Question___init__ ?c_Question___init__ ?k_Question___init__) (Q.told ?l_Question___contains__ ?c_Question___contains__ ?k_Question___contains__) (Q.told ?l_Question_need ?c_Question_need ?k_Question_need) (Q.told ?l_Question_columns ?c_Question_columns ?k_Question_columns) (Q.told ?l_Question_tables ?c_Question_tables ?k_Question_tables) ?n_l_told (Q.told ?l_l_told ?c_l_told ?k_l_told) ?n_l_names (Q.told ?l_l_names ?c_l_names ?k_l_names) ?n_l_web (Q.told ?l_l_web ?c_l_web ?k_l_web) ?n_law (Q.told ?l_law ?c_law ?k_law) ?c_LETTERS ?c_MOST_COLUMNS ?c_MOST_LETTERS ?c_MOST_TABLES ?gC ?a1 ?a2 ?a3 ?a4 ?m1 ?m2 ?m3 ?m4 ?na ?p0a ?p0b ?p1a ?p1b ?p2a ?p2b ?q1 ?q2 ?g_BadRow ?g_BadTable ?g_NoTable ?g_RowError ?g_TooMany ?g_Wrong (Q.toldI ?ilBadTable ?irBadTable ?isaBadTable ?iexBadTable ?ityBadTable ?ikBadTable ?iopBadTable ?isuBadTable ?isbBadTable ?imrBadTable ?inoBadTable ?ifiBadTable ?itiBadTable ?ilkBadTable ?icdBadTable ?ilcBadTable ?ihvBadTable ?ihfBadTable ?iceBadTable) ?eb_BadTable (Q.toldI ?ilWrong ?irWrong ?isaWrong ?iexWrong ?ityWrong ?ikWrong ?iopWrong ?isuWrong ?isbWrong ?imrWrong ?inoWrong ?ifiWrong ?itiWrong ?ilkWrong ?icdWrong ?ilcWrong ?ihvWrong ?ihfWrong ?iceWrong) ?eb_Wrong ?htop ?nsup ?kWV ?kWA ?kBV ?kBA ?kWW ?kBW ?kWB ?kBB ?z_ValueError ?z_abs ?z_all ?z_dict ?z_enumerate ?z_int ?z_isinstance ?z_len ?z_list ?z_min ?z_range ?z_repr ?z_set ?z_sorted ?z_str ?z_tuple ?z_zip
    (case gC => k_is)
    (case m2 => k_is)
    (case p0a => k_is)
    (case p1a => k_is)
    (case p2a => k_is)
    (case q1 => k_is)
    (case g_BadRow => k_is)
    (case g_BadTable => k_is)
    (case g_NoTable => k_is)
    (case g_RowError => k_is)
    (case g_TooMany => k_is)
    (case g_Wrong => k_is)
    (case n_l_alike => k_is)
    (case n_l_bag => k_is)
    (case n_l_take => k_is)
    (case n_l_name_near => k_is)
    (case n_l_odd => k_is)
    (case n_l_bent_table => k_is)
    (case n_l_is_name => k_is)
    (case n_l_is_table => k_is)
    (case n_l_due => k_is)
    (case n_l_mixed => k_is)
    (case n_is_name => k_is)
    (case n_is_table => k_is)
    (case n_l_told => k_is)
    (case n_l_names => k_is)
    (case n_l_web => k_is)
    (case n_law => k_is)
    (case l_l_alike => k_is)
    (case c_l_alike => k_is)
    (case k_l_alike => k_is)
    (case l_l_bag => k_is)
    (case c_l_bag => k_is)
    (case k_l_bag => k_is)
    (case l_l_take => k_is)
    (case c_l_take => k_is)
    (case k_l_take => k_is)
    (case l_l_name_near => k_is)
    (case c_l_name_near => k_is)
    (case k_l_name_near => k_is)
    (case l_l_odd => k_is)
    (case c_l_odd => k_is)
    (case k_l_odd => k_is)
    (case l_l_bent_table => k_is)
    (case c_l_bent_table => k_is)
    (case k_l_bent_table => k_is)
    (case l_l_is_name => k_is)
    (case c_l_is_name => k_is)
    (case k_l_is_name => k_is)
    (case l_l_is_table => k_is)
    (case c_l_is_table => k_is)
    (case k_l_is_table => k_is)
    (case l_l_due => k_is)
    (case c_l_due => k_is)
    (case k_l_due => k_is)
    (case l_l_mixed => k_is)
    (case c_l_mixed => k_is)
    (case k_l_mixed => k_is)
    (case l_is_name => k_is)
    (case c_is_name => k_is)
    (case k_is_name => k_is)
    (case l_is_table => k_is)
    (case c_is_table => k_is)
    (case k_is_table => k_is)
    (case l_Question___init__ => k_is)
    (case c_Question___init__ => k_is)
    (case k_Question___init__ => k_is)
    (case l_Question___contains__ => k_is)
    (case c_Question___contains__ => k_is)
    (case k_Question___contains__ => k_is)
    (case l_Question_need => k_is)
    (case c_Question_need => k_is)
    (case k_Question_need => k_is)
    (case l_Question_columns => k_is)
    (case c_Question_columns => k_is)
    (case k_Question_columns => k_is)
    (case l_Question_tables => k_is)
    (case c_Question_tables => k_is)
    (case k_Question_tables => k_is)
    (case l_l_told => k_is)
    (case c_l_told => k_is)
    (case k_l_told => k_is)
    (case l_l_names => k_is)
    (case c_l_names => k_is)
    (case k_l_names => k_is)
    (case l_l_web => k_is)
    (case c_l_web => k_is)
    (case k_l_web => k_is)
    (case l_law => k_is)
    (case c_law => k_is)
    (case k_law => k_is)
    (case c_LETTERS => k_is)
    (case c_MOST_COLUMNS => k_is)
    (case c_MOST_LETTERS => k_is)
    (case c_MOST_TABLES => k_is)
    (case a1 => k_is)
    (case a2 => k_is)
    (case a3 => k_is)
    (case a4 => k_is)
    (case m1 => k_is)
    (case m3 => k_is)
    (case m4 => k_is)
    (case na => k_is)
    (case p0b => k_is)
    (case p1b => k_is)
    (case p2b => k_is)
    (case q2 => k_is)
    (case nsup => k_is)
    (case z_ValueError => k_is)
    (case z_abs => k_is)
    (case z_all => k_is)
    (case z_dict => k_is)
    (case z_enumerate => k_is)
    (case z_int => k_is)
    (case z_isinstance => k_is)
    (case z_len => k_is)
    (case z_list => k_is)
    (case z_min => k_is)
    (case z_range => k_is)
    (case z_repr => k_is)
    (case z_set => k_is)
    (case z_sorted => k_is)
    (case z_str => k_is)
    (case z_tuple => k_is)
    (case z_zip => k_is)
    (case ilBadTable => k_is); (case irBadTable => first | rfl | decide +kernel); (case isaBadTable => k_is); (case iexBadTable => k_is); (case ityBadTable => k_is); (case ikBadTable => k_is); (case iopBadTable => k_is); (case isuBadTable => first | kernel_rfl | rfl); (case isbBadTable => k_is); (case imrBadTable => first | k_is | kernel_rfl)
    (case ifiBadTable => k_is); (case itiBadTable => k_is); (case ilkBadTable => k_is); (case icdBadTable => k_is); (case ilcBadTable => k_is); (case ihvBadTable => exact rfl); (case ihfBadTable => first | rfl | decide +kernel | kernel_rfl); (case iceBadTable => k_is)
    (case inoBadTable => (intro f hf; simp only [List.mem_cons, List.not_mem_nil, or_false] at hf; first | (subst hf; k_is) | (rcases hf with rfl | rfl <;> k_is)))
    (case ilWrong => k_is); (case irWrong => first | rfl | decide +kernel); (case isaWrong => k_is); (case iexWrong => k_is); (case ityWrong => k_is); (case ikWrong => k_is); (case iopWrong => k_is); (case isuWrong => first | kernel_rfl | rfl); (case isbWrong => k_is); (case imrWrong => first | k_is | kernel_rfl)
    (case ifiWrong => k_is); (case itiWrong => k_is); (case ilkWrong => k_is); (case icdWrong => k_is); (case ilcWrong => k_is); (case ihvWrong => exact rfl); (case ihfWrong => first | rfl | decide +kernel | kernel_rfl); (case iceWrong => k_is)
    (case inoWrong => (intro f hf; simp only [List.mem_cons, List.not_mem_nil, or_false] at hf; first | (subst hf; k_is) | (rcases hf with rfl | rfl <;> k_is)))
    (case eb_BadTable => first | kernel_rfl | decide +kernel)
    (case eb_Wrong => first | kernel_rfl | decide +kernel)
    (case kWV => first | kernel_rfl | decide +kernel)
    (case kWA => first | kernel_rfl | decide +kernel)
    (case kBV => first | kernel_rfl | decide +kernel)
    (case kBA => first | kernel_rfl | decide +kernel)
    (case kWW => first | kernel_rfl | decide +kernel)
    (case kBW => first | kernel_rfl | decide +kernel)
    (case kWB => first | kernel_rfl | decide +kernel)
    (case kBB => first | kernel_rfl | decide +kernel)
    (case htop => first | rfl | decide +kernel | kernel_rfl)
