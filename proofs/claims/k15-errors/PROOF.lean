import PyProof.Rows.All
import Wide.All
import OpenK.AllK
import Wide.FinOn
import HandS.ForMost
import HandS.Wide
import HandS.IsInst
import HandS.Flow
import HandS.TupMul
import HandS.TupAny
import HandS.Zip
import PyProof.ReprRoads
import PyProof.ReprLen
import HandS.Codes
import HandS.Walk
import PyProof.NeKinds
import HandS.Exc
import HandS.ExcInit
import HandS.Nested
import KE.KExcSuper
import HandS.ExcValue
import HandS.ExcField
import HandS.ExcIs
import HandS.ExcCtx
import HandS.ExcInitHot
import HandS.Small
import HandS.HotCalls
import KE.KExcIs
import PySem.Challenge.RW_deadrows_k15_errors_kept
set_option Elab.async false
set_option linter.all false
set_option maxRecDepth 100000
set_option maxHeartbeats 4000000
/-! Calls where no repr is under way (guards told): FnG. -/
namespace My
open PySem PySem.Spec PyProof.Rows L2

/-- a def's promise where no repr is under way -/
structure FnG (P : Program) (w : World) (K : PySem.W.Frag) (mg : Str → Option Value) (base : Heap)
    (CX : CXT) (k : Nat) (f : Addr) (fd : FuncData) (ps : List Str) (sp : Sp) : Prop where
  len : ∀ vs H Q E, sp vs H Q E → vs.length = ps.length
  run : ∀ (A : Around) (outer : List Env) (s : Shared) (H : Hp) (args : Args)
    (us : List Value) (vs : List V) (Q : VK) (E : XK), Room k A → A.guards = some [] →
    Env0 P w K mg base A outer s H → BindsTo s fd args (ps.zip us) → Vals vs us →
    sp vs H Q E → codeAny (model P w) A (.call (.ref f) args) (CR CX outer P w H s Q E) s

section
variable {P : Program} {w : World} {K : PySem.W.Frag} {mg : Str → Option Value} {base : Heap}
  {CX : CXT} {k j : Nat} {f : Addr} {fd : FuncData} {ps : List Str} {sp : Sp}
theorem FnG.of (F : FnOk P w K mg base CX k f fd ps sp) : FnG P w K mg base CX k f fd ps sp :=
  ⟨F.len, fun A outer s H args us vs Q E hr _ => F.run A outer s H args us vs Q E hr⟩
theorem FnG.mono (F : FnG P w K mg base CX j f fd ps sp) (h : j ≤ k) :
    FnG P w K mg base CX k f fd ps sp :=
  ⟨F.len, fun A outer s H args us vs Q E hr => F.run A outer s H args us vs Q E (hr.mono h)⟩

theorem fnG_of {name qual : Str} {params : Arguments} {body : List Stmt} {scope : Scope}
    {dV kV doc pm cdv ct oc : Value} {an od : Option Addr} {osl : Array (Option Value)} {N : List Str}
    (lk : K.lookup f = some ⟨oc, od, .func (PySem.W.fnOf name qual params body scope dV kV doc pm an cdv ct), osl⟩)
    (hcd : PySem.W.codeIn K cdv qual = true) (S : FnScope N ps scope)
    (len : ∀ vs H Q E, sp vs H Q E → vs.length = ps.length)
    (hbody : ∀ (A : Around) (outer : List Env) (s : Shared) (H : Hp) (vs : List V) (Q : VK) (E : XK),
      Room k (A.deeper (envOfC qual scope s.heap.objs.size f cdv)) → A.guards = some [] → sp vs H Q E →
      ∃ t, PSs (cxOf CX P w K mg base N qual scope f cdv A outer s H E) body t ∧
        t { nx := fun _ H' => Q .non H', rt := Q } (start N vs) H) :
    FnG P w K mg base CX (k + 1) f (PySem.W.fnOf name qual params body scope dV kV doc pm an cdv ct) ps sp := by
  refine ⟨len, fun A outer s H args us vs Q E hr hg e0 hb r hsp => ?_⟩
  have hl := len _ _ _ _ hsp
  have old : ∀ b o, base.get? b = some o → s.heap.get? b = some o := fun b o e => (e0.bs b o e).1
  have KX : K.In s.heap := e0.mod.kin.keeps old
  have lim : s.heap.NoLimit := e0.mod.nolimit.keeps old
  have hkind : ∀ y ∈ ps.zip us, scope.names.lookup y.1 = some .local ∨ (scope.names.lookup y.1 = some .cell ∧
      ((cellsFrom (s.heap.objs.size + 1) scope.names []).lookup y.1).isSome = true) := by
    rintro ⟨n, v⟩ hy
    rcases S.par n (List.of_mem_zip hy).1 with q | q
    · exact .inl q
    · exact .inr ⟨q, PySem.W.cellsFrom_some _ _ _ (.inl q)⟩
  refine codeAny_call_function hr.depth (KX _ _ lk) rfl S.co S.gen rfl
    (PySem.W.codeRec_of KX hcd) (hb _ _ _ _ ?_)
  refine wpAny_newFunctionEnv_cells S.kind hkind fun env he s1 x => ?_
  subst he
  refine ⟨lim.keeps x.toInCall.keep, codeAny_func ?_⟩
  obtain ⟨t, ht, hq⟩ := hbody A outer s H vs Q E (hr.deeper _) hg hsp
  have I := inv_start (CX := CX) (E := E) (N := N) S hr.hd e0 hl r x
  refine wpAny_mono (ht.run [] s1 (start N vs) H _ I hq) ?_ (fun e s' hs => hs)
  intro fl s' hs
  cases fl with
  | ret u =>
    obtain ⟨v, σ', H', J, rv, q⟩ := hs
    exact ⟨v, H', J.os, J.bare, J.base, J.hok, rv, q⟩
  | next =>
    obtain ⟨σ', H', J, q⟩ := hs
    exact ⟨V.non, H', J.os, J.bare, J.base, J.hok, rfl, q⟩
  | brk => exact hs.elim fun _ h => h.elim fun _ h => False.elim h.2
  | cont => exact hs.elim fun _ h => h.elim fun _ h => False.elim h.2

/-- a def by its body, no repr under way, nothing raised -/
theorem okG {x qual : Str} {st : Stmt} {N : List Str} (F : Fun K x qual st f fd)
    (S : FnScope N ps (defScope st)) (len : ∀ vs H Q E, sp vs H Q E → vs.length = ps.length)
    (hbody : ∀ (cdv : Value) (A : Around) (outer : List Env) (s : Shared) (H : Hp) (vs : List V) (Q : VK) (E : XK),
      Room k (A.deeper (envOfC qual (defScope st) s.heap.objs.size f cdv)) → A.guards = some [] → sp vs H Q E →
      ∃ t, PSs (cxOf CX0 P w K mg base N qual (defScope st) f cdv A outer s H E).nox (defBody st) t ∧
        t { nx := fun _ H' => Q .non H', rt := Q } (start N vs) H) :
    FnG P w K mg base CX0 (k + 1) f fd ps sp := by
  obtain ⟨oc, od, kV, doc, pm, an, cdv, ct, osl, rfl, lk, hcd⟩ := F.ex
  refine fnG_of lk hcd S len fun A outer s H vs Q E hr hg hsp => ?_
  obtain ⟨t, h, q⟩ := hbody cdv A outer s H vs Q E hr hg hsp
  exact ⟨t, h.nox, q⟩
end

section
variable {X : Cx} {CX : CXT} {k : Nat} {f C : Addr} {fd : FuncData} {ps : List Str} {sp : Sp} {dvs : List V}
  {ds : List Value} {E : XK} {x m : Str} {p pos apos : Pos} {e o : Expr} {es : List Expr} {ta : TE} {t : TA}
theorem run_fnG {pins : List (Addr × Obj)} {σ : L2.St} {H : Hp} {s : Shared} {Q : VK} {us : List Value} {vs : List V}
    (F : FnG X.prog X.w X.K X.mg X.base CX k f fd ps sp) (hr : Room k X.A) (hgd : X.A.guards = some [])
    (hb : Binds X.K fd ps ds) (hd : Vals dvs ds) (hx : Passes CX X E) (I : Inv X pins σ H s) (r : Vals vs us)
    (h : sp (vs ++ dvs) H Q E) : wpAny (model X.prog X.w) X.A (call (.ref f) us) (EP X pins σ Q) X.xe s := by
  have r2 := r.append hd
  have hl : (us ++ ds).length = ps.length := r2.length.symm.trans (F.len _ _ _ _ h)
  refine wpAny_call (codeAny_mono (F.run X.A X.stack s H ⟨us, []⟩ _ _ Q E hr hgd I.env0
    (hb s us I.kIn hl) r2 h) ?_)
  intro r s' hq
  match r, hq with
  | .error e, hq => exact hx pins σ H s e s' I hq
  | .ok (.ret u), hq => exact I.after hq
theorem pe_callG (F : FnG X.prog X.w X.K X.mg X.base CX k f fd ps sp) (hr : Room k X.A) (hgd : X.A.guards = some [])
    (hg : Gl X x) (hm : X.mg x = some (.ref f)) (hk : PySem.W.keepIn X.K (.ref f) = true) (hb : Binds X.K fd ps ds)
    (hd : Vals dvs ds) (hx : Passes CX X E) (ha : PA X (e :: es) t) (hdb : (x == ("__debug__" : Str)) = false := by decide)
    (he : starEach (e :: es) X.env = (false, eval e X.env) :: starEach es X.env := by rfl)
    (hpl : (backTo pos (starEach es X.env)).any (·.1) = false := by rfl) :
    PE X (.Call (.Name x p) (e :: es) [] pos) (tCall sp dvs E t) := by
  refine ⟨fun pins s σ H Q I h => wpAny_Call_Name_kw (ld_glob I hg hm ?_ hdb)⟩
  refine PySem.W.callWith_K (h₀ := X.base) I.ok.mod.kin hk (thn (ha.run pos pins s σ H _ I h) ?_) he hpl
  exact fun us s1 ⟨vs, H1, I1, r, q⟩ => ⟨I1.kIn, run_fnG F hr hgd hb hd hx I1 r q⟩
end

/-- the law's call, its promise kept where no repr is under way -/
theorem law_callG {P : Program} {w : World} {K : PySem.W.Frag} {mg mb : Str → Option Value} {CX : CXT} {k : Nat}
    {fa a : Addr} {fd : FuncData} {x : Str} {sp : Sp} {s₁ : Shared} {vs : List Value} {ns : List Int}
    (KX : K.In s₁.heap) (hns : s₁.heap.Ns mainGlobals mg) (hb : s₁.heap.Ns builtinsNs mb)
    (hbb : ∀ x : Str, x ≠ "__name__" → mb x = bootBuiltins x) (hlim : s₁.heap.NoLimit) (hg : s₁.gens = #[])
    (ha : s₁.heap.get? a = some { cls := .type "list", data := .seq vs.toArray }) (hi : IntsAre vs ns)
    (hl : ns.length ≤ sizeLine) (hr : Room k callerA)
    (hsy : ∃ mm, s₁.heap.Ns sysModules mm)
    (F : ∀ base : Heap, K.In base → base.Ns mainGlobals mg → (∃ mm, base.Ns sysModules mm) → FnG P w K mg base CX k fa fd [x] sp)
    (hbind : ∀ (s : Shared) (u : Value), BindsTo s fd ⟨[u], []⟩ [(x, u)])
    (hsp : ∀ H : Hp, Only H → SqL K H a (ns.map V.int) → sp [.ref a] H (fun v _ => v = .bl true) fun _ _ _ => False)
    (hCX : ∀ H e s', CX [] H s₁ (fun _ _ _ => False) e s' → False) :
    codeAny (model P w) callerA (.call (.ref fa) ⟨[.ref a], []⟩)
      (fun r s' => r = .ok (.ret (.bool true)) ∧ OldK s₁.heap s'.heap ∧ s'.os = s₁.os ∧ AllBare s'.gens) s₁ := by
  have core : ∀ H : Hp, Only H → SqL K H a (ns.map V.int) → HOk P w H s₁.heap → (∀ b, H b ≠ none → b = a) →
      (H a ≠ none → K.lookup a = none) → codeAny (model P w) callerA (.call (.ref fa) ⟨[.ref a], []⟩)
      (fun r s' => r = .ok (.ret (.bool true)) ∧ OldK s₁.heap s'.heap ∧ s'.os = s₁.os ∧ AllBare s'.gens) s₁ := by
    intro H hO hS hok hA hK
    have atA : ∀ {b : Addr} {u : HO}, H b = some u → b = a := fun q => hA _ (by rw [q]; simp)
    have noA : ∀ {b : Addr} {o : Obj} {es : Array DictEntry} {ep : Nat},
        s₁.heap.get? b = some o → o.data = .dict es ep → H b = none := by
      intro b o es ep e d
      cases q : H b with
      | none => rfl
      | some u =>
        obtain rfl := atA q
        rw [ha] at e
        cases e
        exact nomatch (show Data.seq vs.toArray _ = Data.dict es ep from d)
    have nsK : ∀ {b : Addr} {m : Str → Option Value}, s₁.heap.Ns b m → (hidT s₁.heap H).Ns b m :=
      fun ⟨o, es, ep, e, d, r⟩ => ⟨o, es, ep, hidT_get e (noA e d), d, r⟩
    have hKb : K.In (hidT s₁.heap H) := by
      intro b o e
      refine hidT_get (KX b o e) ?_
      cases q : H b with
      | none => rfl
      | some u =>
        obtain rfl := atA q
        rw [hK (by rw [q]; simp)] at e
        cases e
    obtain ⟨mc, hc1, hc2⟩ := hlim
    have hM : Mod K mg (hidT s₁.heap H) := ⟨hKb, nsK hns, ⟨mb, nsK hb, hbb⟩, ⟨mc, nsK hc1, hc2⟩⟩
    have no0 : ∀ b : Addr, b ∉ frs [] := fun b z => absurd (show b ∈ ([] : List Addr) from z) (by simp)
    have e0 : Env0 P w K mg (hidT s₁.heap H) callerA [] s₁ H :=
      ⟨rfl, hM, fun b o e => of_hidT e, Nat.le_of_eq (hidT_size _ _), trivial, fun b z => absurd z (no0 b), hok, .of_eq hg⟩
    obtain ⟨mm, hmm⟩ := hsy
    refine codeAny_mono ((F _ hKb (nsK hns) ⟨mm, nsK hmm⟩).run callerA [] s₁ H ⟨[.ref a], []⟩ [.ref a] [.ref a] _ _ hr rfl e0
      (hbind s₁ (.ref a)) (.cons rfl .nil) (hsp H hO hS)) ?_
    intro r s' h
    match r, h with
    | .error e, h => exact (hCX H e s' h).elim
    | .ok (.ret u), h =>
      obtain ⟨v, H', os, bare, un, hok', r', q⟩ := h
      obtain rfl : v = .bl true := q
      obtain rfl : u = Value.bool true := r'
      refine ⟨rfl, OldK.of_keep fun b o e => ?_, os, bare⟩
      rcases hO b with z | ⟨ob, xs, z⟩
      · exact un.keep b o e z (no0 b) (by simp)
      · have e1 := (hok b _ z).1
        rw [e] at e1
        cases e1
        exact (hok' b _ (un.frzs b _ _ z)).1
  have rv := vals_ints hi
  cases hk : K.lookup a with
  | some o =>
    have e := KX a o hk
    rw [ha] at e
    cases e
    refine core (fun _ => none) (fun _ => .inl rfl) (.inr ⟨_, vs.toArray, _, hk, rfl, rfl, rfl, ?_, by simpa using rv⟩)
      (fun b u z => nomatch (show (none : Option HO) = some u from z)) (fun b z => absurd rfl z) (fun z => absurd rfl z)
    rw [List.size_toArray, hi.length]
    exact hl
  | none =>
    refine core (fun b => if b = a then some (.frz { cls := .type "list", data := .seq vs.toArray } (.lst (ns.map V.int))) else none)
      (fun b => ?_) (.inl (.inr ⟨_, if_pos rfl⟩)) (fun b u z => ?_) (fun b z => ?_) (fun _ => hk)
    · by_cases hb : b = a
      · exact .inr ⟨_, _, if_pos hb⟩
      · exact .inl (if_neg hb)
    · by_cases hb : b = a
      · subst hb
        cases (if_pos rfl).symm.trans z
        exact ⟨ha, by rw [List.length_map]; exact hl, vs, _, rv, ha⟩
      · exact nomatch (if_neg hb).symm.trans z
    · by_cases hb : b = a
      · exact hb
      · exact absurd (if_neg hb) z

/-- the goal that the head leaves, from the law's promise -/
theorem walk_ofG {l : PySem.W.OpenLaw} {n k : Nat} {q : Program} {loose : List Str}
    {XP : (Str → Option Value) → Heap → Prop} {YP : World → Heap → Prop} {d : DefRec} {K : Params → PySem.W.Frag}
    {CX : CXT} {sp : PySem.W.Frag → Sp} {x : Str}
    (hn : l.most = some n) (hn2 : n ≤ sizeLine) (hdf : d.params.defaults = []) (hr : Room k callerA)
    (hi : importsNone q = true) (hY : ∀ (w : World) (h : Heap), YP w h → (K w.params).In h)
    (F : ∀ (w : World) (mg : Str → Option Value) (fa : Addr) (h : Heap), (K w.params).In h → h.Ns mainGlobals mg →
      mg d.name = some (.ref fa) → ∃ fd : FuncData, (∀ (s : Shared) (u : Value), BindsTo s fd ⟨[u], []⟩ [(x, u)]) ∧
        ∀ base : Heap, (K w.params).In base → base.Ns mainGlobals mg → (∃ mm, base.Ns sysModules mm) →
          FnG l.prog w (K w.params) mg base CX k fa fd [x] (sp (K w.params)))
    (hsp : ∀ (K : PySem.W.Frag) (H : Hp) (a : Addr) (ns : List Int), ns.length ≤ n → Only H → SqL K H a (ns.map V.int) →
      sp K [.ref a] H (fun v _ => v = .bl true) fun _ _ _ => False)
    (hCX : ∀ (H : Hp) (s : Shared) (e : Value) (s' : Shared), CX [] H s (fun _ _ _ => False) e s' → False) :
    PySem.W.WalkO q loose XP YP l.row.toRowW d [] (fun f vs => PySem.call f vs) := by
  refine Att.attach_call hn hdf fun w s₀ s₁ mg mb fa o pm cd doc a vs ns G Y ho hd hcd hmg hobj hints hlen hg => ?_
  have KX := hY w _ Y
  obtain ⟨fd, hb, hF⟩ := F w mg fa _ KX G.T.g hmg
  exact law_callG KX G.T.g G.T.b G.T.builtins G.T.nolimit hg hobj hints (Nat.le_trans hlen hn2) hr
    (G.T.seer hi |>.mods.elim fun mm h => ⟨mm, h.1⟩) hF hb (fun H hO hS => hsp _ H a ns hlen hO hS) (fun H e s' => hCX H s₁ e s')

/-! ### xs[i] op= e -/
section
variable {X : Cx}
theorem get_list : PGet X (rIxL X.K) := by
  intro pins s σ H o i ov iv Q I ro ri h
  obtain ⟨p, xs, k, z, rfl, rfl, hq, he, q⟩ := h
  cases ro
  obtain ⟨t, rfl⟩ := ri
  obtain ⟨its, r, pl, hz⟩ := I.list hq
  obtain ⟨j, h1, h2, h3, h4, h5⟩ := atI_get he
  obtain ⟨w, ew, rw'⟩ := r.get h2
  have hl := r.length
  have hn := line63
  have fin : EP X pins σ Q w s := ⟨z, H, I, rw', q⟩
  by_cases h0 : 0 ≤ k
  · have hj : k.toNat = j := by
      rw [seqIndex_of h0 h5] at h1
      exact Option.some.inj h1
    exact wpAny_getItem_list pl.isList h0 (by omega) (by rw [hj]; simpa using ew) fin
  · have hj : (k + (its.toArray.size : Int)).toNat = j := by
      rw [seqIndex_neg (by omega) h4] at h1
      rw [List.size_toArray, ← hl]
      exact Option.some.inj h1
    exact wpAny_getItem_list_neg pl.isList (by omega) (by rw [List.size_toArray] <;> omega) (by omega)
      (by rw [hj]; simpa using ew) fin
end
end My
set_option Elab.async false
set_option linter.all false
set_option maxRecDepth 100000
set_option maxHeartbeats 4000000
/-! repr of data -/
namespace My
open PySem PySem.Spec PyProof.Rows L2
/-- a key as data -/
def kD : Key → PyData
  | .inl i => .int i
  | .inr x => .str x
mutual
/-- data, dicts too -/
inductive Dx (K : PySem.W.Frag) (H : Hp) : V → PyData → Prop
  | non : Dx K H .non .none
  | bl (b : Bool) : Dx K H (.bl b) (.bool b)
  | int (i : Int) : Dx K H (.int i) (.int i)
  | str (x : Str) : Dx K H (.str x) (.str x)
  | lst {a : Addr} {xs : List V} {ds : List PyData} : SqL K H a xs → Dxs K H xs ds → Dx K H (.ref a) (.list ds)
  | tup {a : Addr} {xs : List V} {ds : List PyData} : SqT K H a xs → Dxs K H xs ds → Dx K H (.ref a) (.tuple ds)
  | dic {a : Addr} {kvs : List (Key × V)} {ds : List (PyData × PyData)} : Rd H a (.dK kvs) →
      ds.map (·.1) = kvs.map (fun p => kD p.1) → Dxs K H (kvs.map (·.2)) (ds.map (·.2)) → Dx K H (.ref a) (.dict ds)
inductive Dxs (K : PySem.W.Frag) (H : Hp) : List V → List PyData → Prop
  | nil : Dxs K H [] []
  | cons {v : V} {vs : List V} {d : PyData} {ds : List PyData} : Dx K H v d → Dxs K H vs ds → Dxs K H (v :: vs) (d :: ds)
end
theorem Rd.same {H H' : Hp} {a : Addr} {u : HO} (e : Same H H') (h : Rd H a u) : Rd H' a u :=
  h.elim (fun h => .inl (e _ _ h)) (fun ⟨o, h⟩ => .inr ⟨o, e _ _ h⟩)
theorem sqT_same {K : PySem.W.Frag} {H H' : Hp} {a : Addr} {xs : List V} (e : Same H H') (h : SqT K H a xs) : SqT K H' a xs :=
  h.elim (fun h => .inl (Rd.same e h)) .inr
mutual
theorem Dx.same {K : PySem.W.Frag} {H H' : Hp} (e : Same H H') : ∀ {v : V} {d : PyData}, Dx K H v d → Dx K H' v d
  | _, _, .non => .non
  | _, _, .bl b => .bl b
  | _, _, .int i => .int i
  | _, _, .str x => .str x
  | _, _, .lst h t => .lst (e.seq h) (Dxs.same e t)
  | _, _, .tup h t => .tup (sqT_same e h) (Dxs.same e t)
  | _, _, .dic h k t => .dic (Rd.same e h) k (Dxs.same e t)
theorem Dxs.same {K : PySem.W.Frag} {H H' : Hp} (e : Same H H') : ∀ {vs : List V} {ds : List PyData}, Dxs K H vs ds → Dxs K H' vs ds
  | _, _, .nil => .nil
  | _, _, .cons a b => .cons (Dx.same e a) (Dxs.same e b)
end
mutual
theorem Dx.ofDp {K : PySem.W.Frag} {H : Hp} : ∀ {v : V} {d : PyData}, Dp K H v d → Dx K H v d
  | _, _, .non => .non
  | _, _, .bl b => .bl b
  | _, _, .int i => .int i
  | _, _, .str x => .str x
  | _, _, .lst h t => .lst h (Dxs.ofDp t)
  | _, _, .tup h t => .tup h (Dxs.ofDp t)
theorem Dxs.ofDp {K : PySem.W.Frag} {H : Hp} : ∀ {vs : List V} {ds : List PyData}, DpAll K H vs ds → Dxs K H vs ds
  | _, _, .nil => .nil
  | _, _, .cons a b => .cons (Dx.ofDp a) (Dxs.ofDp b)
end
section
variable {X : Cx} {pins : List (Addr × Obj)} {σ : L2.St} {H : Hp} {s : Shared}
/-- no list stands at sys.modules -/
theorem no_sys (I : Inv X pins σ H s) (hs : ∃ mm, X.base.Ns sysModules mm) {a : Addr} {xs : List V} (h : SqL X.K H a xs) : a ≠ sysModules := by
  rintro rfl
  obtain ⟨its, r, ⟨o, n, e, hc, _, hd⟩, _⟩ := I.list h
  obtain ⟨mm, o', es, ep, e', hd', _⟩ := hs
  have q := (I.bs _ _ e').1
  rw [e] at q
  cases q
  rw [hd] at hd'
  cases hd'
theorem pairs_read {P : Program} {w : World} {h : Heap} : ∀ {es : List DictEntry} {vs : List (Key × Value)} {kvs : List (Key × V)},
    Pairs (mixKind P w) es vs → KV kvs vs → ReadsAll h (es.map (·.key)) (kvs.map fun p => kD p.1) [] ∧ Vals (kvs.map (·.2)) (es.map (·.val))
  | _, _, _, .nil, kv => by
    cases kv
    exact ⟨.nil, .nil⟩
  | _, _, _, .cons (e := e) hk hv t, kv => by
    cases kv with
    | cons hq tq =>
      rename_i p pr
      obtain ⟨i1, i2⟩ := pairs_read (h := h) t tq
      obtain ⟨e1, r⟩ := hq
      refine ⟨?_, .cons (by show L2.RelV p.2 e.val; rw [hv]; exact r) i2⟩
      have hk' : keyIs p.1 e.key = true := by rw [e1]; exact hk
      rcases keyIs_shape hk' with ⟨i, t', e2, e3⟩ | ⟨x, t', e2, e3⟩
      · show ReadsAll h (e.key :: _) (kD p.1 :: _) ([] ++ [])
        rw [e2, e3]
        exact .cons (.int i t') i1
      · show ReadsAll h (e.key :: _) (kD p.1 :: _) ([] ++ [])
        rw [e2, e3]
        exact .cons (.str x t') i1
mutual
theorem Dx.reads (I : Inv X pins σ H s) (hs : ∃ mm, X.base.Ns sysModules mm) :
    ∀ {v : V} {d : PyData} {u : Value}, Dx X.K H v d → RelV v u → ∃ as, Reads s.heap u d as ∧ sysModules ∉ as
  | _, _, _, .non, r => by cases r; exact ⟨_, Reads.none, by simp⟩
  | _, _, _, .bl b, r => by cases r; exact ⟨_, Reads.bool b, by simp⟩
  | _, _, _, .int i, r => by obtain ⟨t, rfl⟩ := r; exact ⟨_, Reads.int i t, by simp⟩
  | _, _, _, .str x, r => by obtain ⟨t, rfl⟩ := r; exact ⟨_, Reads.str x t, by simp⟩
  | _, _, _, .lst h t, r => by
    cases r
    have na := no_sys I hs h
    obtain ⟨its, rv, ⟨o, n, ho, hc, _, hd⟩, _⟩ := I.list h
    obtain ⟨as, hr, ns⟩ := Dxs.reads I hs t rv
    refine ⟨_, Reads.list ho hc hd hr, fun z => ?_⟩
    rcases List.mem_cons.mp z with z | z
    · exact na z.symm
    · exact ns z
  | _, _, _, .tup h t, r => by
    cases r
    obtain ⟨its, rv, ⟨o, ho, hc, n, hd⟩, _⟩ := I.tuple h
    obtain ⟨as, hr, ns⟩ := Dxs.reads I hs t rv
    exact ⟨_, Reads.tuple ho hc hd hr, ns⟩
  | _, _, _, .dic (a := a) h k t, r => by
    cases r
    obtain ⟨_, na, vs, kv, o, es, ep, ho, hx, hd, _, hp, _⟩ := h.ok I.hok
    obtain ⟨q1, q2⟩ := pairs_read (h := s.heap) hp kv
    obtain ⟨as, hr, ns⟩ := Dxs.reads I hs t q2
    refine ⟨_, Reads.dict ho hx.1 hd (by rw [k]; exact q1) hr, fun z => ?_⟩
    rcases List.mem_cons.mp (show sysModules ∈ a :: as from z) with z | z
    · rw [← z] at na
      exact absurd na (by decide)
    · exact ns z
theorem Dxs.reads (I : Inv X pins σ H s) (hs : ∃ mm, X.base.Ns sysModules mm) :
    ∀ {vs : List V} {ds : List PyData} {us : List Value}, Dxs X.K H vs ds → Vals vs us → ∃ as, ReadsAll s.heap us ds as ∧ sysModules ∉ as
  | _, _, _, .nil, r => by cases r; exact ⟨_, ReadsAll.nil, by simp⟩
  | _, _, _, .cons h1 h2, r => by
    cases r with
    | cons r1 r2 =>
      obtain ⟨as, q1, n1⟩ := Dx.reads I hs h1 r1
      obtain ⟨bs, q2, n2⟩ := Dxs.reads I hs h2 r2
      exact ⟨_, ReadsAll.cons q1 q2, fun z => (List.mem_append.mp z).elim n1 n2⟩
end
end
/-- what repr asks of data -/
structure Shows (d : PyData) : Prop where
  able : d.showable = true
  size : d.shown.length ≤ sizeLine
  deep : d.depth ≤ 100
section
variable {X : Cx}
def rRepr (K : PySem.W.Frag) : List V → Hp → VK → Prop := fun xs H Q => ∃ v d, xs = [v] ∧ Dx K H v d ∧ Shows d ∧ Q (.str d.shown) H
theorem call_reprX (hg : X.A.guards = some []) (hu : X.A.units + 200 < cLine) (hs : ∃ mm, X.base.Ns sysModules mm) : CallR X (.builtin "repr") (rRepr X.K) := by
  intro pins s σ H xs us Q I r h
  obtain ⟨v, d, rfl, hd, hz, q⟩ := h
  obtain ⟨u, rfl, ru⟩ := vals1 r
  obtain ⟨as, hr, ns⟩ := Dx.reads I hs hd ru
  have fin : ∀ t : Nat, Inv X pins σ H { s with toks := t } := fun t => I.tok t
  cases hr with
  | none => exact PySem.P.repr_of_none ⟨.str _, H, fin _, ⟨_, rfl⟩, q⟩
  | bool b => exact PySem.P.repr_of_bool ⟨.str _, H, fin _, ⟨_, rfl⟩, q⟩
  | int i t => exact PySem.P.repr_of_int (by simpa [PyData.showable] using hz.able) ⟨.str _, H, fin _, ⟨_, rfl⟩, q⟩
  | str x t => exact PySem.P.repr_of_str ⟨.str _, H, fin _, ⟨_, rfl⟩, q⟩ hz.size
  | list h1 h2 h3 h4 =>
    exact repr_of_reads' (.list h1 h2 h3 h4) hz.able (fun _ => ns) hg (by have := hz.deep; omega) (fun _ _ e => e)
      (fun h' u' tk hk => ⟨.str _, H, I.kept hk, ⟨_, rfl⟩, q⟩) hz.size
  | tuple h1 h2 h3 h4 =>
    exact repr_of_reads' (.tuple h1 h2 h3 h4) hz.able (fun _ => ns) hg (by have := hz.deep; omega) (fun _ _ e => e)
      (fun h' u' tk hk => ⟨.str _, H, I.kept hk, ⟨_, rfl⟩, q⟩) hz.size
  | dict h1 h2 h3 h4 h5 =>
    exact repr_of_reads' (.dict h1 h2 h3 h4 h5) hz.able (fun _ => ns) hg (by have := hz.deep; omega) (fun _ _ e => e)
      (fun h' u' tk hk => ⟨.str _, H, I.kept hk, ⟨_, rfl⟩, q⟩) hz.size
end
end My
set_option Elab.async false
set_option linter.all false
set_option maxRecDepth 100000
set_option maxHeartbeats 4000000
/-! the law's bag and its draws -/
namespace My
open PySem PySem.Spec PyProof.Rows L2
/-- a bag stands at b -/
structure Bag (H : Hp) (b : Addr) (x y z : Int) (L : Addr) (cs : List Int) : Prop where
  at_ : H b = some (.lst [.int x, .int y, .int z, .ref L])
  cells : H L = some (.lst (cs.map V.int))
  x0 : 0 ≤ x
  z0 : 0 ≤ z
  c0 : ∀ c ∈ cs, 0 ≤ c
theorem Bag.ne {H : Hp} {b : Addr} {x y z : Int} {L : Addr} {cs : List Int} (B : Bag H b x y z L cs) : L ≠ b := by
  rintro rfl
  have h := B.at_.symm.trans B.cells
  have e : ([.int x, .int y, .int z, .ref L] : List V) = cs.map V.int := by injection Option.some.inj h
  have e3 := congrArg (fun l => l[3]?) e
  rw [List.getElem?_map] at e3
  cases q : cs[3]? with
  | none => rw [q] at e3; cases e3
  | some c => rw [q] at e3; cases e3
/-- which bag: its list, the list of its cells, these -/
structure BI where
  b : Addr
  L : Addr
  cs : List Int
def BagOk (H : Hp) (B : BI) : Prop := ∃ x y z, Bag H B.b x y z B.L B.cs
theorem Bag.put {H : Hp} {b : Addr} {x y z : Int} {L : Addr} {cs : List Int} (B : Bag H b x y z L cs) {x' y' z' : Int} (h1 : 0 ≤ x') (h3 : 0 ≤ z') :
    Bag (upd H b (.lst [.int x', .int y', .int z', .ref L])) b x' y' z' L cs :=
  ⟨upd_same, by rw [upd_ne B.ne]; exact B.cells, h1, h3, B.c0⟩
/-- a heap without one address -/
def hid (b : Addr) (H : Hp) : Hp := fun a => if a = b then none else H a
theorem hid_ne {b a : Addr} {H : Hp} (h : a ≠ b) : hid b H a = H a := if_neg h
theorem hid_at {b : Addr} {H : Hp} : hid b H b = none := if_pos rfl
theorem hid_upd {b : Addr} {H : Hp} {o : HO} : hid b (upd H b o) = hid b H := by
  funext a
  unfold hid upd
  split <;> rfl
theorem hid_new {b p : Addr} {H : Hp} {o : HO} (h : p ≠ b) : hid b (upd H p o) = upd (hid b H) p o := by
  funext a
  by_cases e : a = b
  · subst e
    rw [hid_at, upd_ne (Ne.symm h), hid_at]
  · rw [hid_ne e]
    by_cases q : a = p
    · subst q
      rw [upd_same, upd_same]
    · rw [upd_ne q, upd_ne q, hid_ne e]
theorem hid_same {b : Addr} {H : Hp} : Same (hid b H) H := fun a o h => by
  by_cases e : a = b
  · subst e
    rw [hid_at] at h
    cases h
  · rw [hid_ne e] at h
    exact h
/-- all but the bag at b is as it was -/
def Keep (b : Addr) (H H' : Hp) : Prop := Same (hid b H) (hid b H')
theorem Keep.refl {b : Addr} {H : Hp} : Keep b H H := Same.refl _
theorem Keep.trans {b : Addr} {H H1 H2 : Hp} (h : Keep b H H1) (k : Keep b H1 H2) : Keep b H H2 := Same.trans h k
theorem Keep.bag {b : Addr} {H : Hp} {o : HO} : Keep b H (upd H b o) := by
  unfold Keep
  rw [hid_upd]
  exact Same.refl _
theorem Keep.of {b : Addr} {H H' : Hp} (h : Same H H') : Keep b H H' := fun a o e => by
  by_cases q : a = b
  · subst q
    rw [hid_at] at e
    cases e
  · rw [hid_ne q] at e ⊢
    exact h a o e
theorem Keep.get {b a : Addr} {H H' : Hp} {o : HO} (k : Keep b H H') (h : H a = some o) (n : a ≠ b) : H' a = some o := by
  have := k a o (by rw [hid_ne n]; exact h)
  rw [hid_ne n] at this
  exact this
theorem same_new {H : Hp} {p : Addr} {o : HO} (h : H p = none) : Same H (upd H p o) := fun a u e => by
  rw [upd_ne (ne_of_none e h)]
  exact e
theorem Keep.new {b p : Addr} {H H' : Hp} {o : HO} (k : Keep b H H') (h : H' p = none) : Keep b H (upd H' p o) := k.trans (Keep.of (same_new h))
/-- an object that was not there may change -/
theorem Keep.mut {b p : Addr} {H H' : Hp} {o : HO} (k : Keep b H H') (h : H p = none) : Keep b H (upd H' p o) := fun a u e => by
  by_cases q : a = b
  · subst q
    rw [hid_at] at e
    cases e
  · have e' := k a u e
    rw [hid_ne q] at e e' ⊢
    rw [upd_ne (ne_of_none e h)]
    exact e'
theorem Bag.same {H H' : Hp} {b : Addr} {x y z : Int} {L : Addr} {cs : List Int} (e : Same H H') (B : Bag H b x y z L cs) : Bag H' b x y z L cs :=
  ⟨e _ _ B.at_, e _ _ B.cells, B.x0, B.z0, B.c0⟩
theorem BagOk.same {H H' : Hp} {B : BI} (e : Same H H') (h : BagOk H B) : BagOk H' B :=
  let ⟨x, y, z, h⟩ := h
  ⟨x, y, z, h.same e⟩
theorem BagOk.new {H : Hp} {B : BI} {p : Addr} {o : HO} (h : BagOk H B) (hp : H p = none) : BagOk (upd H p o) B := h.same (same_new hp)
theorem BagOk.some {H : Hp} {B : BI} (h : BagOk H B) : H B.b ≠ none := by
  obtain ⟨x, y, z, h⟩ := h
  rw [h.at_]
  exact fun h => nomatch h
theorem BagOk.someL {H : Hp} {B : BI} (h : BagOk H B) : H B.L ≠ none := by
  obtain ⟨x, y, z, h⟩ := h
  rw [h.cells]
  exact fun h => nomatch h
theorem BagOk.ne {H : Hp} {B : BI} {p : Addr} (h : BagOk H B) (hp : H p = none) : p ≠ B.b := fun e => h.some (e ▸ hp)
theorem BagOk.neL {H : Hp} {B : BI} {p : Addr} (h : BagOk H B) (hp : H p = none) : p ≠ B.L := fun e => h.someL (e ▸ hp)
/-- what is neither the bag nor its cells may change -/
theorem BagOk.mut {H : Hp} {B : BI} {p : Addr} {o : HO} (h : BagOk H B) (h1 : p ≠ B.b) (h2 : p ≠ B.L) : BagOk (upd H p o) B := by
  obtain ⟨x, y, z, h⟩ := h
  exact ⟨x, y, z, by rw [upd_ne (Ne.symm h1)]; exact h.at_, by rw [upd_ne (Ne.symm h2)]; exact h.cells, h.x0, h.z0, h.c0⟩
/-- _law_take's promise: any number below many -/
def spTake : Sp := fun vs H Q _ => ∃ (B : BI) (many : Int), vs = [.ref B.b, .int many] ∧ BagOk H B ∧ 0 < many ∧ many < 2 ^ 60 ∧
  ∀ (v : Int) (o : HO), 0 ≤ v → v < many → BagOk (upd H B.b o) B → Q (.int v) (upd H B.b o)
/-- a comprehension in which the bag is drawn from: I by the turn, the list so far, the heap without both -/
theorem lc_bag {J : It} {n : Nat} {G : Hp → Prop} {Y : Nat → Hp → V → Hp → Prop} (w : Walk J n G Y) {g : TG} {tt : TT} {te : TE} {vs : List Nat} {σ : L2.St} {H1 : Hp} {D : Addr} {Qd : Hp → Prop} {B : BI}
    (hn : n ≤ sizeLine) (hD : H1 D = none) (hB : BagOk H1 B) (hG : ∀ H, Keep B.b H1 H → G H) (I : Nat → List V → Hp → Prop) (h0 : I 0 [] (hid D (hid B.b H1)))
    (hs : ∀ i x H H' acc (R : VK) (Rn : Hp → Prop), i < n → Keep B.b H1 H → BagOk H B → H D = some (.lst acc) → I i acc (hid D (hid B.b H)) → Y i H x H' →
      (∀ y H4, Keep B.b H H4 → BagOk H4 B → I (i + 1) (acc ++ [y]) (hid D (hid B.b H4)) → R y H4) → (∀ H3, Keep B.b H H3 → BagOk H3 B → I (i + 1) acc (hid D (hid B.b H3)) → Rn H3) →
      g x (wipe σ vs) H' fun σ2 H2 => wipe σ2 vs = wipe σ vs ∧ tt σ2 H2 fun b H3 => if b = true then te σ2 H3 R else Rn H3)
    (hd : ∀ H acc, Keep B.b H1 H → BagOk H B → H D = some (.lst acc) → acc.length ≤ n → I n acc (hid D (hid B.b H)) → Qd H) :
    ∃ W : Nat → Nat → Hp → Prop, (∃ m, W 0 m (upd H1 D (.lst []))) ∧ ∀ i m H, W i m H →
      (J.stop i H ∧ Qd H) ∨ (J.go i H ∧ ∃ Nx : Hp → Prop, (∀ H', Nx H' → ∃ m', m' < m ∧ W (i + 1) m' H') ∧ ∀ x H', J.yld i H x H' → g x (wipe σ vs) H' fun σ2 H2 => wipe σ2 vs = wipe σ vs ∧ tt σ2 H2 fun b H3 =>
        if b = true then te σ2 H3 fun y H4 => ∃ acc, H4 D = some (.lst acc) ∧ acc.length < sizeLine ∧ Nx (upd H4 D (.lst (acc ++ [y]))) else Nx H3) := by
  have ne : D ≠ B.b := hB.ne hD
  have neL : D ≠ B.L := hB.neL hD
  have hh : ∀ (H : Hp) (o : HO), hid D (hid B.b (upd H D o)) = hid D (hid B.b H) := fun H o => by rw [hid_new ne, hid_upd]
  refine lc_it w (fun i H => Keep B.b H1 H ∧ BagOk H B ∧ ∃ acc, H D = some (.lst acc) ∧ acc.length ≤ i ∧ I i acc (hid D (hid B.b H)))
    ⟨Keep.of (same_new hD), hB.new hD, [], upd_same, Nat.le_refl _, by rw [hh]; exact h0⟩ (fun i H _ p => hG H p.1) (fun i x H H' hi p y => ?_) (fun H p => ?_)
  · obtain ⟨p1, p2, acc, p3, p4, p5⟩ := p
    refine hs i x H H' acc _ _ hi p1 p2 p3 p5 y (fun v H4 k1 k2 k3 => ⟨acc, k1.get p3 ne, Nat.lt_of_le_of_lt p4 (Nat.lt_of_lt_of_le hi hn), ?_, k2.mut ne neL, _, upd_same, ?_, ?_⟩)
      (fun H3 k1 k2 k3 => ⟨p1.trans k1, k2, acc, k1.get p3 ne, Nat.le_succ_of_le p4, k3⟩)
    · exact (p1.trans k1).mut hD
    · rw [List.length_append]
      exact Nat.succ_le_succ p4
    · rw [hh]
      exact k3
  · obtain ⟨p1, p2, acc, p3, p4, p5⟩ := p
    exact hd H acc p1 p2 p3 p4 p5
end My
set_option Elab.async false
set_option linter.all false
set_option maxRecDepth 100000
set_option maxHeartbeats 4000000
/-! data: types, comparisons with nothing, comprehensions -/
namespace My
open PySem PySem.Spec PyProof.Rows L2
def tyD : PyData → String
  | .none => "NoneType"
  | .bool _ => "bool"
  | .int _ => "int"
  | .str _ => "str"
  | .list _ => "list"
  | .tuple _ => "tuple"
  | .dict _ => "dict"
theorem Dx.ty {K : PySem.W.Frag} {H : Hp} {v : V} {d : PyData} (h : Dx K H v d) : TyX K H v (.type (tyD d)) := by
  cases h with
  | non => exact .base .non
  | bl b => exact .base (.bl b)
  | int i => exact .base (.int i)
  | str x => exact .base (.str x)
  | lst h _ =>
    rcases h with (h | ⟨o, h⟩) | ⟨o, its, n, h, c, _⟩
    · exact .base (.lst h)
    · exact .base (.frz h)
    · exact .kList h c
  | tup h _ =>
    rcases h with (h | ⟨o, h⟩) | ⟨o, its, n, h, c, _⟩
    · exact .base (.tup h)
    · exact .fTuple h
    · exact .kTuple h c
  | dic h _ _ =>
    rcases h with h | ⟨o, h⟩
    · exact .base (.dK h)
    · exact .fDict h
def isIntT : PyData → Bool
  | .int _ => true
  | .bool _ => true
  | _ => false
def isBoolT : PyData → Bool
  | .bool _ => true
  | _ => false
def isStrT : PyData → Bool
  | .str _ => true
  | _ => false
def isTupT : PyData → Bool
  | .tuple _ => true
  | _ => false
def isLstT : PyData → Bool
  | .list _ => true
  | _ => false
def isDicT : PyData → Bool
  | .dict _ => true
  | _ => false
theorem kit_int (d : PyData) : kitB (tyD d) "int" = some (isIntT d) := by cases d <;> (simp only [tyD, isIntT]; decide +kernel)
theorem kit_bool (d : PyData) : kitB (tyD d) "bool" = some (isBoolT d) := by cases d <;> (simp only [tyD, isBoolT]; decide +kernel)
theorem kit_str (d : PyData) : kitB (tyD d) "str" = some (isStrT d) := by cases d <;> (simp only [tyD, isStrT]; decide +kernel)
theorem kit_tuple (d : PyData) : kitB (tyD d) "tuple" = some (isTupT d) := by cases d <;> (simp only [tyD, isTupT]; decide +kernel)
theorem kit_list (d : PyData) : kitB (tyD d) "list" = some (isLstT d) := by cases d <;> (simp only [tyD, isLstT]; decide +kernel)
theorem kit_dict (d : PyData) : kitB (tyD d) "dict" = some (isDicT d) := by cases d <;> (simp only [tyD, isDicT]; decide +kernel)
theorem isi_of {K : PySem.W.Frag} {H : Hp} {v : V} {d : PyData} {n : String} {b : Bool} {Q : VK} (h : Dx K H v d) (hk : kitB (tyD d) n = some b) (q : Q (.bl b) H) : rIsi K [v, .ty n] H Q :=
  ⟨v, .ty n, _, _, b, rfl, .ty n, h.ty, kit_ty hk, q⟩
/-! comparisons with an empty list, an empty tuple -/
section
variable {X : Cx}
def rEqNil (K : PySem.W.Frag) (neg : Bool) : R2 := fun x y H Q => ∃ a b xs, x = .ref a ∧ y = .ref b ∧ SqL K H a xs ∧ SqL K H b [] ∧ Q (.bl (if neg then !xs.isEmpty else xs.isEmpty)) H
theorem op_eqNil (hu : X.A.units < cLine) : OpR X (compareOp .Eq) (rEqNil X.K false) := by
  intro pins s σ H x y v u Q I rx ry h
  obtain ⟨a, b, xs, rfl, rfl, ha, hb, q⟩ := h
  cases rx
  cases ry
  obtain ⟨its, r, pl, _⟩ := I.list ha
  obtain ⟨its2, r2, pl2, _⟩ := I.list hb
  cases r2
  cases r with
  | nil => exact SeqAt.eq_listAt (e := fun _ => true) pl.isList pl2.isList rfl hu (fun j h1 _ => absurd h1 (Nat.not_lt_zero _)) ⟨.bl _, H, I, rfl, q⟩
  | cons r rs => exact SeqAt.eq_list_lengthsAt pl.isList pl2.isList (by simp) hu ⟨.bl _, H, I, rfl, q⟩
theorem op_neNil (hu : X.A.units < cLine) : OpR X (compareOp .NotEq) (rEqNil X.K true) := by
  intro pins s σ H x y v u Q I rx ry h
  obtain ⟨a, b, xs, rfl, rfl, ha, hb, q⟩ := h
  cases rx
  cases ry
  obtain ⟨its, r, pl, _⟩ := I.list ha
  obtain ⟨its2, r2, pl2, _⟩ := I.list hb
  cases r2
  cases r with
  | nil => exact SeqAt.RcNeAt.lists (e := fun _ => true) pl.isList pl2.isList rfl hu (fun j h1 _ => absurd h1 (Nat.not_lt_zero _)) _ _ _ _ ⟨.bl _, H, I, rfl, q⟩
  | cons r rs => exact SeqAt.RcNeAt.lists_lengths pl.isList pl2.isList (by simp) hu _ _ _ _ ⟨.bl _, H, I, rfl, q⟩
def rEqNilT (K : PySem.W.Frag) : R2 := fun x y H Q => ∃ a b xs, x = .ref a ∧ y = .ref b ∧ SqT K H a xs ∧ SqT K H b [] ∧ Q (.bl xs.isEmpty) H
theorem op_eqNilT (hu : X.A.units < cLine) : OpR X (compareOp .Eq) (rEqNilT X.K) := by
  intro pins s σ H x y v u Q I rx ry h
  obtain ⟨a, b, xs, rfl, rfl, ha, hb, q⟩ := h
  cases rx
  cases ry
  obtain ⟨its, r, ⟨o, e1, e2, n, e3⟩, _⟩ := I.tuple ha
  obtain ⟨its2, r2, ⟨o2, f1, f2, n2, f3⟩, _⟩ := I.tuple hb
  cases r2
  refine SeqAt.eq_tupleAt (e := fun _ => true) (items := its.toArray) (items2 := #[]) ⟨o, e1, e2, n, e3⟩ ⟨o2, f1, f2, n2, f3⟩ hu (fun j _ h2 => absurd h2 (Nat.not_lt_zero _)) ?_
  cases r with
  | nil => exact ⟨.bl _, H, I, rfl, q⟩
  | cons r rs => exact ⟨.bl _, H, I, by simp; rfl, q⟩
end
/-! comprehensions -/
section
variable {J : It} {n : Nat} {G : Hp → Prop} {Y : Nat → Hp → V → Hp → Prop}
theorem range_succ_filterMap (f : Nat → Option V) (i : Nat) : (List.range (i + 1)).filterMap f = (List.range i).filterMap f ++ (f i).toList := by
  rw [List.range_succ, List.filterMap_append]
  cases h : f i <;> simp [h]
/-- [.. for x in ..]: the values by the turn, none where the test says no; nothing that stood is changed -/
theorem lc_map (w : Walk J n G Y) {g : TG} {tt : TT} {te : TE} {vs : List Nat} {σ : L2.St} {H1 : Hp} {D : Addr} {Qd : Hp → Prop} (hn : n ≤ sizeLine) (hD : H1 D = none)
    (hG : ∀ H, Same H1 H → G H) (f : Nat → Option V)
    (hs : ∀ i x H H' (R : VK) (Rn : Hp → Prop), i < n → Same H1 H → Y i H x H' → (∀ y H4, f i = some y → Same H H4 → R y H4) → (∀ H3, f i = none → Same H H3 → Rn H3) →
      g x (wipe σ vs) H' fun σ2 H2 => wipe σ2 vs = wipe σ vs ∧ tt σ2 H2 fun b H3 => if b = true then te σ2 H3 R else Rn H3)
    (hd : ∀ H, Same H1 H → H D = some (.lst ((List.range n).filterMap f)) → Qd H) :
    ∃ W : Nat → Nat → Hp → Prop, (∃ m, W 0 m (upd H1 D (.lst []))) ∧ ∀ i m H, W i m H →
      (J.stop i H ∧ Qd H) ∨ (J.go i H ∧ ∃ Nx : Hp → Prop, (∀ H', Nx H' → ∃ m', m' < m ∧ W (i + 1) m' H') ∧ ∀ x H', J.yld i H x H' → g x (wipe σ vs) H' fun σ2 H2 => wipe σ2 vs = wipe σ vs ∧ tt σ2 H2 fun b H3 =>
        if b = true then te σ2 H3 fun y H4 => ∃ acc, H4 D = some (.lst acc) ∧ acc.length < sizeLine ∧ Nx (upd H4 D (.lst (acc ++ [y]))) else Nx H3) := by
  refine lc_it w (fun i H => Same H1 H ∧ H D = some (.lst ((List.range i).filterMap f))) ⟨same_new hD, upd_same⟩ (fun i H _ p => hG H p.1) (fun i x H H' hi p y => ?_) (fun H p => hd H p.1 p.2)
  refine hs i x H H' _ _ hi p.1 y (fun v H4 q1 q2 => ⟨_, q2 _ _ p.2, ?_, fun a o e => ?_, ?_⟩) (fun H3 q1 q2 => ⟨p.1.trans q2, ?_⟩)
  · refine Nat.lt_of_le_of_lt (Nat.le_trans (List.length_filterMap_le _ _) ?_) (Nat.lt_of_lt_of_le hi hn)
    rw [List.length_range]
    exact Nat.le_refl _
  · rw [upd_ne (ne_of_none e hD)]
    exact q2 _ _ (p.1 a o e)
  · rw [upd_same, range_succ_filterMap, q1]
    rfl
  · rw [range_succ_filterMap, q1]
    exact (q2 _ _ p.2).trans (by rw [Option.toList_none, List.append_nil])
end
end My
set_option Elab.async false
set_option linter.all false
set_option maxRecDepth 100000
set_option maxHeartbeats 4000000
namespace My
open PySem PySem.Spec PyProof.Rows L2
theorem range_bind {α : Type} (g : α → Option V) : ∀ xs : List α, (List.range xs.length).filterMap (fun i => (xs[i]?).bind g) = xs.filterMap g
  | [] => rfl
  | x :: xs => by
    have ih := range_bind g xs
    rw [List.length_cons, List.range_succ_eq_map, List.filterMap_cons, List.filterMap_map]
    have e : ((fun i => ((x :: xs)[i]?).bind g) ∘ Nat.succ) = fun i => (xs[i]?).bind g := by
      funext i
      simp
    rw [e, ih]
    simp [List.filterMap_cons]
theorem range_map {α : Type} (g : α → V) (xs : List α) : (List.range xs.length).filterMap (fun i => (xs[i]?).map g) = xs.map g := by
  have h := range_bind (fun x => some (g x)) xs
  rw [List.filterMap_eq_map'] at h
  rw [← h]
  congr 1
  funext i
  cases xs[i]? <;> rfl
theorem Dxs.length {K : PySem.W.Frag} {H : Hp} : ∀ {vs : List V} {ds : List PyData}, Dxs K H vs ds → vs.length = ds.length
  | _, _, .nil => rfl
  | _, _, .cons _ t => congrArg Nat.succ (Dxs.length t)
theorem Dxs.get {K : PySem.W.Frag} {H : Hp} : ∀ {vs : List V} {ds : List PyData} {i : Nat} {v : V}, Dxs K H vs ds → vs[i]? = some v → ∃ d, ds[i]? = some d ∧ Dx K H v d
  | _, _, _, _, .nil, e => by simp at e
  | _, _, 0, _, .cons h _, e => by
    simp at e
    subst e
    exact ⟨_, rfl, h⟩
  | _, _, i + 1, v, .cons _ t, e => by
    obtain ⟨d, h1, h2⟩ := Dxs.get (i := i) (v := v) t (by simpa using e)
    exact ⟨d, by simpa using h1, h2⟩
theorem weight_mem {d : PyData} : ∀ {ds : List PyData}, d ∈ ds → d.weight ≤ PyData.weightAll ds
  | x :: r, h => by
    rw [PyData.weightAll]
    rcases List.mem_cons.mp h with rfl | h
    · omega
    · have := weight_mem h
      omega
theorem weight_len : ∀ ds : List PyData, ds.length ≤ PyData.weightAll ds
  | [] => Nat.le_refl _
  | x :: r => by
    rw [PyData.weightAll, List.length_cons]
    have := weight_len r
    omega
theorem line200 {n : Nat} (h : n ≤ 200000) : n ≤ sizeLine := Nat.le_trans h (by decide)
section
variable {K : PySem.W.Frag} {a b : Addr} {xs ys : List V}
theorem walk_zipT {n : Nat} (hn : n = min xs.length ys.length) : Walk (RZ.ItzT K a b) n (fun H => SqT K H a xs ∧ SqT K H b ys) (YPair (fun i => xs[i]?) (fun i => ys[i]?)) := by
  subst hn
  refine ⟨fun i _ hi q => ?_, fun _ q => ⟨xs, ys, q.1, q.2, by omega⟩, fun i H v H' _ q y => ?_⟩
  · have h1 : i < xs.length := by omega
    have h2 : i < ys.length := by omega
    exact ⟨xs, ys, xs[i], ys[i], q.1, q.2, List.getElem?_eq_getElem h1, List.getElem?_eq_getElem h2⟩
  · obtain ⟨T, x, y, h1, h2, h3, h4, h5⟩ := y
    exact ⟨T, x, y, h1, h2, h3, h4 xs q.1, h5 ys q.2⟩
theorem cut_from1 (xs : List V) : cutV xs (some 1) none = xs.drop 1 := by
  unfold cutV
  rw [show HT.sIx xs.length 0 (some 1) = min 1 xs.length from HT.sIx_nat xs.length 0 1, HT.sIx_none]
  cases xs with
  | nil => rfl
  | cons x r =>
    have e : min 1 (x :: r).length = 1 := by rw [List.length_cons]; omega
    rw [e, List.length_cons, Nat.add_sub_cancel]
    exact List.take_length
end
end My
set_option Elab.async false
set_option linter.all false
set_option maxRecDepth 100000
set_option maxHeartbeats 4000000
namespace My
open PySem PySem.Spec PyProof.Rows L2
/-- a text of at most n plain signs -/
def TxOk (n : Nat) (x : Str) : Prop := x.length ≤ n ∧ ∀ c ∈ x.cps.toList, c < 128
theorem TxOk.mono {n m : Nat} {x : Str} (h : TxOk n x) (k : n ≤ m) : TxOk m x := ⟨Nat.le_trans h.1 k, h.2⟩
theorem TxOk.app {n m : Nat} {x y : Str} (h : TxOk n x) (k : TxOk m y) : TxOk (n + m) (x ++ y) := by
  refine ⟨by rw [PySem.strLen_append]; exact Nat.add_le_add h.1 k.1, fun c hc => ?_⟩
  have e : (x ++ y).cps.toList = x.cps.toList ++ y.cps.toList := by
    show (x.cps ++ y.cps).toList = _
    exact Array.toList_append
  rw [e] at hc
  exact (List.mem_append.mp hc).elim (h.2 c) (k.2 c)
theorem TxOk.cut {n : Nat} {x : Str} (h : TxOk n x) (lo hi : Option Int) : TxOk n (cutS x lo hi) :=
  ⟨Nat.le_trans (cutS_length x lo hi) h.1, fun c hc => h.2 c (List.mem_of_mem_drop (List.mem_of_mem_take (show c ∈ (x.cps.toList.drop _).take _ from hc)))⟩
theorem TxOk.one {c : Nat} (h : c < 128) : TxOk 1 ⟨#[c]⟩ := ⟨Nat.le_refl _, fun d hd => by
  have e : d = c := by simpa using hd
  rw [e]
  exact h⟩
theorem TxOk.join : ∀ {ys : List Str}, (∀ y ∈ ys, TxOk 1 y) → TxOk ys.length (Txt.join "" ys)
  | ys, h => by
    rw [TL.join_eq]
    induction ys with
    | nil => exact ⟨Nat.le_refl _, fun c hc => absurd hc (by decide +kernel +revert)⟩
    | cons x r ih =>
      cases r with
      | nil => exact h x List.mem_cons_self
      | cons y r =>
        have h1 := ih fun z hz => h z (List.mem_cons_of_mem _ hz)
        have h2 : TxOk 1 (x ++ ("" : Str)) := by
          have := (h x List.mem_cons_self).app (y := ("" : Str)) (m := 0) ⟨Nat.le_refl _, fun c hc => absurd hc (by decide +kernel +revert)⟩
          exact this
        have h3 := h2.app h1
        rw [Nat.add_comm] at h3
        exact h3
theorem atI_ex {α : Type} {l : List α} {v : Int} (h0 : 0 ≤ v) (h1 : v < l.length) : ∃ c, atI l v = some c ∧ c ∈ l := by
  have h2 : v.toNat < l.length := by omega
  refine ⟨l[v.toNat], ?_, List.getElem_mem h2⟩
  have := atI_nat (List.getElem?_eq_getElem h2)
  rwa [Int.toNat_of_nonneg h0] at this
theorem sumlen_le {ys : List Str} {n : Nat} (h : ∀ y ∈ ys, TxOk n y) : (ys.map (·.length)).sum ≤ ys.length * n := by
  induction ys with
  | nil => exact Nat.zero_le _
  | cons x r ih =>
    have h1 := ih fun z hz => h z (List.mem_cons_of_mem _ hz)
    have h2 := (h x List.mem_cons_self).1
    rw [List.map_cons, List.sum_cons, List.length_cons, Nat.succ_mul]
    omega
/-- _law_bag's promise -/
def spBag (K : PySem.W.Frag) : Sp := fun vs H Q _ => ∃ (a : Addr) (ns : List Int), vs = [.ref a] ∧ SqL K H a (ns.map V.int) ∧ ns.length ≤ 63 ∧
  ∀ (B : BI) (H' : Hp), Same H H' → H B.b = none → BagOk H' B → Q (.ref B.b) H'
theorem cut_ints (ns : List Int) (lo hi : Option Int) : ∃ ms : List Int, cutV (ns.map V.int) lo hi = ms.map V.int := by
  refine ⟨(ns.drop (HT.sIx (ns.map V.int).length 0 lo)).take (HT.sIx (ns.map V.int).length (ns.map V.int).length hi - HT.sIx (ns.map V.int).length 0 lo), ?_⟩
  unfold cutV
  rw [List.map_take, List.map_drop]
end My
set_option Elab.async false
set_option linter.all false
set_option maxRecDepth 100000
set_option maxHeartbeats 4000000
namespace My
open PySem PySem.Spec PyProof.Rows L2
/-! t * k, k great -/
def rRepW (K : PySem.W.Frag) : R2 := fun x y H Q => ∃ l k xs, x = .ref l ∧ y = .int k ∧ SqT K H l xs ∧ xs ≠ [] ∧ 2 ≤ k ∧ k ≤ 100000 ∧ xs.length ≤ 10 ∧
  ∀ p, H p = none → Q (.ref p) (upd H p (.tup (List.replicate k.toNat xs).flatten))
theorem op_repW {X : Cx} : OpR X (binaryOp .Mult) (rRepW X.K) := by
  intro pins s σ H x y v u Q I rx ry h
  obtain ⟨l, k, xs, rfl, rfl, hT, hne, h1, h2, hz, q⟩ := h
  cases rx
  obtain ⟨t, rfl⟩ := ry
  obtain ⟨its, r, ⟨⟨cls, dd, data, sl⟩, ho, hc, n, hd⟩, hs⟩ := I.tuple hT
  simp only at hc hd
  subst hc hd
  have hle : its.length = xs.length := r.length.symm
  have hi : its.toArray.isEmpty = false := by
    cases r with
    | nil => exact absurd rfl hne
    | cons a b => rfl
  have hsz0 : its.toArray.size = xs.length := by rw [List.size_toArray, hle]
  have hm : ((its.toArray.size : Nat) : Int) * k ≤ 1000000 := by
    rw [hsz0]
    have a1 : ((xs.length : Nat) : Int) * k ≤ 10 * k := Int.mul_le_mul_of_nonneg_right (by omega) (by omega)
    omega
  have hb : k.toNat * xs.length ≤ 100000 * 10 := Nat.mul_le_mul (by omega) hz
  have flen : (List.replicate k.toNat its).flatten.length ≤ sizeLine := by
    rw [PyProof.Rows.lm_len_rep_flat, hle, sizeLine_eq]
    omega
  have c0 : (decide (k < -(2 ^ 63)) || decide (k ≥ 2 ^ 63)) = false := by
    rw [decide_eq_false (by omega), decide_eq_false (by omega)]
    rfl
  have c1 : (its.toArray.isEmpty || k == 1) = false := by
    rw [hi, Bool.false_or]
    exact beq_eq_false_iff_ne.mpr (by omega)
  have c2 : (decide (k ≤ 0) || its.toArray.isEmpty) = false := by
    rw [hi, Bool.or_false]
    exact decide_eq_false (by omega)
  have c4 : Builtin.Tuple.tupleTooMany (((its.toArray.size : Nat) : Int) * k) = false := by
    unfold Builtin.Tuple.tupleTooMany
    rw [sizeLine_eq]
    exact decide_eq_false (by omega)
  have M := tuple_mulW l its.toArray n dd sl k t c0 c1 c2 (by omega) c4 (by rw [size_rep, List.size_toArray]; exact flen)
  refine wpAny_binaryOp_repeat_ref (T := "tuple") (U := "int") (by decide) ⟨_, ho, rfl⟩ (fun s' => typeIs_int s' k t)
    noFill_tuple_mul F.fills_int_mul F.slot_int_rmul repeat_tuple F.slot_int_index.lookup
    (call_meets F.slot_int_rmul (typeIs_int s k t) F.entry_int_rmul (F.args_int_rmul_2 _ _) (int_rmul_tuple k t l its.toArray n dd sl)
      ⟨ho, rfl, ⟨_, ho, rfl⟩, call_meets F.slot_tuple_mul ⟨_, ho, rfl⟩ F.entry_tuple_mul (F.args_tuple_mul_2 _ _) M ⟨ho, ?_⟩⟩)
  rw [size_rep]
  have hlen : (List.replicate k.toNat xs).flatten.length ≤ sizeLine := by
    rw [PyProof.Rows.lm_len_rep_flat, sizeLine_eq]
    omega
  exact ⟨.ref s.heap.objs.size, _, I.laid (t' := s.toks) (o := .tup (List.replicate k.toNat xs).flatten) (fun b ob q => Heap.get?_push_of_some _ q) (Nat.le_refl _)
    ⟨hlen, _, r.rep k.toNat, IsTup.new _ _⟩, rfl, q _ (I.hok.fresh (Nat.le_refl _))⟩

/-! ### expressions that make data, the bag of B standing by -/
/-- what is new since Hs -/
def vis (Hs H : Hp) : Hp := fun a => if (Hs a).isSome then none else H a
theorem vis_get {Hs H : Hp} {p : Addr} {o : HO} (n : Hs p = none) (h : H p = some o) : vis Hs H p = some o := by
  unfold vis
  rw [n]
  exact h
theorem vis_of {Hs H : Hp} {p : Addr} {o : HO} (h : vis Hs H p = some o) : Hs p = none ∧ H p = some o := by
  unfold vis at h
  cases q : Hs p with
  | none =>
    rw [q] at h
    exact ⟨rfl, h⟩
  | some u =>
    rw [q] at h
    cases h
theorem vis_same {Hs H : Hp} : Same (vis Hs H) H := fun a o h => (vis_of h).2
theorem vis_hid {Hs H : Hp} {B : BI} (hs : BagOk Hs B) : Same (vis Hs H) (hid B.b H) := fun a o h => by
  have n : a ≠ B.b := fun e => hs.some (e ▸ (vis_of h).1)
  rw [hid_ne n]
  exact (vis_of h).2
theorem vis_keep {Hs H H' : Hp} {B : BI} (hs : BagOk Hs B) (k : Keep B.b H H') : Same (vis Hs H) (vis Hs H') := fun a o h =>
  vis_get (vis_of h).1 (k.get (vis_of h).2 (fun e => hs.some (e ▸ (vis_of h).1)))
theorem Keep.fresh {H H' : Hp} {B : BI} {p : Addr} (k : Keep B.b H H') (hB : BagOk H' B) (h : H' p = none) : H p = none := by
  cases q : H p with
  | none => rfl
  | some o =>
    rw [k.get q (hB.ne h)] at h
    cases h
/-- te gives data d, new since Hs; nothing but the bag is changed -/
def Db (K : PySem.W.Frag) (B : BI) (Hs : Hp) (te : TE) (σ : L2.St) (H0 : Hp) (d : PyData) : Prop := ∀ H, Keep B.b Hs H → Keep B.b H0 H → BagOk H B → ∀ Q : VK,
  (∀ v H', Keep B.b H H' → BagOk H' B → Dx K (vis Hs H') v d → Q v H') → te σ H Q
def Dbs (K : PySem.W.Frag) (B : BI) (Hs : Hp) (ta : TA) (σ : L2.St) (H0 : Hp) (ds : List PyData) : Prop := ∀ H, Keep B.b Hs H → Keep B.b H0 H → BagOk H B → ∀ Q : List V → Hp → Prop,
  (∀ vs H', Keep B.b H H' → BagOk H' B → Dxs K (vis Hs H') vs ds → Q vs H') → ta σ H Q
section
variable {K : PySem.W.Frag} {B : BI} {σ : L2.St} {Hs H0 : Hp} {te : TE} {ta : TA} {d : PyData} {ds : List PyData}
theorem db_c {v : V} (h : ∀ H, Dx K H v d) : Db K B Hs (tC v) σ H0 d := fun H _ _ hB Q q => q _ H Keep.refl hB (h _)
theorem db_none : Db K B Hs (tC .non) σ H0 .none := db_c fun _ => .non
theorem db_bl {b : Bool} : Db K B Hs (tC (.bl b)) σ H0 (.bool b) := db_c fun _ => .bl b
theorem db_int {i : Int} : Db K B Hs (tC (.int i)) σ H0 (.int i) := db_c fun _ => .int i
theorem db_str {x : Str} : Db K B Hs (tC (.str x)) σ H0 (.str x) := db_c fun _ => .str x
theorem db_var {i : Nat} {v : V} (h : σ[i]? = some (some v)) (hs : BagOk Hs B) (hd : Dx K (vis Hs H0) v d) : Db K B Hs (tVar i) σ H0 d := fun H ss s hB Q q => ⟨v, h, q _ H Keep.refl hB (hd.same (vis_keep hs s))⟩
theorem db_neg {i : Int} : Db K B Hs (tUn (rU fun i => .int (-i)) (tC (.int i))) σ H0 (.int (-i)) := fun H _ _ hB Q q => ⟨i, rfl, q _ H Keep.refl hB (.int _)⟩
theorem db_pow {i j : Int} (h : CPow i j) : Db K B Hs (tOp (rI CPow fun i j => .int (i ^ j.toNat)) (tC (.int i)) (tC (.int j))) σ H0 (.int (i ^ j.toNat)) :=
  fun H _ _ hB Q q => ⟨i, j, rfl, rfl, h, q _ H Keep.refl hB (.int _)⟩
theorem db_negpow {i j : Int} (h : CPow i j) : Db K B Hs (tUn (rU fun i => .int (-i)) (tOp (rI CPow fun i j => .int (i ^ j.toNat)) (tC (.int i)) (tC (.int j)))) σ H0 (.int (-(i ^ j.toNat))) :=
  fun H _ _ hB Q q => ⟨i, j, rfl, rfl, h, _, rfl, q _ H Keep.refl hB (.int _)⟩
theorem dbs_nil : Dbs K B Hs tNil σ H0 [] := fun H _ _ hB Q q => q [] H Keep.refl hB .nil
theorem dbs_cons (hs : BagOk Hs B) (h : Db K B Hs te σ H0 d) (t : Dbs K B Hs ta σ H0 ds) : Dbs K B Hs (tCons te ta) σ H0 (d :: ds) := fun H ss s hB Q q =>
  h H ss s hB _ fun v H1 s1 hB1 hd => t H1 (ss.trans s1) (s.trans s1) hB1 _ fun vs H2 s2 hB2 hds => q _ H2 (s1.trans s2) hB2 (.cons (hd.same (vis_keep hs s2)) hds)
theorem hid_get {b p : Addr} {H : Hp} {o : HO} (n : p ≠ b) (h : H p = some o) : hid b H p = some o := by rw [hid_ne n]; exact h
theorem db_tup (hs : BagOk Hs B) (t : Dbs K B Hs ta σ H0 ds) (hl : ds.length ≤ sizeLine := by exact line200 (Nat.le_of_ble_eq_true rfl)) : Db K B Hs (tTup ta) σ H0 (.tuple ds) := fun H ss s hB Q q =>
  t H ss s hB _ fun vs H1 s1 hB1 hds => ⟨by rw [hds.length]; exact hl, fun p hp =>
    q _ _ (s1.new hp) (hB1.new hp) (.tup (SqT.of (vis_get ((ss.trans s1).fresh hB1 hp) upd_same)) (hds.same (vis_keep hs (Keep.refl.new hp))))⟩
theorem db_lst (hs : BagOk Hs B) (t : Dbs K B Hs ta σ H0 ds) (hl : ds.length ≤ sizeLine := by exact line200 (Nat.le_of_ble_eq_true rfl)) : Db K B Hs (tLst ta) σ H0 (.list ds) := fun H ss s hB Q q =>
  t H ss s hB _ fun vs H1 s1 hB1 hds => ⟨by rw [hds.length]; exact hl, fun p hp =>
    q _ _ (s1.new hp) (hB1.new hp) (.lst (SqL.of (vis_get ((ss.trans s1).fresh hB1 hp) upd_same)) (hds.same (vis_keep hs (Keep.refl.new hp))))⟩
theorem db_dnew : Db K B Hs tDNewK σ H0 (.dict []) := fun H ss s hB Q q p hp => q _ _ (Keep.refl.new hp) (hB.new hp) (.dic (.inl (vis_get (ss.fresh hB hp) upd_same)) rfl .nil)
theorem db_disp1 {x : Str} {i : Int} : Db K B Hs (tDisp [(tC (.str x), tC (.int i))]) σ H0 (.dict [(.str x, .int i)]) := fun H ss s hB Q q p hp =>
  ⟨upd_same, [(Sum.inr x, .int i)], rfl, Nat.le_of_ble_eq_true rfl, q _ _ ((Keep.refl.new hp).mut hp) ((hB.new hp).mut (hB.ne hp) (hB.neL hp))
    (.dic (kvs := [(Sum.inr x, .int i)]) (.inl (vis_get (ss.fresh hB hp) upd_same)) rfl (.cons (.int i) .nil))⟩
theorem dxs_rep {v : V} (h : Dx K H0 v d) : ∀ n : Nat, Dxs K H0 (List.replicate n [v]).flatten (List.replicate n d)
  | 0 => .nil
  | n + 1 => by
    rw [List.replicate_succ, List.flatten_cons, List.replicate_succ]
    exact .cons h (dxs_rep h n)
theorem db_rep {k : Int} (hs : BagOk Hs B) (h : Db K B Hs te σ H0 (.tuple [d])) (h2 : 2 ≤ k) (h3 : k ≤ 100000) : Db K B Hs (tOp (rRepW K) te (tC (.int k))) σ H0 (.tuple (List.replicate k.toNat d)) := fun H ss s hB Q q =>
  h H ss s hB _ fun v H1 s1 hB1 hd => by
    cases hd with
    | @tup a xs _ hq ht =>
      cases ht with
      | @cons v vs _ _ hv hr =>
        cases hr
        exact ⟨a, k, [v], rfl, rfl, sqT_same vis_same hq, by simp, h2, h3, Nat.le_of_ble_eq_true rfl, fun p hp =>
          q _ _ (s1.new hp) (hB1.new hp) (.tup (SqT.of (vis_get ((ss.trans s1).fresh hB1 hp) upd_same)) (dxs_rep (hv.same (vis_keep hs (Keep.refl.new hp))) _))⟩
end
/-! ### one layer of a reading off -/
theorem p_seq {t u : TS} {D : Ends} {σ : L2.St} {H : Hp} (h : t { D with nx := u D } σ H) : tSeq t u D σ H := h
theorem p_set {te : TE} {i : Nat} {D : Ends} {σ : L2.St} {H : Hp} (h : te σ H fun v H1 => D.nx (σ.set i (some v)) H1) : tAsg te (gName i) D σ H := h
theorem p_lst {ta : TA} {σ : L2.St} {H : Hp} {Q : VK} (h : ta σ H fun xs H1 => xs.length ≤ sizeLine ∧ ∀ p, H1 p = none → Q (.ref p) (upd H1 p (.lst xs))) : tLst ta σ H Q := h
theorem p_tup {ta : TA} {σ : L2.St} {H : Hp} {Q : VK} (h : ta σ H fun xs H1 => xs.length ≤ sizeLine ∧ ∀ p, H1 p = none → Q (.ref p) (upd H1 p (.tup xs))) : tTup ta σ H Q := h
theorem p_op {r : R2} {ta tb : TE} {σ : L2.St} {H : Hp} {Q : VK} (h : ta σ H fun x H1 => tb σ H1 fun y H2 => r x y H2 Q) : tOp r ta tb σ H Q := h
theorem p_var {i : Nat} {σ : L2.St} {H : Hp} {Q : VK} {v : V} (e : σ[i]? = some (some v)) (h : Q v H) : tVar i σ H Q := ⟨v, e, h⟩
theorem p_cons {te : TE} {ta : TA} {σ : L2.St} {H : Hp} {Q : List V → Hp → Prop} (h : te σ H fun x H1 => ta σ H1 fun xs H2 => Q (x :: xs) H2) : tCons te ta σ H Q := h
theorem p_ret {te : TE} {D : Ends} {σ : L2.St} {H : Hp} (h : te σ H D.rt) : tRet te D σ H := h
/-- what the law's values are like -/
structure Fine (n m : Nat) (d : PyData) : Prop where
  able : d.showable = true
  short : d.leavesShort 50 = true
  wt : d.weight ≤ n
  dp : d.depth ≤ m
theorem Fine.mono {n m n' m' : Nat} {d : PyData} (h : Fine n m d) (h1 : n ≤ n') (h2 : m ≤ m') : Fine n' m' d := ⟨h.able, h.short, Nat.le_trans h.wt h1, Nat.le_trans h.dp h2⟩
theorem Fine.shows {n m : Nat} {d : PyData} (h : Fine n m d) (h1 : n ≤ 200000) (h2 : m ≤ 100) : Shows d := by
  refine ⟨h.able, ?_, Nat.le_trans h.dp h2⟩
  have h3 := PyData.shown_le 50 (by decide) d h.short
  have h4 := h.wt
  rw [sizeLine_eq]
  omega
theorem Fine.str {x : Str} {n : Nat} (h : TxOk n x) : Fine n 0 (.str x) := by
  refine ⟨rfl, ?_, h.1, Nat.le_refl _⟩
  simp only [PyData.leavesShort, List.all_eq_true, decide_eq_true_eq]
  intro c hc
  exact Nat.lt_of_lt_of_le (h.2 c hc) (by decide)
end My
set_option Elab.async false
set_option linter.all false
set_option maxRecDepth 100000
set_option maxHeartbeats 4000000
/-! an own error over an own error over ValueError, whose __init__ says super().__init__(..) -/
namespace My
open PySem PySem.Spec PyProof.Rows L2 NdefX
/-- what the written part says of such a class -/
structure SupC (K : PySem.W.Frag) (C : Addr) : Prop where
  oex : OexC K C
  opq : PySem.W.nsIn K cStatics "thirdparty.any" = some none
  sup : PySem.W.ks_superIn K C C "__init__" = some (some (.builtin "ValueError.__init__"))
  sub : PySem.W.subIn K (.ref C) (.type "ValueError") = some true
  mro : PySem.W.mroIn K C (.ref C) = some true
section
variable {prog : Program} {w : World} {A : Around} {E : Value → Shared → Prop} {h : Heap} {g : Array GenState} {d : Drawn} {t : Nat} {os : OsState}
variable {nm q : Str} {C N : Addr} {bs bm : List Value} {hdct : Bool} {sn : List Str} {sub : List Value} {ab : Bool} {col : Option Bool} {dd : Option Addr} {k0 k1 k2 k3 k5 : Option Value}
/-- the bound ValueError.__init__ called -/
theorem bw_call {u e t0 : Addr} {rest : List Value} {Q : Value → Shared → Prop}
    (hC : h.get? C = some (excClassObj nm q C N bs bm hdct sn sub ab col dd k0 k1 k2 k3 k5 "ValueError.__new__")) (he : h.get? e = some (HandSPX.excO C t0))
    (hu : h.get? u = some (PySem.W.kxs_mw "ValueError.__init__" e)) (hrest : rest.length ≤ sizeLine)
    (hq : ∀ h' t1, (∀ b o, b ≠ e → h.get? b = some o → h'.get? b = some o) → h'.get? e = some (HandSPX.excO C t1) → Q .none ⟨h', g, d, t, os⟩) :
    wpAny (model prog w) A (call (.ref u) rest) Q E ⟨h, g, d, t, os⟩ := by
  refine wpAny_call (codeAny_of_tree ?_)
  show wpAny _ A.in1 (callAny (.ref u) ⟨rest, []⟩) _ _ _
  simp only [callAny]
  refine wpAny_bind (wpAny_load hu ?_)
  simp only [PySem.W.kxs_mw, show (Value.type "method-wrapper" == Value.type "method" || Value.type "method-wrapper" == Value.type "builtin_function_or_method" || Value.type "method-wrapper" == Value.type "method-wrapper") = true by decide, if_true]
  refine PySem.W.KFB.if_so (by decide) ?_
  refine wpAny_bind (PySem.W.check_bound_init F.excBase_ValueError.toExcCallFacts hC he rfl ?_)
  refine wpAny_bind (wpAny_pure (wpAny_pure ?_))
  refine ⟨plainId_quiet F.excBase_ValueError.init.plain _, codeAny_builtin F.excBase_ValueError.initEntry ?_⟩
  rw [Around.under_plainId F.excBase_ValueError.init.plain _]
  wp_walk
  refine hq _ h.objs.size (fun b o hb ho => ?_) ?_
  · rw [Heap.get?_update_other _ _ (Ne.symm hb)]
    exact Heap.get?_push_of_some _ ho
  · rw [Heap.get?_update_self _ (Heap.get?_push_of_some _ he) rfl]
    rfl
end
section
variable {P : Program} {w : World} {K : PySem.W.Frag} {mg : Str → Option Value} {base : Heap} {k : Nat} {f cc cda C : Addr}
  {name qual file : Str} {params : Arguments} {scope : Scope} {dV kV doc pm ct oc ccl cl : Value} {an od cdd cld : Option Addr} {osl ccs csl : Array (Option Value)}
  {N ps : List Str} {sp : Sp} {ar : Arg} {vc : Array Value} {tf : Tok} {p0 p1 p2 p3 p4 : Pos} {e : Expr} {es : List Expr} {rest : List Stmt}
/-- the __init__ as a nested def that captures its class -/
abbrev supF (name qual : Str) (params : Arguments) (scope : Scope) (cc cda : Addr) (p0 p1 p2 p3 p4 : Pos) (e : Expr) (es : List Expr) (rest : List Stmt) : NF :=
  ⟨name, qual, params, .Expr (.Call (.Attribute (.Call (.Name "super" p0) [] [] p1) "__init__" p2) (e :: es) [] p3) p4 :: rest, scope, [("__class__", cc)], cda⟩
theorem cell1 {h : Heap} {H : Hp} {v : Option Value} (hc : h.IsCell cc v) (hn : H cc = none) : CellsAt [(("__class__" : Str), cc)] ["__class__"] [none] h H := by
  have key : ∀ (y : Str) (c : Addr), List.lookup y [(("__class__" : Str), cc)] = some c → y = "__class__" ∧ c = cc := fun y c e => by
    by_cases q : y = "__class__"
    · subst q
      simp [List.lookup] at e
      exact ⟨rfl, e.symm⟩
    · have e' : (y == ("__class__" : Str)) = false := by simpa using q
      simp [List.lookup, e'] at e
  refine ⟨rfl, fun y c e => ?_, fun x y c h1 h2 => ?_, fun i y h => ?_⟩
  · obtain ⟨_, rfl⟩ := key y c e
    exact ⟨hn, v, hc⟩
  · exact (key x c h1).1.trans (key y c h2).1.symm
  · cases i with
    | zero =>
      obtain rfl : "__class__" = y := Option.some.inj h
      exact ⟨cc, by simp [List.lookup], fun v e => nomatch e⟩
    | succ n => simp at h
theorem fn_super
    (lk : K.lookup f = some ⟨oc, od, .func (PySem.W.ksFn name qual params (supF name qual params scope cc cda p0 p1 p2 p3 p4 e es rest).body scope dV kV doc pm an (.ref cda) ct cc), osl⟩)
    (hcd : PySem.W.codeIn K (.ref cda) qual = true) (S : NScope N ps ["__class__"] scope) (hN : N[0]? = some ar.arg)
    (hp : (params.posonlyargs ++ params.args).head? = some ar) (hka : scope.names.lookup ar.arg = some .local)
    (hks : scope.names.lookup ("super" : Str) = some .globalImplicit) (hkc : scope.names.lookup ("__class__" : Str) = some .free)
    (hcode : K.lookup cda = some ⟨ccl, cdd, .fields vc, ccs⟩) (hvs : vc[2]? = some (.str file tf)) (hfile : ((P.main.file : Str) == file) = true)
    (hcell : K.lookup cc = some ⟨cl, cld, .cell (some (.ref C)), csl⟩) (htop : (P.main.scope.names.lookup ("super" : Str)).isSome = false)
    (hm : mg "super" = none) (hboot : bootBuiltins "super" = some (.type "super")) (T : SupC K C)
    (len : ∀ vs H Q E, sp vs H Q E → vs.length = ps.length)
    (hbody : ∀ (A : Around) (outer : List Env) (s : Shared) (H : Hp) (vs : List V) (Q : VK) (E : XK),
      sp vs H Q E →
      ∃ (a : Addr) (ta : TA) (t : TS), vs[0]? = some (.ref a) ∧ H a = some (exo a C none) ∧
        PA (ncx CX0 P w K mg base N (supF name qual params scope cc cda p0 p1 p2 p3 p4 e es rest) f A outer s H E) (e :: es) ta ∧
        PSs (ncx CX0 P w K mg base N (supF name qual params scope cc cda p0 p1 p2 p3 p4 e es rest) f A outer s H E) rest t ∧
        ta (startF N vs [none]) H fun ws H1 => ws.length ≤ 1000 ∧ H1 a = some (exo a C none) ∧ t { nx := fun _ H' => Q .non H', rt := Q } (startF N vs [none]) H1)
    (hi : ∀ L, interactive (envF (supF name qual params scope cc cda p0 p1 p2 p3 p4 e es rest) f L) = false)
    (hsw : ∀ L, swapsWith (.Call (.Attribute (.Call (.Name "super" p0) [] [] p1) "__init__" p2) (e :: es) [] p3) none p4.line (envF (supF name qual params scope cc cda p0 p1 p2 p3 p4 e es rest) f L) = pure false)
    (hev : ∀ L, ∃ pl : Sem Bool, eval (.Call (.Attribute (.Call (.Name "super" p0) [] [] p1) "__init__" p2) (e :: es) [] p3) (envF (supF name qual params scope cc cda p0 p1 p2 p3 p4 e es rest) f L) = (do
      let ov ← attributeBase (.Call (.Name "super" p0) [] [] p1) "__init__" (envF (supF name qual params scope cc cda p0 p1 p2 p3 p4 e es rest) f L) (eval (.Call (.Name "super" p0) [] [] p1) (envF (supF name qual params scope cc cda p0 p1 p2 p3 p4 e es rest) f L))
      standAt p2.atName
      let (fv, first) ← holding [ov] (getMethod ov "__init__" pl)
      callWith p3 fv first (backTo p3 (starEach (e :: es) (envF (supF name qual params scope cc cda p0 p1 p2 p3 p4 e es rest) f L))) []))
    (he : ∀ env : Env, starEach (e :: es) env = (false, eval e env) :: starEach es env) (hpl : ∀ env : Env, (backTo p3 (starEach es env)).any (·.1) = false) :
    FnOk P w K mg base CX0 (k + 1) f (PySem.W.ksFn name qual params (supF name qual params scope cc cda p0 p1 p2 p3 p4 e es rest).body scope dV kV doc pm an (.ref cda) ct cc) ps sp := by
  refine ⟨len, fun A outer s H args us vs Q E hr e0 hb r hsp => ?_⟩
  have hl := len _ _ _ _ hsp
  have old : ∀ b o, base.get? b = some o → s.heap.get? b = some o := fun b o e => (e0.bs b o e).1
  have KX : K.In s.heap := e0.mod.kin.keeps old
  have lim : s.heap.NoLimit := e0.mod.nolimit.keeps old
  refine ks_codeAny_call_defAt (binds := ps.zip us) hr.depth (KX _ _ lk) rfl lim (PySem.W.codeRec_of KX hcd) rfl hb S.nocell
    (fun y hy => S.par y.1 (List.of_mem_zip hy).1) (fun h₀ hns hk₁ => ?_) S.co S.gen S.kind
  obtain ⟨a, ta, t, hv0, hea, ha, ht, hq⟩ := hbody A outer s H vs Q E hsp
  have Cl : CellsAt [(("__class__" : Str), cc)] ["__class__"] [none] s.heap H := cell1 (v := some (.ref C)) ⟨_, KX _ _ hcell, rfl⟩ (e0.bs _ _ (e0.mod.kin _ _ hcell)).2
  have I : Inv (ncx CX0 P w K mg base N (supF name qual params scope cc cda p0 p1 p2 p3 p4 e es rest) f A outer s H E) [] (startF N vs [none]) H { s with heap := h₀, toks := s.toks + (ps.zip us).length } :=
    inv_startN S hr.hd e0 hl r Cl hns hk₁
  have KI := I.kIn
  obtain ⟨t0, hoe⟩ := exo_at I.hok hea
  obtain ⟨nm, q, N', bs, bm, sn, sub, ab, col, dd, k0, k1, k2, k3, k5, hC, hbm⟩ := T.oex.cls
  have hcl : PySem.W.clsIn K C = some { name := nm, bases := bs, mro := .ref C :: bm, ns := N', qualname := q, hasDict := true, slotNames := sn, subclasses := sub, abstract := ab, collection := col, hasDel := false } := by unfold PySem.W.clsIn; rw [hC] <;> rfl
  have hsup := T.sup
  unfold PySem.W.ks_superIn at hsup
  rw [hcl] at hsup
  obtain ⟨m, hn, hloc⟩ := I.loc
  have hst : (startF N vs [none])[0]? = some (some (.ref a)) := by
    unfold startF
    cases vs with
    | nil => cases hv0
    | cons v vs =>
      obtain rfl : v = .ref a := Option.some.inj hv0
      rfl
  obtain ⟨u, ru, lk0⟩ := hloc 0 ar.arg (.ref a) hN hst (.inl hka)
  obtain rfl : u = .ref a := ru
  have hma : m ar.arg = some (.ref a) := by
    rcases lk0 with ⟨_, e⟩ | ⟨k | k, _⟩
    · exact e
    · exact absurd (hka.symm.trans k) (by decide)
    · exact absurd (hka.symm.trans k) (by decide)
  obtain ⟨mb, hb1, hb2⟩ := I.mod.blt
  show PySem.wpAt (model P w) (A.deeper (envF (supF name qual params scope cc cda p0 p1 p2 p3 p4 e es rest) f s.heap.objs.size)) (.func (supF name qual params scope cc cda p0 p1 p2 p3 p4 e es rest).body (envF (supF name qual params scope cc cda p0 p1 p2 p3 p4 e es rest) f s.heap.objs.size))
    (execs (supF name qual params scope cc cda p0 p1 p2 p3 p4 e es rest).body (envF (supF name qual params scope cc cda p0 p1 p2 p3 p4 e es rest) f s.heap.objs.size)) _ _ _
  obtain ⟨pl, hev'⟩ := hev s.heap.objs.size
  refine ks_wpAt_execs_cons (ks_wpAt_Expr_any (ks_wpAt_MethodCall (ks_wpAt_super_base (f := f) (cc := cda) hks hkc (by decide) rfl (KI _ _ lk) rfl hp rfl (KI _ _ hcode) rfl hvs hfile htop ?_) hev') (hi _) (hsw _))
  refine PySem.W.ks_loadName_global S.kind hks (Calls.loadGlobal_builtin (I.mod.glob.keeps I.bk) hm (hb1.keeps I.bk) ((hb2 _ (by decide +kernel)).trans hboot) ⟨rfl, ?_⟩)
  refine wpAny_loadName_free S.kind hkc rfl ⟨_, KI _ _ hcell, rfl⟩ ?_
  refine wpAny_loadName_local S.kind hka hn hma ?_
  refine ks_wpAny_isType_cls (KI _ _ hC) rfl ⟨rfl, ?_⟩
  refine ks_wpAny_call_super (KI _ _ hC) rfl hoe rfl (fun c e => nomatch e) (PySem.W.looks_mroIn KI T.mro) (fun h' eso kp => ?_)
  have I1 : Inv (ncx CX0 P w K mg base N (supF name qual params scope cc cda p0 p1 p2 p3 p4 e es rest) f A outer s H E) [] (startF N vs [none]) H { s with heap := h', toks := s.toks + (ps.zip us).length } := I.kept kp
  have K1 := I1.kIn
  have IA : PySem.W.InstAt h' a (HandSPX.excO C t0) C none := ⟨kp _ _ hoe, rfl, rfl, trivial⟩
  refine PySem.W.kxs_getMethod PySem.W.kxs_ValueError eso (PySem.W.looks_opaque K1 T.opq) (l₀ := .ref C :: bm) ?_ rfl K1 hsup (IA.type.andThen (PySem.W.looks_subIn K1 T.sub)) (PySem.W.ks_ne K1 IA hcl) (by decide) ?_
  · exact fun A Q E s k q => wpAny_bind ((PySem.W.looks_clsIn K1 hcl) A _ E s k (wpAny_pure q))
  have hun : h'.objs.size ≤ h'.objs.size := Nat.le_refl _
  have I2 : Inv (ncx CX0 P w K mg base N (supF name qual params scope cc cda p0 p1 p2 p3 p4 e es rest) f A outer s H E) [] (startF N vs [none]) H { s with heap := h'.push (PySem.W.kxs_mw "ValueError.__init__" a), toks := s.toks + (ps.zip us).length + 1 } :=
    I1.kept fun b o q => Heap.get?_push_of_some _ q
  have I3 := I2.pins_of (pins' := [(h'.objs.size, PySem.W.kxs_mw "ValueError.__init__" a)]) fun p hp => by
    obtain rfl : p = _ := List.mem_singleton.mp hp
    exact ⟨Heap.get?_push_at rfl rfl, I1.hok.fresh hun, (Nat.ne_of_lt I1.lt).symm, I1.nofs hun, fun v z => nomatch z⟩
  refine PySem.W.kxs_callWith (i := "ValueError.__init__") (x := a) ?_ ?_
  · rw [he]
    show (false || (backTo p3 (starEach es _)).any (·.1)) = false
    rw [hpl]
    rfl
  · rw [he]
    refine Calls.evalArgs_plain ?_
    show wpAny _ _ (spliced (backTo p3 ((false, eval e _) :: starEach es _))) _ _ _
    rw [← he]
    refine thn (ha.run p3 _ _ _ H _ I3 hq) fun us' s3 ⟨ws, H1, I4, r4, hz, hea1, q1⟩ => ?_
    have hu := (I4.pin (h'.objs.size, PySem.W.kxs_mw "ValueError.__init__" a) (List.mem_append_right _ List.mem_cons_self)).1
    refine ⟨hu, ?_⟩
    obtain ⟨t1, hoe1⟩ := exo_at I4.hok hea1
    have hlen : us'.length ≤ sizeLine := by
      rw [← Paired.length r4, sizeLine_eq]
      omega
    obtain ⟨hp3, g3, d3, t3, os3⟩ := s3
    refine bw_call (I4.kIn _ _ hC) hoe1 hu hlen fun h5 t5 kp5 hx5 => ?_
    have J := I4.write (t' := t3) (x := a) (e := a) (o := exo a C none) (by rw [hea1]; exact True.intro) (.inl rfl) kp5 ⟨_, hx5⟩ (exo_ok hx5)
    have eu : upd H1 a (exo a C none) = H1 := by
      funext b
      by_cases hb : b = a
      · rw [hb, upd_same, hea1]
      · rw [upd_ne hb]
    rw [eu] at J
    refine wpAt_of_wpAny (wpAny_mono (ht.run [] _ _ _ _ (J.pins_of fun p hp => nomatch hp) q1) (fun fl s' hs => ?_) fun e s' hs => hs)
    cases fl with
    | ret u =>
      obtain ⟨v, σ', H', J, rv, q⟩ := hs
      exact ⟨v, H', J.os, J.bare, J.base, J.hok, rv, q⟩
    | next =>
      obtain ⟨σ', H', J, q⟩ := hs
      exact ⟨V.non, H', J.os, J.bare, J.base, J.hok, rfl, q⟩
    | brk => exact hs.elim fun _ h => h.elim fun _ h => False.elim h.2
    | cont => exact hs.elim fun _ h => h.elim fun _ h => False.elim h.2
end
end My
set_option Elab.async false
set_option linter.all false
set_option maxRecDepth 100000
set_option maxHeartbeats 4000000
/-! own errors as values: made, their fields read, isinstance -/
namespace My
open PySem PySem.Spec PyProof.Rows L2 NdefX
/-- what an __init__ with super().__init__(..) and one field a parameter promises -/
def spX (C : Addr) (fs : List Str) : Sp := fun vs H Q _ => ∃ (a : Addr) (ys : List V), vs = .ref a :: ys ∧ ys.length = fs.length ∧ H a = some (exo a C none) ∧
  ∀ (dx : Addr) (H' : Hp), H dx = none → dx ≠ a → H' a = some (exo a C (some dx)) → H' dx = some (exd dx (fs.zip ys).reverse) → (∀ b, b ≠ a → b ≠ dx → H' b = H b) → Q .non H'
/-- such an __init__ as it stands in the text -/
structure FunI (P : Program) (K : PySem.W.Frag) (qual : Str) (st : Stmt) (f C : Addr) (fd : FuncData) : Prop where
  ex : ∃ (oc : Value) (od : Option Addr) (kV doc pm : Value) (an : Option Addr) (cda : Addr) (ct : Value) (cc : Addr) (osl : Array (Option Value)) (ccl : Value) (cdd : Option Addr) (vc : Array Value) (ccs : Array (Option Value)) (file : Str) (tf : Tok)
      (cl : Value) (cld : Option Addr) (csl : Array (Option Value)),
    fd = PySem.W.ksFn "__init__" qual (defArgs st) (defBody st) (defScope st) .none kV doc pm an (.ref cda) ct cc ∧ K.lookup f = some ⟨oc, od, .func fd, osl⟩ ∧ PySem.W.codeIn K (.ref cda) qual = true ∧
    K.lookup cda = some ⟨ccl, cdd, .fields vc, ccs⟩ ∧ vc[2]? = some (.str file tf) ∧ ((P.main.file : Str) == file) = true ∧ K.lookup cc = some ⟨cl, cld, .cell (some (.ref C)), csl⟩
section
variable {P : Program} {w : World} {K : PySem.W.Frag} {mg : Str → Option Value} {base : Heap} {k : Nat} {f C : Addr} {fd : FuncData} {qual : Str} {st : Stmt}
  {N ps : List Str} {sp : Sp} {ar : Arg} {p0 p1 p2 p3 p4 : Pos} {e : Expr} {es : List Expr} {rest : List Stmt}
theorem FunI.ok (F : FunI P K qual st f C fd) (hbd : defBody st = .Expr (.Call (.Attribute (.Call (.Name "super" p0) [] [] p1) "__init__" p2) (e :: es) [] p3) p4 :: rest)
    (S : NScope N ps ["__class__"] (defScope st)) (hN : N[0]? = some ar.arg)
    (hp : ((defArgs st).posonlyargs ++ (defArgs st).args).head? = some ar) (hka : (defScope st).names.lookup ar.arg = some .local)
    (hks : (defScope st).names.lookup ("super" : Str) = some .globalImplicit) (hkc : (defScope st).names.lookup ("__class__" : Str) = some .free)
    (htop : (P.main.scope.names.lookup ("super" : Str)).isSome = false)
    (hm : mg "super" = none) (T : SupC K C)
    (len : ∀ vs H Q E, sp vs H Q E → vs.length = ps.length)
    (hbody : ∀ (X : Cx) (vs : List V) (H : Hp) (Q : VK) (E : XK), X.K = K → X.N = N → X.env.scope = defScope st → sp vs H Q E →
      ∃ (a : Addr) (ta : TA) (t : TS), vs[0]? = some (.ref a) ∧ H a = some (exo a C none) ∧ PA X (e :: es) ta ∧ PSs X rest t ∧
        ta (startF N vs [none]) H fun ws H1 => ws.length ≤ 1000 ∧ H1 a = some (exo a C none) ∧ t { nx := fun _ H' => Q .non H', rt := Q } (startF N vs [none]) H1)
    (hi : ∀ env : Env, env.scope = defScope st → interactive env = false)
    (hsw : ∀ env : Env, env.scope = defScope st → swapsWith (.Call (.Attribute (.Call (.Name "super" p0) [] [] p1) "__init__" p2) (e :: es) [] p3) none p4.line env = pure false)
    (hev : ∀ env : Env, env.scope = defScope st → ∃ pl : Sem Bool, eval (.Call (.Attribute (.Call (.Name "super" p0) [] [] p1) "__init__" p2) (e :: es) [] p3) env = (do
      let ov ← attributeBase (.Call (.Name "super" p0) [] [] p1) "__init__" env (eval (.Call (.Name "super" p0) [] [] p1) env)
      standAt p2.atName
      let (fv, first) ← holding [ov] (getMethod ov "__init__" pl)
      callWith p3 fv first (backTo p3 (starEach (e :: es) env)) []))
    (he : ∀ env : Env, starEach (e :: es) env = (false, eval e env) :: starEach es env) (hpl : ∀ env : Env, (backTo p3 (starEach es env)).any (·.1) = false) :
    FnOk P w K mg base CX0 (k + 1) f fd ps sp := by
  obtain ⟨oc, od, kV, doc, pm, an, cda, ct, cc, osl, ccl, cdd, vc, ccs, file, tf, cl, cld, csl, rfl, lk, hcd, hcode, hvs, hfile, hcell⟩ := F.ex
  rw [hbd] at lk ⊢
  exact fn_super lk hcd S hN hp hka hks hkc hcode hvs hfile hcell htop hm (by decide +kernel) T len (fun A outer s H vs Q E h => hbody _ vs H Q E rfl rfl rfl h) (fun L => hi _ rfl) (fun L => hsw _ rfl) (fun L => hev _ rfl) he hpl

variable {p5 p6 p7 p8 p9 q5 q6 q7 q8 q9 : Pos} {x y : Str}
theorem init1 (F : FunI P K qual st f C fd)
    (hbd : defBody st = [.Expr (.Call (.Attribute (.Call (.Name "super" p0) [] [] p1) "__init__" p2) [.Name x p5] [] p3) p4, .Assign [.Attribute (.Name "self" p6) x p7] (.Name x p8) p9])
    (S : NScope ["self", x, "__class__"] ["self", x] ["__class__"] (defScope st)) (hp : ((defArgs st).posonlyargs ++ (defArgs st).args).head? = some ar) (har : ar.arg = "self")
    (hks : (defScope st).names.lookup ("super" : Str) = some .globalImplicit) (htop : (P.main.scope.names.lookup ("super" : Str)).isSome = false) (hm : mg "super" = none) (T : SupC K C)
    (hev : ∀ env : Env, ∃ pl : Sem Bool, eval (.Call (.Attribute (.Call (.Name "super" p0) [] [] p1) "__init__" p2) [.Name x p5] [] p3) env = (do
      let ov ← attributeBase (.Call (.Name "super" p0) [] [] p1) "__init__" env (eval (.Call (.Name "super" p0) [] [] p1) env)
      standAt p2.atName
      let (fv, first) ← holding [ov] (getMethod ov "__init__" pl)
      callWith p3 fv first (backTo p3 (starEach [.Name x p5] env)) []))
    (hno : PySem.W.findIn K (.ref C) x = some none) (hd1 : (x == ("__debug__" : Str)) = false) (hd2 : (x == ("__classdict__" : Str)) = false) : FnOk P w K mg base CX0 (k + 1) f fd ["self", x] (spX C [x]) := by
  refine F.ok hbd S (by rw [har]; rfl) hp (by rw [har]; exact S.par _ List.mem_cons_self) hks (S.frk _ List.mem_cons_self) htop hm T (fun vs H Q E h => ?_) (fun X vs H Q E hK hN hs h => ?_)
    (fun env h => ?_) (fun env h => ?_) (fun env h => ?_) (fun env => rfl) (fun env => rfl)
  · obtain ⟨a, ys, rfl, hl, _⟩ := h
    exact congrArg Nat.succ hl
  · obtain ⟨a, ys, rfl, hl, ha, q⟩ := h
    obtain ⟨y, rfl⟩ : ∃ y, ys = [y] := by
      match ys, hl with
      | [y], _ => exact ⟨y, rfl⟩
    have v0 : ∀ pos, PE X (.Name "self" pos) (tVar 0) := fun pos => pe_var (by rw [hN]; rfl) (.inl (by rw [hs]; exact S.par _ List.mem_cons_self)) (by decide) (by decide)
    have v1 : ∀ pos, PE X (.Name x pos) (tVar 1) := fun pos => pe_var (by rw [hN]; rfl) (.inl (by rw [hs]; exact S.par _ (List.mem_cons_of_mem _ List.mem_cons_self))) hd1 hd2
    refine ⟨a, _, _, rfl, ha, pa_cons (v1 _) pa_nil, pss_one (ps_ost (v0 _) (v1 _)), ?_⟩
    refine ⟨_, rfl, Nat.le_of_ble_eq_true rfl, ha, _, rfl, _, rfl, a, C, rfl, by rw [hK]; exact T.oex, by rw [hK]; exact hno, .inl ⟨ha, fun dx hd hne => ?_⟩⟩
    exact q dx _ hd hne upd_same (by rw [upd_ne hne, upd_same]; rfl) (fun b h1 h2 => by rw [upd_ne h1, upd_ne h2])
  · unfold interactive
    rw [h, S.kind]
    rfl
  · rfl
  · exact hev env
theorem init2 (F : FunI P K qual st f C fd)
    (hbd : defBody st = [.Expr (.Call (.Attribute (.Call (.Name "super" p0) [] [] p1) "__init__" p2) [.Name x p5, .Name y q5] [] p3) p4, .Assign [.Attribute (.Name "self" p6) x p7] (.Name x p8) p9, .Assign [.Attribute (.Name "self" q6) y q7] (.Name y q8) q9])
    (S : NScope ["self", x, y, "__class__"] ["self", x, y] ["__class__"] (defScope st)) (hp : ((defArgs st).posonlyargs ++ (defArgs st).args).head? = some ar) (har : ar.arg = "self")
    (hks : (defScope st).names.lookup ("super" : Str) = some .globalImplicit) (htop : (P.main.scope.names.lookup ("super" : Str)).isSome = false) (hm : mg "super" = none) (T : SupC K C)
    (hev : ∀ env : Env, ∃ pl : Sem Bool, eval (.Call (.Attribute (.Call (.Name "super" p0) [] [] p1) "__init__" p2) [.Name x p5, .Name y q5] [] p3) env = (do
      let ov ← attributeBase (.Call (.Name "super" p0) [] [] p1) "__init__" env (eval (.Call (.Name "super" p0) [] [] p1) env)
      standAt p2.atName
      let (fv, first) ← holding [ov] (getMethod ov "__init__" pl)
      callWith p3 fv first (backTo p3 (starEach [.Name x p5, .Name y q5] env)) []))
    (hno : PySem.W.findIn K (.ref C) x = some none) (hno2 : PySem.W.findIn K (.ref C) y = some none) (hd1 : (x == ("__debug__" : Str)) = false) (hd2 : (x == ("__classdict__" : Str)) = false) (hd3 : (y == ("__debug__" : Str)) = false) (hd4 : (y == ("__classdict__" : Str)) = false) :
    FnOk P w K mg base CX0 (k + 1) f fd ["self", x, y] (spX C [x, y]) := by
  refine F.ok hbd S (by rw [har]; rfl) hp (by rw [har]; exact S.par _ List.mem_cons_self) hks (S.frk _ List.mem_cons_self) htop hm T (fun vs H Q E h => ?_) (fun X vs H Q E hK hN hs h => ?_)
    (fun env h => ?_) (fun env h => ?_) (fun env h => ?_) (fun env => rfl) (fun env => rfl)
  · obtain ⟨a, ys, rfl, hl, _⟩ := h
    exact congrArg Nat.succ hl
  · obtain ⟨a, ys, rfl, hl, ha, q⟩ := h
    obtain ⟨y1, y2, rfl⟩ : ∃ y1 y2, ys = [y1, y2] := by
      match ys, hl with
      | [y1, y2], _ => exact ⟨y1, y2, rfl⟩
    have v0 : ∀ pos, PE X (.Name "self" pos) (tVar 0) := fun pos => pe_var (by rw [hN]; rfl) (.inl (by rw [hs]; exact S.par _ List.mem_cons_self)) (by decide) (by decide)
    have v1 : ∀ pos, PE X (.Name x pos) (tVar 1) := fun pos => pe_var (by rw [hN]; rfl) (.inl (by rw [hs]; exact S.par _ (List.mem_cons_of_mem _ List.mem_cons_self))) hd1 hd2
    have v2 : ∀ pos, PE X (.Name y pos) (tVar 2) := fun pos => pe_var (by rw [hN]; rfl) (.inl (by rw [hs]; exact S.par _ (List.mem_cons_of_mem _ (List.mem_cons_of_mem _ List.mem_cons_self)))) hd3 hd4
    refine ⟨a, _, _, rfl, ha, pa_cons (v1 _) (pa_cons (v2 _) pa_nil), pss_cons (ps_ost (v0 _) (v1 _)) (pss_one (ps_ost (v0 _) (v2 _))), ?_⟩
    refine ⟨_, rfl, _, rfl, Nat.le_of_ble_eq_true rfl, ha, _, rfl, _, rfl, a, C, rfl, by rw [hK]; exact T.oex, by rw [hK]; exact hno, .inl ⟨ha, fun dx hd hne => ?_⟩⟩
    refine ⟨_, rfl, _, rfl, a, C, rfl, by rw [hK]; exact T.oex, by rw [hK]; exact hno2, .inr ⟨dx, [(x, y1)], upd_same, by rw [upd_ne hne, upd_same], Nat.le_of_ble_eq_true rfl, ?_⟩⟩
    exact q dx _ hd hne (by rw [upd_ne (Ne.symm hne), upd_same]) (by rw [upd_same]; rfl) (fun b h1 h2 => by rw [upd_ne h2, upd_ne h1, upd_ne h2])
  · unfold interactive
    rw [h, S.kind]
    rfl
  · rfl
  · exact hev env
end
end My
set_option Elab.async false
set_option linter.all false
set_option maxRecDepth 100000
set_option maxHeartbeats 4000000
/-! own errors as values: made, their fields read, isinstance -/
namespace My
open PySem PySem.Spec PyProof.Rows L2 NdefX
/-- C(e, ..) as a value, C's own __init__ keeping sp -/
def tMkV (C : Addr) (sp : Sp) (ta : TA) : TE := fun σ H Q => ta σ H fun vs H1 => vs.length ≤ 1000 ∧ ∀ a, H1 a = none → sp (.ref a :: vs) (upd H1 a (exo a C none)) (fun v H2 => v = .non ∧ Q (.ref a) H2) (fun _ _ _ => False)
section
variable {X : Cx} {x : Str} {C fI : Addr} {k : Nat} {fd : FuncData} {ps : List Str} {sp : Sp} {e : Expr} {es : List Expr} {ta : TA} {p pos : Pos}
theorem pe_oexV (T : OexC X.K C) (iC : PySem.W.findIn X.K (.ref C) "__init__" = some (some (.ref fI))) (tI : PySem.W.typeIn X.K (.ref fI) = some (.type "function"))
    (F1 : FnOk X.prog X.w X.K X.mg X.base CX0 k fI fd ps sp) (hr : Room (k + 1) X.A) (hb : Binds X.K fd ps []) (hg : Gl X x) (hm : X.mg x = some (.ref C)) (ha : PA X (e :: es) ta)
    (hdb : (x == ("__debug__" : Str)) = false := by decide) (he : starEach (e :: es) X.env = (false, eval e X.env) :: starEach es X.env := by rfl) (hpl : (backTo pos (starEach es X.env)).any (·.1) = false := by rfl) :
    PE X (.Call (.Name x p) (e :: es) [] pos) (tMkV C sp ta) := by
  refine ⟨fun pins s σ H Q I h => ?_⟩
  obtain ⟨nm, q, N, bs, bm, sn, sub, ab, col, dd, k0, k1, k2, k3, k5, hC, hbm⟩ := T.cls
  refine wpAny_Call_Name_kw (ld_glob I hg hm ?_ hdb)
  refine PySem.W.callWith_K (h₀ := X.base) I.ok.mod.kin T.kC (thn (ha.run pos pins s σ H _ I h) fun us s1 ⟨vs, H1, I1, r1, hz, q1⟩ => ⟨I1.kIn, ?_⟩) he hpl
  show wpAny _ _ (call (.ref C) us) _ _ _
  obtain ⟨hp, g, dr, tk, os⟩ := s1
  have hsz : hp.objs.size ≤ hp.objs.size + 1 := Nat.le_succ _
  have hn : H1 (hp.objs.size + 1) = none := I1.hok.fresh hsz
  have hq := q1 (hp.objs.size + 1) hn
  have kk : ∀ b o, hp.get? b = some o → ((hp.push (PySem.W.kdv_tup us)).push (PySem.HandSPX.excO C hp.objs.size)).get? b = some o := fun b o e => Heap.get?_push_of_some _ (Heap.get?_push_of_some _ e)
  have hget : ((hp.push (PySem.W.kdv_tup us)).push (PySem.HandSPX.excO C hp.objs.size)).get? (hp.objs.size + 1) = some (PySem.HandSPX.excO C hp.objs.size) := by heap_get
  have I2 : Inv X pins σ (upd H1 (hp.objs.size + 1) (exo (hp.objs.size + 1) C none)) ⟨(hp.push (PySem.W.kdv_tup us)).push (PySem.HandSPX.excO C hp.objs.size), g, dr, tk, os⟩ :=
    I1.laid (t' := tk) (a := hp.objs.size + 1) (o := exo (hp.objs.size + 1) C none) (h' := (hp.push (PySem.W.kdv_tup us)).push (PySem.HandSPX.excO C hp.objs.size)) kk hsz (exo_ok hget)
  have r2 : Vals (V.ref (hp.objs.size + 1) :: vs) (Value.ref (hp.objs.size + 1) :: us) := .cons rfl r1
  have hl : (Value.ref (hp.objs.size + 1) :: us ++ []).length = ps.length := by
    rw [List.append_nil]
    have e := r2.length
    rw [F1.len _ _ _ _ hq] at e
    exact e.symm
  have hus : us.length ≤ sizeLine := by
    rw [← Paired.length r1, sizeLine_eq]
    omega
  have b2 := hb ⟨(hp.push (PySem.W.kdv_tup us)).push (PySem.HandSPX.excO C hp.objs.size), g, dr, tk, os⟩ (Value.ref (hp.objs.size + 1) :: us) I2.kIn hl
  rw [List.append_nil] at b2
  refine wpAny_call (PySem.HandSPX.call_own F.excBase_ValueError (fun Y => PySem.HandSPX.refsVE_contains Y bm hbm) (I1.kIn _ _ hC) (PySem.W.looks_findIn I1.kIn iC) (fun self => PySem.W.bind_fn I1.kIn self tI) hus
    (codeAny_mono (F1.run _ X.stack _ _ ⟨Value.ref (hp.objs.size + 1) :: us, []⟩ (Value.ref (hp.objs.size + 1) :: us) _ _ (fun _ _ _ => False) (hr.make C us []) (I2.env0.make C us []) b2 r2 hq) fun r s' hq' => ?_))
  cases r with
  | error er => exact False.elim hq'
  | ok fl =>
    cases fl with
    | ret u =>
      obtain ⟨v, H2, J, rv, ev, q2⟩ := I2.after hq'
      subst ev
      exact ⟨rv, .ref (hp.objs.size + 1), H2, J, rfl, q2⟩
    | next => exact False.elim hq'
    | brk => exact False.elim hq'
    | cont => exact False.elim hq'
/-- C() as a value, C without own __init__ -/
theorem pe_ex0V (q : PySem.W.excIn X.K C PySem.HandSPX.veTail "ValueError.__new__" = true) (kC : PySem.W.keepIn X.K (.ref C) = true) (hg : Gl X x) (gC : X.mg x = some (.ref C)) (hdb : (x == ("__debug__" : Str)) = false := by decide) :
    PE X (.Call (.Name x p) [] [] pos) (fun σ H Q => ∀ a, H a = none → Q (.ref a) (upd H a (exo a C none))) := by
  refine ⟨fun pins s σ H Q I h => ?_⟩
  refine wpAny_Call_Name_kw (ld_glob I hg gC ?_ hdb)
  refine PySem.W.callWith_K0 I.kIn kC ?_
  show wpAny _ _ (call (.ref C) []) _ _ _
  obtain ⟨bm, N, nm, qn, bs, hdct, sn, sub, ab, col, dd, k0, k1, k2, k3, k5, mN, hC, hN, hni, T⟩ := exc_obj I.kIn q
  refine wpAny_call_exc_subT F.excBase_ValueError T hC hN hni (fun h' a hm => ?_) (by show 0 ≤ sizeLine; exact Nat.zero_le _)
  have hn : H a = none := I.hok.gone hm.new
  obtain ⟨t, ht, _, _⟩ := hm.there
  exact ⟨.ref a, upd H a (exo a C none), I.laidN hm.keeps hm.new hn (exo_ok ht), rfl, h a hn⟩
/-- C() made to be raised -/
theorem pmk_ex0 (q : PySem.W.excIn X.K C PySem.HandSPX.veTail "ValueError.__new__" = true) (kC : PySem.W.keepIn X.K (.ref C) = true) (r : Raises X (.ref C)) (hg : Gl X x) (gC : X.mg x = some (.ref C)) (hdb : (x == ("__debug__" : Str)) = false := by decide) :
    PMk X (.Call (.Name x p) [] [] pos) (fun σ H Q => Q (.ref C) none H) := by
  intro pins s σ H Q I h
  refine wpAny_Call_Name_kw (ld_glob I hg gC ?_ hdb)
  refine PySem.W.callWith_K0 I.kIn kC ?_
  show wpAny _ _ (call (.ref C) []) _ _ _
  obtain ⟨bm, N, nm, qn, bs, hdct, sn, sub, ab, col, dd, k0, k1, k2, k3, k5, mN, hC, hN, hni, T⟩ := exc_obj I.kIn q
  refine wpAny_call_exc_subT F.excBase_ValueError T hC hN hni (fun h' a hm => ?_) (by show 0 ≤ sizeLine; exact Nat.zero_le _)
  exact mk_of I hm r h (I.hok.gone hm.new)
/-- e.f -/
def tXv (K : PySem.W.Frag) (f : Str) (te : TE) : TE := fun σ H Q => te σ H fun x H1 => ∃ (a C dd : Addr) (fs : List (Str × V)) (v : V), x = .ref a ∧ H1 a = some (exo a C (some dd)) ∧ H1 dd = some (exd dd fs) ∧ XfC K C ∧ PySem.W.findIn K (.ref C) f = some none ∧ fs.lookup f = some v ∧ Q v H1
theorem pe_xfv {te : TE} {n : Str} (he : PE X e te) (hb : attributeBase e n X.env (eval e X.env) = eval e X.env := by rfl) : PE X (.Attribute e n pos) (tXv X.K n te) := by
  refine ⟨fun pins s σ H Q I h => ?_⟩
  refine attr_of hb (thn (he.run pins s σ H _ I h) fun u s1 hh => ?_)
  obtain ⟨x, H1, I1, rx, a, C, dd, fs, v, ex, ea, ed, T, hno, l, q⟩ := hh
  subst ex
  obtain rfl : u = Value.ref a := rx
  obtain ⟨t1, ha⟩ := exo_at I1.hok ea
  obtain ⟨mA, hns, hr⟩ := exd_at I1.hok ed
  obtain ⟨od, ho, hl⟩ := lookIn_ns hns
  obtain ⟨u, hu, ru⟩ := RelO.some_of (v := v) (o := mA n) (by rw [← l]; exact hr n)
  have J : PySem.W.InstAt s1.heap a ({ cls := .ref C, dict := some dd, data := .fields #[.ref t1, .none, .none, .none, .bool false, .none] } : Obj) C (some od) := ⟨ha, rfl, rfl, ho⟩
  exact HandSPX.exc_get I1.kIn J T.ga T.gg T.exC (PySem.W.findObj_own T.hdC hno rfl (by rw [hl, hu])) (handed_of ru) ⟨v, H1, I1.tok _, ru, q⟩
/-- an error of class D stands at a -/
def IsX (H : Hp) (a D : Addr) : Prop := H a = some (exo a D none) ∨ ∃ dd fs, H a = some (exo a D (some dd)) ∧ H dd = some (exd dd fs)
theorem IsX.same {H H' : Hp} {a D : Addr} (s : Same H H') (h : IsX H a D) : IsX H' a D := by
  rcases h with h | ⟨dd, fs, h1, h2⟩
  · exact .inl (s _ _ h)
  · exact .inr ⟨dd, fs, s _ _ h1, s _ _ h2⟩
/-- isinstance(e, c) -/
def rIsX (K : PySem.W.Frag) : List V → Hp → VK → Prop := fun xs H Q => ∃ (a D : Addr) (c : V) (cv : Value) (b : Bool), xs = [.ref a, c] ∧ IsX H a D ∧ ExcC K D ∧ (∀ u, L2.RelV c u → u = cv) ∧ PySem.W.kitOne K (.ref D) cv = some b ∧ Q (.bl b) H
theorem isx_inst {pins : List (Addr × Obj)} {σ : L2.St} {H : Hp} {s : Shared} {a D : Addr} (I : Inv X pins σ H s) (h : IsX H a D) : ∃ ox od, PySem.W.InstAt s.heap a ox D od := by
  rcases h with h | ⟨dd, fs, h1, h2⟩
  · obtain ⟨t1, ha⟩ := exo_at I.hok h
    exact ⟨_, none, ha, rfl, rfl, trivial⟩
  · obtain ⟨t1, ha⟩ := exo_at I.hok h1
    obtain ⟨mA, hns, hr⟩ := exd_at I.hok h2
    obtain ⟨od, ho, hl⟩ := lookIn_ns hns
    exact ⟨_, some od, ha, rfl, rfl, ho⟩
theorem call_isX : CallR X (.builtin "isinstance") (rIsX X.K) := by
  intro pins s σ H xs us Q I r h
  obtain ⟨a, D, c, cv, b, rfl, hx, C, hcv, e, q⟩ := h
  cases r with
  | cons rx rr =>
    cases rr with
    | cons rt rr =>
      cases rr
      cases rx
      have ec := hcv _ rt
      subst ec
      obtain ⟨ox, od, J⟩ := isx_inst I hx
      obtain ⟨cd, hc, _⟩ := PySem.W.any_some C.hd
      exact PySem.W.kia_one (PySem.W.kitx_exc (by rw [hc]; rfl) C.hg C.hk C.hs C.ha C.hn C.ht C.hm) I.kIn J e (fun z => nomatch z) fun tk => ⟨.bl b, H, I.kept (t' := tk) fun _ _ z => z, rfl, q⟩
end
end My
set_option Elab.async false
set_option linter.all false
set_option maxRecDepth 100000
set_option maxHeartbeats 4000000
/-! a def called in an except suite with the error that is handled -/
namespace My
open PySem PySem.Spec PyProof.Rows L2 NdefX
open L2H (RoomH PinOk cxH inv_startH)
/-- the error that is held at p is of class D -/
def IsP (H : Hp) (p : Addr × Obj) (D : Addr) : Prop := p.2.cls = .ref D ∧ (∃ vs, p.2.data = .fields vs) ∧ (p.2.dict = none ∨ ∃ dd fs, p.2.dict = some dd ∧ H dd = some (.xd fs))
theorem IsP.same {H H' : Hp} {p : Addr × Obj} {D : Addr} (s : Same H H') (h : IsP H p D) : IsP H' p D := by
  obtain ⟨h1, h2, h | ⟨dd, fs, h3, h4⟩⟩ := h
  · exact ⟨h1, h2, .inl h⟩
  · exact ⟨h1, h2, .inr ⟨dd, fs, h3, s _ _ h4⟩⟩
def rIsP (K : PySem.W.Frag) (p : Addr × Obj) : List V → Hp → VK → Prop := fun xs H Q => ∃ (D : Addr) (c : V) (cv : Value) (b : Bool), xs = [.ref p.1, c] ∧ IsP H p D ∧ ExcC K D ∧ (∀ u, L2.RelV c u → u = cv) ∧ PySem.W.kitOne K (.ref D) cv = some b ∧ Q (.bl b) H
theorem call_isP {X : Cx} {p : Addr × Obj} (hp : p ∈ X.pn) : CallR X (.builtin "isinstance") (rIsP X.K p) := by
  intro pins s σ H xs us Q I r h
  obtain ⟨D, c, cv, b, rfl, ⟨hc1, ⟨vs, hd⟩, hx⟩, C, hcv, e, q⟩ := h
  cases r with
  | cons rx rr =>
    cases rr with
    | cons rt rr =>
      cases rr
      cases rx
      have ec := hcv _ rt
      subst ec
      have hg := (I.pin p (List.mem_append_left _ hp)).1
      have J : ∃ od, PySem.W.InstAt s.heap p.1 p.2 D od := by
        rcases hx with hx | ⟨dd, fs, h3, h4⟩
        · exact ⟨none, hg, hc1, by unfold PySem.W.notCls; rw [hd] <;> rfl, by rw [hx]; trivial⟩
        · obtain ⟨mA, hns, hr⟩ := (I.hok dd _ h4 : ObjOk X.prog X.w H s.heap dd (.xd fs))
          obtain ⟨od, ho, hl⟩ := lookIn_ns hns
          exact ⟨some od, hg, hc1, by unfold PySem.W.notCls; rw [hd] <;> rfl, by rw [h3]; exact ho⟩
      obtain ⟨od, J⟩ := J
      obtain ⟨cd, hc, _⟩ := PySem.W.any_some C.hd
      exact PySem.W.kia_one (PySem.W.kitx_exc (by rw [hc]; rfl) C.hg C.hk C.hs C.ha C.hn C.ht C.hm) I.kIn J e (fun z => nomatch z) fun tk => ⟨.bl b, H, I.kept (t' := tk) fun _ _ z => z, rfl, q⟩
/-- a def's promise where an error is handled -/
structure FnP (P : Program) (w : World) (K : PySem.W.Frag) (mg : Str → Option Value) (base : Heap) (k : Nat) (f : Addr) (fd : FuncData) (ps : List Str) (sp : Addr × Obj → Sp) : Prop where
  len : ∀ p vs H Q E, sp p vs H Q E → vs.length = ps.length
  run : ∀ (A : Around) (outer : List Env) (s : Shared) (H : Hp) (args : Args) (us : List Value) (vs : List V) (Q : VK) (E : XK) (p : Addr × Obj), RoomH k A → PinOk outer H s p → Env0 P w K mg base A outer s H → BindsTo s fd args (ps.zip us) → Vals vs us →
    sp p vs H Q E → codeAny (model P w) A (.call (.ref f) args) (CR CX0 outer P w H s Q E) s
section
variable {P : Program} {w : World} {K : PySem.W.Frag} {mg : Str → Option Value} {base : Heap} {k : Nat} {f : Addr} {fd : FuncData} {ps : List Str} {sp : Addr × Obj → Sp}
theorem okP {x qual : Str} {st : Stmt} {N : List Str} (F : Fun K x qual st f fd) (S : FnScope N ps (defScope st)) (len : ∀ p vs H Q E, sp p vs H Q E → vs.length = ps.length)
    (hbody : ∀ (cdv : Value) (A : Around) (outer : List Env) (s : Shared) (H : Hp) (vs : List V) (Q : VK) (E : XK) (p : Addr × Obj), RoomH k (A.deeper (envOfC qual (defScope st) s.heap.objs.size f cdv)) → sp p vs H Q E →
      ∃ t, PSs (cxH CX0 P w K mg base N qual (defScope st) f cdv A outer s H E p).nox (defBody st) t ∧ t { nx := fun _ H' => Q .non H', rt := Q } (start N vs) H) :
    FnP P w K mg base (k + 1) f fd ps sp := by
  obtain ⟨oc, od, kV, doc, pm, an, cdv, ct, osl, rfl, lk, hcd⟩ := F.ex
  refine ⟨len, fun A outer s H args us vs Q E p hr hpin e0 hb r hsp => ?_⟩
  have hl := len _ _ _ _ _ hsp
  have old : ∀ b o, base.get? b = some o → s.heap.get? b = some o := fun b o e => (e0.bs b o e).1
  have KX : K.In s.heap := e0.mod.kin.keeps old
  have lim : s.heap.NoLimit := e0.mod.nolimit.keeps old
  have hkind : ∀ y ∈ ps.zip us, (defScope st).names.lookup y.1 = some .local ∨ ((defScope st).names.lookup y.1 = some .cell ∧ ((cellsFrom (s.heap.objs.size + 1) (defScope st).names []).lookup y.1).isSome = true) := by
    rintro ⟨n, v⟩ hy
    rcases S.par n (List.of_mem_zip hy).1 with q | q
    · exact .inl q
    · exact .inr ⟨q, PySem.W.cellsFrom_some _ _ _ (.inl q)⟩
  refine codeAny_call_function hr.depth (KX _ _ lk) rfl S.co S.gen rfl (PySem.W.codeRec_of KX hcd) (hb _ _ _ _ ?_)
  refine wpAny_newFunctionEnv_cells S.kind hkind fun env he s1 x => ?_
  subst he
  refine ⟨lim.keeps x.toInCall.keep, codeAny_func ?_⟩
  obtain ⟨t, ht, hq⟩ := hbody cdv A outer s H vs Q E p (hr.deeper _) hsp
  have I := inv_startH (CX := CX0) (E := E) (N := N) S hpin e0 hl r x
  refine wpAny_mono (ht.nox.run [] s1 (start N vs) H _ I hq) ?_ (fun e s' hs => hs)
  intro fl s' hs
  cases fl with
  | ret u =>
    obtain ⟨v, σ', H', J, rv, q⟩ := hs
    exact ⟨v, H', J.os, J.bare, J.base, J.hok, rv, q⟩
  | next =>
    obtain ⟨σ', H', J, q⟩ := hs
    exact ⟨V.non, H', J.os, J.bare, J.base, J.hok, rfl, q⟩
  | brk => exact hs.elim fun _ h => h.elim fun _ h => False.elim h.2
  | cont => exact hs.elim fun _ h => h.elim fun _ h => False.elim h.2
end
section
variable {X : Cx} {k : Nat} {f : Addr} {fd : FuncData} {ps : List Str} {sp : Addr × Obj → Sp} {x : Str} {q pos : Pos} {e : Expr} {es : List Expr} {t : TA} {p : Addr × Obj}
theorem pe_callP (F : FnP X.prog X.w X.K X.mg X.base k f fd ps sp) (hr : RoomH k X.A) (hp : p ∈ X.pn) (hg : Gl X x) (hm : X.mg x = some (.ref f)) (hk : PySem.W.keepIn X.K (.ref f) = true) (hb : Binds X.K fd ps [])
    (ha : PA X (e :: es) t) (hdb : (x == ("__debug__" : Str)) = false := by decide) (he : starEach (e :: es) X.env = (false, eval e X.env) :: starEach es X.env := by rfl) (hpl : (backTo pos (starEach es X.env)).any (·.1) = false := by rfl) :
    PE X (.Call (.Name x q) (e :: es) [] pos) (fun σ H Q => t σ H fun vs H1 => sp p vs H1 Q (fun _ _ _ => False)) := by
  refine ⟨fun pins s σ H Q I h => wpAny_Call_Name_kw (ld_glob I hg hm ?_ hdb)⟩
  refine PySem.W.callWith_K (h₀ := X.base) I.ok.mod.kin hk (thn (ha.run pos pins s σ H _ I h) fun us s1 ⟨vs, H1, I1, r, h1⟩ => ⟨I1.kIn, ?_⟩) he hpl
  have hl : us.length = ps.length := by rw [← r.length]; exact F.len _ _ _ _ _ h1
  have b := hb s1 us I1.kIn (by rw [List.append_nil]; exact hl)
  rw [List.append_nil] at b
  have P1 := I1.pin p (List.mem_append_left _ hp)
  have hpin : PinOk X.stack H1 s1 p := ⟨P1.1, P1.2.1, fun hm => (List.mem_cons.mp (I1.stkSub p.1 hm)).elim P1.2.2.1 P1.2.2.2.1, P1.2.2.2.2⟩
  show wpAny _ _ (call (.ref f) us) _ _ _
  refine wpAny_call (codeAny_mono (F.run X.A X.stack s1 H1 ⟨us, []⟩ us vs Q _ p hr hpin I1.env0 b r h1) ?_)
  intro r s' hq
  match r, hq with
  | .ok (.ret u), hq => exact I1.after hq
end
end My
set_option Elab.async false
set_option linter.all false
set_option maxRecDepth 100000
set_option maxHeartbeats 4000000
namespace My
open PySem PySem.Spec PyProof.Rows L2
def topS (i : Nat) : Stmt := PySem.Challenge.pw_deadrows_k15_errors_kept.main.body.getD i (.Pass ⟨0, 0, 0, 0⟩)
abbrev sTake : Stmt := topS 19
theorem scTake : FnScope ["_law_bag_here", "_law_many", "_law_cell", "_law_mixed", "_law_value", "_law_begin", "_law_second"] ["_law_bag_here", "_law_many"] (defScope sTake) :=
  ⟨rfl, rfl, rfl, by decide +kernel, rfl, by decide +kernel, by decide +kernel⟩
section
variable {P : Program} {w : World} {K : PySem.W.Frag} {mg : Str → Option Value} {base : Heap}
theorem ok_take' {f : Addr} {fd : FuncData} (F : Fun K "_law_take" "_law_take" sTake f fd) (ml : mg "len" = none) (mi : mg "int" = none) :
    FnOk P w K mg base CX0 1 f fd ["_law_bag_here", "_law_many"] spTake := by
  refine F.ok scTake (fun vs H Q E h => ?_) (fun cdv A outer s H vs Q E hr h => ?_)
  · obtain ⟨b, many, rfl, _⟩ := h
    rfl
  · obtain ⟨⟨b, L, cs⟩, many, rfl, ⟨x, y, z, B⟩, hm0, hm1, k⟩ := h
    replace B : Bag H b x y z L cs := B
    have nd := scTake.nd
    refine ⟨_, C8.pss_cut (ps_if (pt_cmpR op_eq (pe_ix ix_list (pv 0) pe_int (fun _ _ => rfl)) pe_int (nomark _))
        (pss_cons (ps_set (i := 2) nd rfl (.inl rfl) pe_int)
        (C8.pss_cut (ps_if (pt_cmpR op_lt (pe_ix ix_list (pv 0) pe_int (fun _ _ => rfl)) (pe_callB call_len_seq (by rfl) ml PySem.boot_len (pa_cons (pe_ix ix_list (pv 0) pe_int (fun _ _ => rfl)) pa_nil)) (nomark _))
          (pss_one (ps_set (i := 2) nd rfl (.inl rfl) (pe_ix ix_list (pe_ix ix_list (pv 0) pe_int (fun _ _ => rfl)) (pe_ix ix_list (pv 0) pe_int (fun _ _ => rfl)) (fun _ _ => rfl)))) pss_nil)
        (pss_cons (ps_augS (pv 0) pe_int get_list pe_int ip_add set_list)
        (C8.pss_cut (ps_if (pt_cmpR op_ge (pv 2) pe_int (nomark _)) (pss_one (ps_asg (pv 2) (pg_sub (pv 0) pe_int set_list))) pss_nil)
        (pss_cons (ps_set (i := 3) nd rfl (.inl rfl) (pe_op op_add (pe_op op_add (pe_op op_mul (pe_ix ix_list (pv 0) pe_int (fun _ _ => rfl)) pe_int)
            (pe_op op_mod (pe_callTy call_int1 (by rfl) mi (by decide +kernel) (pa_cons (pv 2) pa_nil)) pe_int)) (pe_op op_mul pe_int (pe_ix ix_list (pv 0) pe_int (fun _ _ => rfl)))))
        (pss_one (ps_asg (pe_op op_mod (pe_callTy call_int1 (by rfl) mi (by decide +kernel) (pa_cons (pv 3) pa_nil)) pe_int) (pg_sub (pv 0) pe_int set_list)))))))) pss_nil)
      (pss_cons (ps_if (pt_cmpR op_gt (pe_ix ix_list (pv 0) pe_int (fun _ _ => rfl)) pe_int (nomark _))
        (pss_cons (ps_set (i := 4) nd rfl (.inl rfl) (pe_op op_mod (pe_callTy call_int1 (by rfl) mi (by decide +kernel) (pa_cons (pe_ix ix_list (pv 0) pe_int (fun _ _ => rfl)) pa_nil)) (pv 1)))
        (pss_cons (ps_asg (pe_op op_fdivW (pe_ix ix_list (pv 0) pe_int (fun _ _ => rfl)) (pv 1)) (pg_sub (pv 0) pe_int set_list))
        (pss_one (ps_ret (pv 4))))) pss_nil)
      (pss_cons (ps_set (i := 5) nd rfl (.inl rfl) (pe_op op_mod (pe_callTy call_int1 (by rfl) mi (by decide +kernel) (pa_cons (pe_op op_mul (pe_op op_add (pe_ix ix_list (pv 0) pe_int (fun _ _ => rfl)) pe_int) pe_int) pa_nil)) pe_int))
      (pss_cons (ps_set (i := 6) nd rfl (.inl rfl) (pe_op op_mod (pe_callTy call_int1 (by rfl) mi (by decide +kernel) (pa_cons (pe_op op_mul (pe_op op_mod (pe_callTy call_int1 (by rfl) mi (by decide +kernel) (pa_cons (pe_op op_mul (pv 5) (pv 5)) pa_nil)) pe_int) pe_int) pa_nil)) pe_int))
      (pss_cons (ps_if (pt_cmpR op_gt (pv 1) pe_int (nomark _)) (pss_one (ps_ret (pe_op op_mod (pe_callTy call_int1 (by rfl) mi (by decide +kernel) (pa_cons (pe_op op_add (pe_op op_mul (pv 6) pe_int) (pv 5)) pa_nil)) (pv 1)))) pss_nil)
      (pss_one (ps_ret (pe_op op_mod (pe_callTy call_int1 (by rfl) mi (by decide +kernel) (pa_cons (pe_op op_fdiv (pv 6) pe_int) pa_nil)) (pv 1)))))))), ?_⟩
    refine ⟨fun σ' H' => ∃ x' y' z' v2 v3, σ' = [some (.ref b), some (.int many), v2, v3, none, none, none] ∧ 0 ≤ x' ∧ 0 ≤ z' ∧ H' = upd H b (.lst [.int x', .int y', .int z', .ref L]), ?_, ?_⟩
    · refine ⟨_, rfl, b, _, 0, _, rfl, rfl, SqL.of B.at_, rfl, rfl, _, rfl, ite2 (fun e => ?_) (fun e => ?_)⟩
      · -- the bag's first number is 0
        have hz : (decide (z < (cs.map V.int).length) = true) ∨ (decide (z < (cs.map V.int).length) = false) := by
          cases decide (z < (cs.map V.int).length) <;> simp
        refine ⟨fun σ' H' => ∃ c : Int, 0 ≤ c ∧ σ' = [some (.ref b), some (.int many), some (.int c), none, none, none, none] ∧ H' = H, ?_, ?_⟩
        · refine ⟨_, rfl, b, _, 2, _, rfl, rfl, SqL.of B.at_, rfl, _, rfl, b, _, 3, _, rfl, rfl, SqL.of B.at_, rfl, L, _, rfl, .inl (SqL.of B.cells), _, _, rfl, rfl, _, rfl, ite2 (fun e2 => ?_) (fun e2 => ?_)⟩
          · have e3 : z < (cs.map V.int).length := of_decide_eq_true e2
            rw [List.length_map] at e3
            have e4 : z.toNat < cs.length := by have := B.z0; omega
            have e5 : (cs.map V.int)[z.toNat]? = some (.int cs[z.toNat]) := by
              rw [List.getElem?_map, List.getElem?_eq_getElem e4]
              rfl
            have e6 : atI (cs.map V.int) z = some (.int cs[z.toNat]) := by
              have := atI_nat e5
              rwa [Int.toNat_of_nonneg B.z0] at this
            exact ⟨_, rfl, b, _, 3, _, rfl, rfl, SqL.of B.at_, rfl, _, rfl, b, _, 2, _, rfl, rfl, SqL.of B.at_, rfl, L, _, z, _, rfl, rfl, SqL.of B.cells, e6, _, B.c0 _ (List.getElem_mem e4), rfl, rfl⟩
          · exact ⟨0, Int.le_refl 0, rfl, rfl⟩
        · rintro σ' H' ⟨c, hc, rfl, rfl⟩
          refine ⟨_, rfl, b, _, 2, _, rfl, rfl, SqL.of B.at_, rfl, z, 1, rfl, rfl, b, _, 2, 2, rfl, rfl, B.at_, rfl, ?_⟩
          have hb1 : ∀ o, (upd H' b o) b = some o := fun o => upd_same
          refine ⟨fun σ' H2 => ∃ x', 0 ≤ x' ∧ σ' = [some (.ref b), some (.int many), some (.int c), none, none, none, none] ∧ H2 = upd H' b (.lst [.int x', .int y, .int (z + 1), .ref L]), ?_, ?_⟩
          · refine ⟨_, rfl, _, _, rfl, rfl, _, rfl, ite2 (fun e2 => ?_) (fun e2 => ?_)⟩
            · exact ⟨_, rfl, _, rfl, b, _, 0, 0, rfl, rfl, upd_same, rfl, c, hc, rfl, by rw [upd_upd] <;> rfl⟩
            · exact ⟨x, B.x0, rfl, rfl⟩
          · rintro σ' H2 ⟨x', hx', rfl, rfl⟩
            refine ⟨_, rfl, b, _, 1, _, rfl, rfl, SqL.of upd_same, rfl, y, _, rfl, rfl, .inr ⟨by decide, by decide⟩, _, rfl, .inl ⟨c, rfl, _, _, rfl, rfl, (by show (0 : Int) < 2147483647; decide), _, _, rfl, rfl, _, rfl, b, _, 2, _, rfl, rfl, SqL.of upd_same, rfl, _, _, rfl, rfl, .inl ⟨by decide, by decide⟩, _, _, rfl, rfl, ?_⟩⟩
            refine ⟨_, rfl, .inl ⟨_, rfl, _, _, rfl, rfl, (by show (0 : Int) < 2147483647; decide), _, rfl, b, _, 1, 1, rfl, rfl, upd_same, rfl, x', _, z + 1, _, _, rfl, hx', by have := B.z0; omega, by rw [upd_upd] <;> rfl⟩⟩
      · refine ⟨x, y, z, none, none, rfl, B.x0, B.z0, ?_⟩
        funext a
        by_cases ha : a = b
        · subst ha
          rw [upd_same]
          exact B.at_
        · rw [upd_ne ha]
    · rintro σ' H' ⟨x', y', z', v2, v3, rfl, hx', hz', rfl⟩
      have hB := B.put (y' := y') hx' hz'
      refine ⟨_, rfl, b, _, 0, _, rfl, rfl, SqL.of upd_same, rfl, x', 0, rfl, rfl, _, rfl, ite2 (fun e => ?_) (fun e => ?_)⟩
      · have e1 : 0 < x' := of_decide_eq_true e
        refine ⟨_, rfl, b, _, 0, _, rfl, rfl, SqL.of upd_same, rfl, .inl ⟨x', rfl, _, rfl, x', many, rfl, rfl, hm0, ?_⟩⟩
        refine ⟨_, rfl, b, _, 0, _, rfl, rfl, SqL.of upd_same, rfl, _, rfl, x', many, rfl, rfl, wide_div hm0 (b := 60) (by omega) (by decide) (by decide), _, rfl, b, _, 0, 0, rfl, rfl, upd_same, rfl, ?_⟩
        refine ⟨_, rfl, ?_⟩
        rw [upd_upd]
        refine k _ _ (Int.emod_nonneg _ (by omega)) (Int.emod_lt_of_pos _ hm0) ?_
        exact ⟨_, _, _, B.put (x' := x' / many) (y' := y') (Int.ediv_nonneg hx' (by omega)) hz'⟩
      · refine ⟨_, rfl, b, _, 1, _, rfl, rfl, SqL.of upd_same, rfl, y', 1, rfl, rfl, y' + 1, _, rfl, rfl, .inr ⟨by decide, by decide⟩, .inl ⟨_, rfl, _, _, rfl, rfl, (by show (0 : Int) < 1000000007; decide), ?_⟩⟩
        have h1 := Int.emod_nonneg ((y' + 1) * 39373) (show (1000000007 : Int) ≠ 0 by decide)
        have h2 := Int.emod_lt_of_pos ((y' + 1) * 39373) (show (0 : Int) < 1000000007 by decide)
        refine ⟨_, rfl, _, rfl, _, _, rfl, rfl, .inl ⟨by omega, by omega⟩, .inl ⟨_, rfl, _, _, rfl, rfl, (by show (0 : Int) < 998244353; decide), _, _, rfl, rfl, .inr ⟨by decide, by decide⟩, .inl ⟨_, rfl, _, _, rfl, rfl, (by show (0 : Int) < 998244353; decide), ?_⟩⟩⟩
        refine ⟨_, rfl, _, _, rfl, rfl, _, rfl, ite2 (fun e2 => ?_) (fun e2 => ?_)⟩
        · refine ⟨_, rfl, _, _, rfl, rfl, .inr ⟨by decide, by decide⟩, _, rfl, _, _, rfl, rfl, .inl ⟨_, rfl, _, rfl, _, many, rfl, rfl, hm0, ?_⟩⟩
          exact k _ _ (Int.emod_nonneg _ (by omega)) (Int.emod_lt_of_pos _ hm0) ⟨_, _, _, hB⟩
        · refine ⟨_, rfl, _, _, rfl, rfl, ⟨by decide, by decide⟩, .inl ⟨_, rfl, _, rfl, _, many, rfl, rfl, hm0, ?_⟩⟩
          exact k _ _ (Int.emod_nonneg _ (by omega)) (Int.emod_lt_of_pos _ hm0) ⟨_, _, _, hB⟩
end
/-- the built-in names are what they are -/
structure Free (mg : Str → Option Value) : Prop where
  isi : mg "isinstance" = none
  int : mg "int" = none
  bool : mg "bool" = none
  str : mg "str" = none
  tuple : mg "tuple" = none
  list : mg "list" = none
  len : mg "len" = none
  all : mg "all" = none
  zip : mg "zip" = none
  range : mg "range" = none
  repr : mg "repr" = none
  abs : mg "abs" = none
  dict : mg "dict" = none
  ve : mg "ValueError" = none
  sup : mg "super" = none
theorem boot_isi : bootBuiltins "isinstance" = some (.builtin "isinstance") := by decide +kernel
theorem boot_int : bootBuiltins "int" = some (.type "int") := by decide +kernel
theorem boot_bool : bootBuiltins "bool" = some (.type "bool") := by decide +kernel
theorem boot_str : bootBuiltins "str" = some (.type "str") := by decide +kernel
theorem boot_tuple : bootBuiltins "tuple" = some (.type "tuple") := by decide +kernel
theorem boot_list : bootBuiltins "list" = some (.type "list") := by decide +kernel
theorem boot_all : bootBuiltins "all" = some (.builtin "all") := by decide +kernel
theorem boot_repr : bootBuiltins "repr" = some (.builtin "repr") := by decide +kernel
theorem boot_abs : bootBuiltins "abs" = some (.builtin "abs") := by decide +kernel
theorem boot_dict : bootBuiltins "dict" = some (.type "dict") := by decide +kernel
theorem boot_ve : bootBuiltins "ValueError" = some (.type "ValueError") := by decide +kernel
section
variable {P : Program} {w : World} {K : PySem.W.Frag} {mg : Str → Option Value} {base : Heap} {f fT : Addr} {fd fdT : FuncData}
abbrev sBag : Stmt := topS 18
theorem scBag : FnScope ["_law_script", "_law_cell"] ["_law_script"] (defScope sBag) := ⟨rfl, rfl, rfl, by decide +kernel, rfl, by decide +kernel, by decide +kernel⟩
theorem ok_bag (F : Fun K "_law_bag" "_law_bag" sBag f fd) (T : Free mg) : FnOk P w K mg base CX0 1 f fd ["_law_script"] (spBag K) := by
  refine F.ok scBag (fun vs H Q E h => ?_) (fun cdv A outer s H vs Q E hr h => ?_)
  · obtain ⟨a, ns, rfl, _⟩ := h
    rfl
  · obtain ⟨a, ns, rfl, hS, hlen, k⟩ := h
    refine ⟨_, pss_one (ps_ret (pe_lst (pa_cons pe_int (pa_cons pe_int (pa_cons pe_int (pa_cons (pe_lc (own := [("_law_cell", 1)]) (g := gName 1) (by rfl) scBag.nd (pi_list (pe_slice sl_list (pv 0) po_none (po_some pe_int)))
      (blkOk_by (own := [("_law_cell", 1)]) (N := ["_law_script", "_law_cell"]) (sc := defScope sBag) (by decide +kernel)) (fun _ _ _ _ _ => pg_name (i := 1) scBag.nd rfl (Or.inl rfl)) (fun _ _ _ _ _ => pts_nil)
      (fun _ _ _ _ _ => pe_callB call_abs (by rfl) T.abs boot_abs (pa_cons (pv 1) pa_nil))) pa_nil)))))), ?_⟩
    obtain ⟨ms, hms⟩ := cut_ints ns none (some 63)
    have hml : ms.length ≤ 63 := by
      have h1 := congrArg List.length hms
      have h2 := cutV_length (ns.map V.int) none (some 63)
      rw [h1, List.length_map, List.length_map] at h2
      omega
    refine ⟨_, rfl, 63, rfl, a, _, rfl, hS, fun c hc => ⟨c, rfl, ⟨_, SqL.of upd_same⟩, fun D hD => ?_⟩⟩
    rw [hms] at hD ⊢
    have sm0 : Same H (upd H c (.lst (ms.map V.int))) := same_new hc
    refine lc_map (walk_list (xs := ms.map V.int)) (line200 (by rw [List.length_map]; omega)) hD (fun H1 sm => sm.seq (SqL.of upd_same)) (fun i => (ms[i]?).map fun z => V.int (if z < 0 then -z else z)) (fun i y H1 H2 R Rn hi sm hy h4 h5 => ?_) (fun H1 sm e => ?_)
    · obtain ⟨rfl, hy⟩ := hy
      rw [List.getElem?_map] at hy
      cases q : ms[i]? with
      | none => rw [q] at hy; cases hy
      | some z =>
        rw [q] at hy
        cases hy
        refine ⟨rfl, _, rfl, z, rfl, h4 _ _ ?_ (Same.refl _)⟩
        rw [q]
        rfl
    · refine ⟨by show 4 ≤ sizeLine; decide, fun b hb => ?_⟩
      have smb : Same H1 (upd H1 b (.lst [.int 0, .int 1234567891, .int 0, .ref D])) := same_new hb
      refine k ⟨b, D, ms.map fun z => if z < 0 then -z else z⟩ _ (sm0.trans (sm.trans smb)) ((sm0.trans sm).free hb) ⟨0, 1234567891, 0, upd_same, ?_, Int.le_refl 0, Int.le_refl 0, fun z hz => ?_⟩
      · rw [upd_ne (ne_of_none e hb), e, List.length_map, range_map (fun z => V.int (if z < 0 then -z else z)), List.map_map]
        rfl
      · obtain ⟨y, _, rfl⟩ := List.mem_map.mp hz
        split <;> omega
end
def spAlike (K : PySem.W.Frag) : Sp := fun vs H Q _ => ∃ x y d, vs = [x, y] ∧ Dp K H x d ∧ Dp K H y d ∧ SeqAt.shaped d = true ∧ Shows d ∧ Q (.bl true) H
section
variable {P : Program} {w : World} {K : PySem.W.Frag} {mg : Str → Option Value} {base : Heap} {f fT fO fN fP : Addr} {fd fdT fdO fdN fdP : FuncData}
abbrev sAlike : Stmt := topS 20
theorem scAlike : FnScope ["_law_found", "_law_due"] ["_law_found", "_law_due"] (defScope sAlike) := ⟨rfl, rfl, rfl, by decide +kernel, rfl, by decide +kernel, by decide +kernel⟩
theorem ok_alike (F : Fun K "_law_alike" "_law_alike" sAlike f fd) (T : Free mg) (hsy : ∃ mm, base.Ns sysModules mm) :
    FnG P w K mg base CX0 1 f fd ["_law_found", "_law_due"] (spAlike K) := by
  refine okG F scAlike (fun vs H Q E h => ?_) (fun cdv A outer s H vs Q E hr hg h => ?_)
  · obtain ⟨x, y, d, rfl, _⟩ := h
    rfl
  · obtain ⟨x, y, d, rfl, hx, hy, hsh, hz, k⟩ := h
    have hu : (A.deeper (envOfC "_law_alike" (defScope sAlike) s.heap.objs.size f cdv)).units + 200 < cLine := by have := hr.un; omega
    refine ⟨_, pss_one (ps_ret (pe_and (pe_cmpR (op_eqD hr.units) (pv 0) (pv 1) (nomark _))
      (pe_one (pe_cmpR op_eq (pe_callB (call_reprX hg hu hsy) (by rfl) T.repr boot_repr (pa_cons (pv 0) pa_nil)) (pe_callB (call_reprX hg hu hsy) (by rfl) T.repr boot_repr (pa_cons (pv 1) pa_nil)) (nomark _))))), ?_⟩
    refine ⟨_, rfl, _, rfl, d, d, hx, hy, hsh, hsh, _, rfl, ?_⟩
    rw [SeqAt.eqv_refl d (SeqAt.canLay_of_shaped hsh)]
    refine iteT ⟨_, rfl, _, d, rfl, Dx.ofDp hx, hz, _, rfl, _, d, rfl, Dx.ofDp hy, hz, rfl, ?_⟩
    rw [decide_eq_true rfl]
    exact k
end
end My
set_option Elab.async false
set_option linter.all false
set_option maxRecDepth 100000
set_option maxHeartbeats 4000000
namespace My
open PySem PySem.Spec PyProof.Rows L2
/-- data without objects -/
def flat0 : Hp := fun _ => none
theorem flat_same {H : Hp} : Same flat0 H := fun _ _ e => nomatch e
/-- flat, or a list of flat ones -/
def Dl (K : PySem.W.Frag) (H : Hp) (v : V) (d : PyData) : Prop := Dx K flat0 v d ∨ ∃ (a : Addr) (xs : List V) (ds : List PyData), v = .ref a ∧ d = .list ds ∧ H a = some (.lst xs) ∧ Dxs K flat0 xs ds
theorem Dl.dx {K : PySem.W.Frag} {H : Hp} {v : V} {d : PyData} (h : Dl K H v d) : Dx K H v d := by
  rcases h with h | ⟨a, xs, ds, rfl, rfl, h1, h2⟩
  · exact h.same flat_same
  · exact .lst (SqL.of h1) (h2.same flat_same)
theorem Dl.same {K : PySem.W.Frag} {H H' : Hp} {v : V} {d : PyData} (e : Same H H') (h : Dl K H v d) : Dl K H' v d := by
  rcases h with h | ⟨a, xs, ds, rfl, rfl, h1, h2⟩
  · exact .inl h
  · exact .inr ⟨a, xs, ds, rfl, rfl, e _ _ h1, h2⟩
/-- data whose top may be changed -/
inductive Dxt (K : PySem.W.Frag) (H : Hp) : V → PyData → Prop
  | flat {v : V} {d : PyData} : Dx K H v d → isLstT d = false → isDicT d = false → Dxt K H v d
  | lst {a : Addr} {xs : List V} {ds : List PyData} : H a = some (.lst xs) → Dxs K flat0 xs ds → Dxt K H (.ref a) (.list ds)
  | dic0 {a : Addr} : H a = some (.dK []) → Dxt K H (.ref a) (.dict [])
  | dic1 {a : Addr} {v : V} {d : PyData} : H a = some (.dK [(Sum.inr "a", v)]) → Dl K H v d → Dxt K H (.ref a) (.dict [(.str "a", d)])
theorem Dxt.dx {K : PySem.W.Frag} {H : Hp} {v : V} {d : PyData} (h : Dxt K H v d) : Dx K H v d := by
  cases h with
  | flat h _ _ => exact h
  | lst h t => exact .lst (SqL.of h) (t.same flat_same)
  | dic0 h => exact .dic (kvs := []) (.inl h) rfl .nil
  | dic1 h t => exact .dic (.inl h) rfl (.cons t.dx .nil)
theorem Dxt.same {K : PySem.W.Frag} {H H' : Hp} {v : V} {d : PyData} (e : Same H H') (h : Dxt K H v d) : Dxt K H' v d := by
  cases h with
  | flat h a b => exact .flat (h.same e) a b
  | lst h t => exact .lst (e _ _ h) t
  | dic0 h => exact .dic0 (e _ _ h)
  | dic1 h t => exact .dic1 (e _ _ h) (t.same e)
inductive Dxts (K : PySem.W.Frag) (H : Hp) : List V → List PyData → Prop
  | nil : Dxts K H [] []
  | cons {v : V} {vs : List V} {d : PyData} {ds : List PyData} : Dxt K H v d → Dxts K H vs ds → Dxts K H (v :: vs) (d :: ds)
theorem Dxts.same {K : PySem.W.Frag} {H H' : Hp} (e : Same H H') : ∀ {vs : List V} {ds : List PyData}, Dxts K H vs ds → Dxts K H' vs ds
  | _, _, .nil => .nil
  | _, _, .cons a b => .cons (a.same e) (Dxts.same e b)
theorem Dxts.length {K : PySem.W.Frag} {H : Hp} : ∀ {vs : List V} {ds : List PyData}, Dxts K H vs ds → vs.length = ds.length
  | _, _, .nil => rfl
  | _, _, .cons _ t => congrArg Nat.succ (Dxts.length t)
theorem Dxts.append {K : PySem.W.Frag} {H : Hp} : ∀ {vs ws : List V} {ds es : List PyData}, Dxts K H vs ds → Dxts K H ws es → Dxts K H (vs ++ ws) (ds ++ es)
  | _, _, _, _, .nil, t => t
  | _, _, _, _, .cons a b, t => .cons a (Dxts.append b t)
theorem Dxts.get {K : PySem.W.Frag} {H : Hp} : ∀ {vs : List V} {ds : List PyData} {i : Nat} {v : V}, Dxts K H vs ds → vs[i]? = some v → ∃ d, ds[i]? = some d ∧ Dxt K H v d
  | _, _, _, _, .nil, e => by simp at e
  | _, _, 0, _, .cons h _, e => by
    simp at e
    subst e
    exact ⟨_, rfl, h⟩
  | _, _, i + 1, v, .cons _ t, e => by
    obtain ⟨d, h1, h2⟩ := Dxts.get (i := i) (v := v) t (by simpa using e)
    exact ⟨d, by simpa using h1, h2⟩
def Dbt (K : PySem.W.Frag) (B : BI) (Hs : Hp) (te : TE) (σ : L2.St) (H0 : Hp) (d : PyData) : Prop := ∀ H, Keep B.b Hs H → Keep B.b H0 H → BagOk H B → ∀ Q : VK,
  (∀ v H', Keep B.b H H' → BagOk H' B → Dxt K (vis Hs H') v d → Q v H') → te σ H Q
def Dbts (K : PySem.W.Frag) (B : BI) (Hs : Hp) (ta : TA) (σ : L2.St) (H0 : Hp) (ds : List PyData) : Prop := ∀ H, Keep B.b Hs H → Keep B.b H0 H → BagOk H B → ∀ Q : List V → Hp → Prop,
  (∀ vs H', Keep B.b H H' → BagOk H' B → Dxts K (vis Hs H') vs ds → Q vs H') → ta σ H Q
section
variable {K : PySem.W.Frag} {B : BI} {σ : L2.St} {Hs H0 : Hp} {te : TE} {ta : TA} {d : PyData} {ds : List PyData}
theorem tf (h : Db K B Hs te σ H0 d) (h1 : isLstT d = false := by rfl) (h2 : isDicT d = false := by rfl) : Dbt K B Hs te σ H0 d := fun H ss s hB Q q => h H ss s hB Q fun v H' a b c => q v H' a b (.flat c h1 h2)
theorem t_nil : Dbts K B Hs tNil σ H0 [] := fun H _ _ hB Q q => q [] H Keep.refl hB .nil
theorem t_cons (hs : BagOk Hs B) (h : Dbt K B Hs te σ H0 d) (t : Dbts K B Hs ta σ H0 ds) : Dbts K B Hs (tCons te ta) σ H0 (d :: ds) := fun H ss s hB Q q =>
  h H ss s hB _ fun v H1 s1 hB1 hd => t H1 (ss.trans s1) (s.trans s1) hB1 _ fun vs H2 s2 hB2 hds => q _ H2 (s1.trans s2) hB2 (.cons (hd.same (vis_keep hs s2)) hds)
theorem t_l0 : Dbt K B Hs (tLst tNil) σ H0 (.list []) := fun H ss s hB Q q =>
  ⟨Nat.zero_le _, fun p hp => q _ _ (Keep.refl.new hp) (hB.new hp) (.lst (vis_get (ss.fresh hB hp) upd_same) .nil)⟩
theorem t_l1 {v : V} (h : Dx K flat0 v d) : Dbt K B Hs (tLst (tCons (tC v) tNil)) σ H0 (.list [d]) := fun H ss s hB Q q =>
  ⟨Nat.le_of_ble_eq_true rfl, fun p hp => q _ _ (Keep.refl.new hp) (hB.new hp) (.lst (vis_get (ss.fresh hB hp) upd_same) (.cons h .nil))⟩
theorem t_dnew : Dbt K B Hs tDNewK σ H0 (.dict []) := fun H ss s hB Q q p hp => q _ _ (Keep.refl.new hp) (hB.new hp) (.dic0 (vis_get (ss.fresh hB hp) upd_same))
theorem t_disp1 {i : Int} : Dbt K B Hs (tDisp [(tC (.str "a"), tC (.int i))]) σ H0 (.dict [(.str "a", .int i)]) := fun H ss s hB Q q p hp =>
  ⟨upd_same, [(Sum.inr "a", .int i)], rfl, Nat.le_of_ble_eq_true rfl, q _ _ ((Keep.refl.new hp).mut hp) ((hB.new hp).mut (hB.ne hp) (hB.neL hp))
    (.dic1 (vis_get (ss.fresh hB hp) upd_same) (.inl (.int i)))⟩
end
/-- a dict has at most one pair, its key "a" -/
def dictOk : PyData → Bool
  | .dict [] => true
  | .dict [(.str x, _)] => x == ("a" : Str)
  | .dict _ => false
  | _ => true
theorem dictOk_of {d : PyData} (h : isDicT d = false) : dictOk d = true := by
  cases d <;> first | rfl | cases h
def spOdd (K : PySem.W.Frag) : Sp := fun vs H Q _ => ∃ B : BI, vs = [.ref B.b] ∧ BagOk H B ∧ ∀ (v : V) (d : PyData) (H' : Hp), Fine 1000 30 d → dictOk d = true → Dxt K (vis H H') v d → Keep B.b H H' → BagOk H' B → Q v H'
theorem Fine.list1 {n m : Nat} {d : PyData} (h : Fine n m d) : Fine (n + 1) (m + 1) (.list [d]) :=
  ⟨by simp [PyData.showable, PyData.showableAll, h.able], by simp [PyData.leavesShort, PyData.leavesShortAll, h.short],
    by simp only [PyData.weight, PyData.weightAll]; have := h.wt; omega, by simp only [PyData.depth, PyData.depthAll]; have := h.dp; omega⟩
theorem Fine.tuple1 {n m : Nat} {d : PyData} (h : Fine n m d) : Fine (n + 1) (m + 1) (.tuple [d]) :=
  ⟨by simp [PyData.showable, PyData.showableAll, h.able], by simp [PyData.leavesShort, PyData.leavesShortAll, h.short],
    by simp only [PyData.weight, PyData.weightAll]; have := h.wt; omega, by simp only [PyData.depth, PyData.depthAll]; have := h.dp; omega⟩
theorem rep_zero (n : Nat) : Fine n 1 (.tuple (List.replicate n (.int 0))) := by
  have h1 : ∀ n : Nat, PyData.showableAll (List.replicate n (.int 0)) = true := fun n => by
    induction n with
    | zero => rfl
    | succ n ih => rw [List.replicate_succ, PyData.showableAll, ih]; decide
  have h2 : ∀ n : Nat, PyData.leavesShortAll 50 (List.replicate n (.int 0)) = true := fun n => by
    induction n with
    | zero => rfl
    | succ n ih => rw [List.replicate_succ, PyData.leavesShortAll, ih]; decide +kernel
  have h3 : ∀ n : Nat, PyData.weightAll (List.replicate n (.int 0)) = n := fun n => by
    induction n with
    | zero => rfl
    | succ n ih => rw [List.replicate_succ, PyData.weightAll, ih]; show 0 + 1 + n = n + 1; omega
  have h4 : ∀ n : Nat, PyData.depthAll (List.replicate n (.int 0)) = 0 := fun n => by
    induction n with
    | zero => rfl
    | succ n ih => rw [List.replicate_succ, PyData.depthAll, ih]; rfl
  exact ⟨h1 n, h2 n, Nat.le_of_eq (h3 n), by show PyData.depthAll _ + 1 ≤ 1; rw [h4]; exact Nat.le_refl _⟩
/-- the odd values -/
def odd1 : List PyData := [.none, .bool true, .bool false, .int (-1), .int 0, .int 1, .int (10 ^ (39 : Int).toNat), .int (-(10 ^ (39 : Int).toNat)), .str "", .str "a", .str "ab", .str "A", .tuple [], .tuple [.str "a"], .tuple [.str "a", .str "a"], .list [.str "a"], .list [.int 0]]
def odd2 : List PyData := [.tuple [.int 0], .tuple [.bool true], .tuple [.int 0, .int (-1)], .tuple [.none], .dict [], .dict [(.str "a", .int 1)]]
def odd3 : List PyData := [.tuple [.str "a", .int 1], .tuple [.tuple [.str "a"]], .list []]
def odd4 : PyData := .tuple (List.replicate (900 : Int).toNat (.int 0))
def odd5 : PyData := .tuple [.str "a", .str "b"]
def fineB (d : PyData) : Bool := d.showable && d.leavesShort 50 && decide (d.weight ≤ 1000) && decide (d.depth ≤ 30)
theorem fine_of {d : PyData} (h : fineB d = true) : Fine 1000 30 d := by
  unfold fineB at h
  simp only [Bool.and_eq_true, decide_eq_true_eq] at h
  exact ⟨h.1.1.1, h.1.1.2, h.1.2, h.2⟩
theorem fine_all {ds : List PyData} (h : ds.all fineB = true) : ∀ d ∈ ds, Fine 1000 30 d := fun d hd => fine_of (List.all_eq_true.mp h d hd)
theorem fine1 : ∀ d ∈ odd1, Fine 1000 30 d := fine_all (by decide +kernel)
theorem fine2 : ∀ d ∈ odd2, Fine 1000 30 d := fine_all (by decide +kernel)
theorem fine3 : ∀ d ∈ odd3, Fine 1000 30 d := fine_all (by decide +kernel)
theorem fine4 : Fine 1000 30 odd4 := (rep_zero _).mono (by decide) (by decide)
theorem fine5 : Fine 1000 30 odd5 := fine_of (by decide +kernel)
theorem fine_odds {deep d : PyData} (h : Fine 1000 30 deep) (hd : d ∈ odd1 ++ (odd2 ++ deep :: (odd3 ++ [odd4, odd5]))) : Fine 1000 30 d := by
  rcases List.mem_append.mp hd with hd | hd
  · exact fine1 d hd
  · rcases List.mem_append.mp hd with hd | hd
    · exact fine2 d hd
    · rcases List.mem_cons.mp hd with rfl | hd
      · exact h
      · rcases List.mem_append.mp hd with hd | hd
        · exact fine3 d hd
        · rcases List.mem_cons.mp hd with rfl | hd
          · exact fine4
          · rw [List.mem_singleton.mp hd]
            exact fine5
theorem dict_odds {deep d : PyData} (h : isDicT deep = false) (hd : d ∈ odd1 ++ (odd2 ++ deep :: (odd3 ++ [odd4, odd5]))) : dictOk d = true := by
  have a1 : ∀ d ∈ odd1, dictOk d = true := List.all_eq_true.mp (by decide +kernel)
  have a2 : ∀ d ∈ odd2, dictOk d = true := List.all_eq_true.mp (by decide +kernel)
  have a3 : ∀ d ∈ odd3, dictOk d = true := List.all_eq_true.mp (by decide +kernel)
  rcases List.mem_append.mp hd with hd | hd
  · exact a1 d hd
  · rcases List.mem_append.mp hd with hd | hd
    · exact a2 d hd
    · rcases List.mem_cons.mp hd with rfl | hd
      · exact dictOk_of h
      · rcases List.mem_append.mp hd with hd | hd
        · exact a3 d hd
        · rcases List.mem_cons.mp hd with rfl | hd
          · rfl
          · rw [List.mem_singleton.mp hd]
            rfl
theorem Dxs.append {K : PySem.W.Frag} {H : Hp} : ∀ {vs ws : List V} {ds es : List PyData}, Dxs K H vs ds → Dxs K H ws es → Dxs K H (vs ++ ws) (ds ++ es)
  | _, _, _, _, .nil, t => t
  | _, _, _, _, .cons a b, t => .cons a (Dxs.append b t)
section
variable {P : Program} {w : World} {K : PySem.W.Frag} {mg : Str → Option Value} {base : Heap} {f fT : Addr} {fd fdT : FuncData}
abbrev sOdd : Stmt := topS 21
theorem scOdd : FnScope ["_law_bag_here", "_law_deep", "_law_k", "_law_some"] ["_law_bag_here"] (defScope sOdd) := ⟨rfl, rfl, rfl, by decide +kernel, rfl, by decide +kernel, by decide +kernel⟩
theorem ok_odd (F : Fun K "_law_odd" "_law_odd" sOdd f fd) (T : Free mg) (FT : Fun K "_law_take" "_law_take" sTake fT fdT) (bT : Binds K fdT ["_law_bag_here", "_law_many"] []) (gT : mg "_law_take" = some (.ref fT)) :
    FnOk P w K mg base CX0 2 f fd ["_law_bag_here"] (spOdd K) := by
  have GT : FnOk P w K mg base CX0 1 fT fdT ["_law_bag_here", "_law_many"] spTake := ok_take' FT T.len T.int
  have nd := scOdd.nd
  refine F.ok scOdd (fun vs H Q E h => ?_) (fun cdv A outer s H vs Q E hr h => ?_)
  · obtain ⟨B, rfl, _⟩ := h
    rfl
  · obtain ⟨B, rfl, hB, k⟩ := h
    refine ⟨_, pss_cons (ps_set (i := 1) nd rfl (.inl rfl) (pe_lst pa_nil))
      (pss_cons (ps_for PassesOwn.never rfl (pi_range1 rfl T.range (pa_cons pe_int pa_nil)) (pg_name (i := 2) nd rfl (Or.inl rfl))
        (pss_one (ps_set (i := 1) nd rfl (.inl rfl) (pe_ix ix_list (pe_lst (pa_cons (pe_lst (pa_cons (pv 1) pa_nil)) (pa_cons (pe_tup (pa_cons (pv 1) pa_nil)) pa_nil)))
          (pe_callTy call_int1 (by rfl) T.int boot_int (pa_cons (pe_cmpR op_gt (pv 2) pe_int (nomark _)) pa_nil)) (fun _ _ => rfl)))))
      (pss_cons (ps_set (i := 3) nd rfl (.inl rfl) (pe_lst (pa_cons pe_non (pa_cons pe_bl (pa_cons pe_bl (pa_cons (pe_un un_neg pe_int) (pa_cons pe_int (pa_cons pe_int (pa_cons (pe_op op_pow pe_int pe_int) (pa_cons (pe_un un_neg (pe_op op_pow pe_int pe_int))
        (pa_cons pe_str (pa_cons pe_str (pa_cons pe_str (pa_cons pe_str (pa_cons (pe_tup pa_nil) (pa_cons (pe_tup (pa_cons pe_str pa_nil)) (pa_cons (pe_tup (pa_cons pe_str (pa_cons pe_str pa_nil))) (pa_cons (pe_lst (pa_cons pe_str pa_nil)) (pa_cons (pe_lst (pa_cons pe_int pa_nil)) pa_nil)))))))))))))))))))
      (pss_cons (ps_set (i := 3) nd rfl (.inl rfl) (pe_op op_cat (pv 3) (pe_lst (pa_cons (pe_tup (pa_cons pe_int pa_nil)) (pa_cons (pe_tup (pa_cons pe_bl pa_nil)) (pa_cons (pe_tup (pa_cons pe_int (pa_cons (pe_un un_neg pe_int) pa_nil))) (pa_cons (pe_tup (pa_cons pe_non pa_nil))
        (pa_cons pe_dnewK (pa_cons (pe_disp (pps_cons pe_str pe_int pps_nil) (by rfl) (by rfl) (fun z => by cases z) (by decide)) (pa_cons (pv 1) (pa_cons (pe_tup (pa_cons pe_str (pa_cons pe_int pa_nil))) (pa_cons (pe_tup (pa_cons (pe_tup (pa_cons pe_str pa_nil)) pa_nil)) (pa_cons (pe_lst pa_nil)
        (pa_cons (pe_op op_repW (pe_tup (pa_cons pe_int pa_nil)) pe_int) (pa_cons (pe_tup (pa_cons pe_str (pa_cons pe_str pa_nil))) pa_nil)))))))))))))))
      (pss_one (ps_ret (pe_ix ix_list (pv 3) (pe_call GT hr (by rfl) gT FT.kp bT .nil pass0 (pa_cons (pv 0) (pa_cons pe_int pa_nil))) (fun _ _ => rfl))))))), ?_⟩
    refine ⟨Nat.zero_le _, fun p0 hp0 => ?_⟩
    refine ⟨12, rfl, by decide, by decide, for_it (n := 12) walk_range (fun i σ H1 => ∃ v d k2, σ = [some (.ref B.b), some v, k2, none] ∧ Keep B.b H H1 ∧ BagOk H1 B ∧ Dx K (vis H H1) v d ∧ Fine i (i + 1) d ∧ (8 ≤ i → isLstT d = false) ∧ isDicT d = false)
      ⟨_, .list [], none, rfl, Keep.refl.new hp0, hB.new hp0, .lst (SqL.of (vis_get hp0 upd_same)) .nil, ⟨rfl, rfl, Nat.le_refl _, Nat.le_refl _⟩, fun h => absurd h (by decide), rfl⟩ (fun _ _ _ _ _ => trivial) ?_ ?_⟩
    · rintro i x σ H1 H2 hi ⟨v, d, k2, rfl, k1, hB1, hd, hf, hn1, hn2⟩ ⟨rfl, rfl⟩
      refine p_set ?_
      refine p_op ?_
      refine p_lst ?_
      refine (dbs_cons hB (db_lst hB (dbs_cons hB (db_var (i := 1) rfl hB hd) dbs_nil)) (dbs_cons hB (db_tup hB (dbs_cons hB (db_var (i := 1) rfl hB hd) dbs_nil)) dbs_nil)) _ k1 Keep.refl hB1 _ fun vs H3 s2 hB2 hds => ?_
      cases hds with
      | cons hx hr2 =>
      cases hr2 with
      | cons hy hn =>
      cases hn
      rename_i x y
      refine ⟨by show 2 ≤ sizeLine; decide, fun p hp => ⟨_, rfl, _, _, rfl, rfl, .inr ⟨_, rfl, ?_⟩⟩⟩
      have kf : Keep B.b H (upd H3 p (.lst [x, y])) := (k1.trans s2).new hp
      have sx : Same (vis H H3) (vis H (upd H3 p (.lst [x, y]))) := vis_keep hB (Keep.refl.new hp)
      cases hdec : decide ((6 : Int) < 0 + (i : Int)) with
      | true => exact ⟨p, _, 1, y, rfl, rfl, SqL.of upd_same, rfl, _, _, _, rfl, kf, hB2.new hp, hy.same sx, hf.tuple1, fun _ => rfl, rfl⟩
      | false => exact ⟨p, _, 0, x, rfl, rfl, SqL.of upd_same, rfl, _, _, _, rfl, kf, hB2.new hp, hx.same sx, hf.list1, fun h => absurd (of_decide_eq_false hdec) (by omega), rfl⟩
    · rintro σ H1 ⟨v, d, k2, rfl, k1, hB1, hd, hf, hn1, hn2⟩
      have hcp : CPow 10 39 := ⟨by decide, by decide, by decide⟩
      try dsimp only
      refine p_seq ?_
      refine p_set ?_
      try dsimp only
      refine p_lst ?_
      refine (show Dbts K B H _ _ _ odd1 from t_cons hB (tf db_none) (t_cons hB (tf db_bl) (t_cons hB (tf db_bl) (t_cons hB (tf db_neg) (t_cons hB (tf db_int) (t_cons hB (tf db_int) (t_cons hB (tf (db_pow hcp)) (t_cons hB (tf (db_negpow hcp)) (t_cons hB (tf db_str) (t_cons hB (tf db_str) (t_cons hB (tf db_str) (t_cons hB (tf db_str) (t_cons hB (tf (db_tup hB dbs_nil)) (t_cons hB (tf (db_tup hB (dbs_cons hB db_str dbs_nil)))
        (t_cons hB (tf (db_tup hB (dbs_cons hB db_str (dbs_cons hB db_str dbs_nil)))) (t_cons hB (t_l1 (.str _)) (t_cons hB (t_l1 (.int _)) t_nil))))))))))))))))) H1 k1 Keep.refl hB1 _ fun vs H2 s2 hB2 hds => ?_
      have hl1 := hds.length
      refine ⟨by rw [hl1]; exact line200 (Nat.le_of_ble_eq_true rfl), fun p hp => ?_⟩
      have s3 : Keep B.b H1 (upd H2 p (.lst vs)) := s2.new hp
      have hB3 := hB2.new (o := .lst vs) hp
      try dsimp only
      refine p_seq ?_
      refine p_set ?_
      try dsimp only
      refine p_op ?_
      refine p_var rfl ?_
      refine p_lst ?_
      refine (show Dbts K B H _ _ _ (odd2 ++ d :: (odd3 ++ [odd4, odd5])) from t_cons hB (tf (db_tup hB (dbs_cons hB db_int dbs_nil))) (t_cons hB (tf (db_tup hB (dbs_cons hB db_bl dbs_nil))) (t_cons hB (tf (db_tup hB (dbs_cons hB db_int (dbs_cons hB db_neg dbs_nil)))) (t_cons hB (tf (db_tup hB (dbs_cons hB db_none dbs_nil))) (t_cons hB t_dnew (t_cons hB t_disp1 (t_cons hB (tf (db_var (i := 1) rfl hB (hd.same (vis_keep hB s3))) (hn1 (by decide)) hn2)
        (t_cons hB (tf (db_tup hB (dbs_cons hB db_str (dbs_cons hB db_int dbs_nil)))) (t_cons hB (tf (db_tup hB (dbs_cons hB (db_tup hB (dbs_cons hB db_str dbs_nil)) dbs_nil))) (t_cons hB t_l0 (t_cons hB (tf (db_rep hB (db_tup hB (dbs_cons hB db_int dbs_nil)) (by decide) (by decide))) (t_cons hB (tf (db_tup hB (dbs_cons hB db_str (dbs_cons hB db_str dbs_nil)))) t_nil)))))))))))) _ (k1.trans s3) Keep.refl hB3 _ fun vs2 H4 s4 hB4 hds2 => ?_
      have hl2 := hds2.length
      refine ⟨by rw [hl2]; exact line200 (Nat.le_of_ble_eq_true rfl), fun p2 hp2 => ?_⟩
      have np : p ≠ B.b := hB2.ne hp
      have hpl : (upd H4 p2 (.lst vs2)) p = some (.lst vs) := (Keep.of (same_new hp2)).get (s4.get upd_same np) np
      refine ⟨p, p2, vs, vs2, rfl, rfl, hpl, upd_same, by rw [hl1, hl2]; exact line200 (Nat.le_of_ble_eq_true rfl), fun p3 hp3 => ?_⟩
      have hB5 := hB4.new (o := .lst vs2) hp2
      have np3 : p3 ≠ B.b := hB5.ne hp3
      have hB6 := hB5.new (o := .lst (vs ++ vs2)) hp3
      -- the draw
      refine ⟨_, rfl, _, rfl, B, 29, rfl, hB6, by decide, by decide, fun n o g0 g1 hB8 => ?_⟩
      have hlen : (vs ++ vs2).length = 29 := by rw [List.length_append, hl1, hl2]; rfl
      obtain ⟨u, e5, e6⟩ := atI_ex (l := vs ++ vs2) g0 (by rw [hlen]; exact g1)
      refine ⟨p3, _, n, u, rfl, rfl, SqL.of (by rw [upd_ne np3, upd_same]), e5, ?_⟩
      have k5 : Keep B.b H4 (upd H4 p2 (.lst vs2)) := Keep.refl.new hp2
      have k7 : Keep B.b (upd H4 p2 (.lst vs2)) (upd (upd (upd H4 p2 (.lst vs2)) p3 (.lst (vs ++ vs2))) B.b o) := (Keep.refl.new hp3).trans Keep.bag
      have all := Dxts.append (hds.same (vis_keep hB ((Keep.of (same_new hp)).trans (s4.trans (k5.trans k7))))) (hds2.same (vis_keep hB (k5.trans k7)))
      have hn : (vs ++ vs2)[n.toNat]? = some u := by
        obtain ⟨j, e8, e9, _⟩ := atI_get e5
        rw [seqIndex_of g0 (by rw [hlen]; exact g1)] at e8
        rw [Option.some.inj e8]
        exact e9
      obtain ⟨du, f1, f2⟩ := all.get hn
      exact k u du _ (fine_odds (hf.mono (by decide) (by decide)) (List.mem_of_getElem? f1)) (dict_odds hn2 (List.mem_of_getElem? f1)) f2 (k1.trans (s3.trans (s4.trans (k5.trans k7)))) hB8
end
end My
set_option Elab.async false
set_option linter.all false
set_option maxRecDepth 100000
set_option maxHeartbeats 4000000
namespace My
open PySem PySem.Spec PyProof.Rows L2 NdefX
/-- an error of class C with these fields stands at a -/
def Made (H : Hp) (a C : Addr) (fs : List (Str × V)) : Prop := (fs = [] ∧ H a = some (exo a C none)) ∨ ∃ dd, H a = some (exo a C (some dd)) ∧ H dd = some (exd dd fs)
theorem Made.same {H H' : Hp} {a C : Addr} {fs : List (Str × V)} (s : Same H H') (h : Made H a C fs) : Made H' a C fs := by
  rcases h with ⟨e, h⟩ | ⟨dd, h1, h2⟩
  · exact .inl ⟨e, s _ _ h⟩
  · exact .inr ⟨dd, s _ _ h1, s _ _ h2⟩
theorem Made.isX {H : Hp} {a C : Addr} {fs : List (Str × V)} (h : Made H a C fs) : IsX H a C := by
  rcases h with ⟨_, h⟩ | ⟨dd, h1, h2⟩
  · exact .inl h
  · exact .inr ⟨dd, fs, h1, h2⟩
inductive MadeAll (H : Hp) : List Addr → List Addr → List (List (Str × V)) → Prop
  | nil : MadeAll H [] [] []
  | cons {a C : Addr} {fs : List (Str × V)} {as cs : List Addr} {fss : List (List (Str × V))} : Made H a C fs → MadeAll H as cs fss → MadeAll H (a :: as) (C :: cs) (fs :: fss)
theorem MadeAll.same {H H' : Hp} (s : Same H H') : ∀ {as cs : List Addr} {fss : List (List (Str × V))}, MadeAll H as cs fss → MadeAll H' as cs fss
  | _, _, _, .nil => .nil
  | _, _, _, .cons h t => .cons (h.same s) (MadeAll.same s t)
theorem MadeAll.append {H : Hp} : ∀ {as cs bs ds : List Addr} {fss gss : List (List (Str × V))}, MadeAll H as cs fss → MadeAll H bs ds gss → MadeAll H (as ++ bs) (cs ++ ds) (fss ++ gss)
  | _, _, _, _, _, _, .nil, t => t
  | _, _, _, _, _, _, .cons h r, t => .cons h (MadeAll.append r t)
theorem MadeAll.length {H : Hp} : ∀ {as cs : List Addr} {fss : List (List (Str × V))}, MadeAll H as cs fss → as.length = cs.length
  | _, _, _, .nil => rfl
  | _, _, _, .cons _ r => congrArg Nat.succ (MadeAll.length r)
theorem MadeAll.get {H : Hp} : ∀ {as cs : List Addr} {fss : List (List (Str × V))} {i : Nat} {C : Addr} {fs : List (Str × V)}, MadeAll H as cs fss → cs[i]? = some C → fss[i]? = some fs → ∃ a, as[i]? = some a ∧ Made H a C fs
  | _, _, _, _, _, _, .nil, e, _ => by simp at e
  | _, _, _, 0, _, _, .cons h _, e, e2 => by
    simp at e e2
    subst e
    subst e2
    exact ⟨_, rfl, h⟩
  | _, _, _, i + 1, C, fs, .cons _ t, e, e2 => by
    obtain ⟨a, h1, h2⟩ := MadeAll.get (i := i) (C := C) (fs := fs) t (by simpa using e) (by simpa using e2)
    exact ⟨a, by simpa using h1, h2⟩
/-- te makes an error of class C with these fields -/
def Mk (te : TE) (σ : L2.St) (C : Addr) (fs : List (Str × V)) : Prop := ∀ (H : Hp) (Q : VK), (∀ a H', Same H H' → Made H' a C fs → Q (.ref a) H') → te σ H Q
def Mks (ta : TA) (σ : L2.St) (cs : List Addr) (fss : List (List (Str × V))) : Prop := ∀ (H : Hp) (Q : List V → Hp → Prop), (∀ as H', Same H H' → MadeAll H' as cs fss → Q (as.map V.ref) H') → ta σ H Q
section
variable {σ : L2.St} {C : Addr} {f g : Str} {y z : V} {i j : Nat} {te : TE} {ta : TA} {cs : List Addr} {fss : List (List (Str × V))} {fs : List (Str × V)}
theorem mks_nil : Mks tNil σ [] [] := fun H Q q => q [] H (Same.refl H) .nil
theorem mks_cons (h : Mk te σ C fs) (t : Mks ta σ cs fss) : Mks (tCons te ta) σ (C :: cs) (fs :: fss) := fun H Q q =>
  h H _ fun a H1 s1 m1 => t H1 _ fun as H2 s2 m2 => q (a :: as) H2 (s1.trans s2) (.cons (m1.same s2) m2)
theorem mk_0 : Mk (fun σ H Q => ∀ a, H a = none → Q (.ref a) (upd H a (exo a C none))) σ C [] := fun H Q q a ha => q a _ (same_new ha) (.inl ⟨rfl, upd_same⟩)
theorem mk_same {H1 H' : Hp} {a dx : Addr} (ha : H1 a = none) (hd : upd H1 a (exo a C none) dx = none) (hne : dx ≠ a) (h : ∀ b, b ≠ a → b ≠ dx → H' b = upd H1 a (exo a C none) b) : Same H1 H' := fun b o e => by
  rw [upd_ne hne] at hd
  have n1 : b ≠ a := ne_of_none e ha
  rw [h b n1 (ne_of_none e hd), upd_ne n1]
  exact e
theorem mk_1 (e : σ[i]? = some (some y)) : Mk (tMkV C (spX C [f]) (tCons (tVar i) tNil)) σ C [(f, y)] := fun H Q q =>
  ⟨y, e, Nat.le_of_ble_eq_true rfl, fun a ha => ⟨a, [y], rfl, rfl, upd_same, fun dx H' hd hne h1 h2 h3 => ⟨rfl, q a H' (mk_same ha hd hne h3) (.inr ⟨dx, h1, h2⟩)⟩⟩⟩
theorem mk_2 (e : σ[i]? = some (some y)) (e2 : σ[j]? = some (some z)) : Mk (tMkV C (spX C [f, g]) (tCons (tVar i) (tCons (tVar j) tNil))) σ C [(g, z), (f, y)] := fun H Q q =>
  ⟨y, e, z, e2, Nat.le_of_ble_eq_true rfl, fun a ha => ⟨a, [y, z], rfl, rfl, upd_same, fun dx H' hd hne h1 h2 h3 => ⟨rfl, q a H' (mk_same ha hd hne h3) (.inr ⟨dx, h1, h2⟩)⟩⟩⟩
end
/-- te tells b, whatever H that keeps φ -/
def Fl (φ : Hp → Prop) (te : TE) (σ : L2.St) (b : Bool) : Prop := ∀ (H : Hp) (Q : VK), φ H → Q (.bl b) H → te σ H Q
def Fls (φ : Hp → Prop) (ta : TA) (σ : L2.St) (bs : List Bool) : Prop := ∀ (H : Hp) (Q : List V → Hp → Prop), φ H → Q (bs.map V.bl) H → ta σ H Q
theorem fls_nil {φ : Hp → Prop} {σ : L2.St} : Fls φ tNil σ [] := fun H Q _ q => q
theorem fls_cons {φ : Hp → Prop} {σ : L2.St} {te : TE} {ta : TA} {b : Bool} {bs : List Bool} (h : Fl φ te σ b) (t : Fls φ ta σ bs) : Fls φ (tCons te ta) σ (b :: bs) := fun H Q p q => h H _ p (t H _ p q)
theorem cat_ret {φ : Hp → Prop} {ta : TA} {σ : L2.St} {H : Hp} {Q : VK} {i : Nat} {p : Addr} {xs : List V} {bs : List Bool} (hst : ∀ H H', Same H H' → φ H → φ H') (hi : σ[i]? = some (some (.ref p))) (hp : H p = some (.lst xs)) (hφ : φ H) (hf : Fls φ ta σ bs) (hl : xs.length + (bs.map V.bl).length ≤ 1000)
    (k : ∀ p' H', Same H H' → H p' = none → H' p' = some (.lst (xs ++ bs.map V.bl)) → Q (.ref p') H') : tOp rCat (tVar i) (tLst ta) σ H Q := by
  refine p_op (p_var hi (p_lst (hf H _ hφ ⟨line200 (by omega), fun q hq => ?_⟩)))
  have s1 : Same H (upd H q (.lst (bs.map V.bl))) := same_new hq
  refine ⟨p, q, xs, bs.map V.bl, rfl, rfl, s1 _ _ hp, upd_same, line200 (by omega), fun p3 hp3 => ?_⟩
  exact k p3 _ (s1.trans (same_new hp3)) (s1.free hp3) upd_same
theorem cat_step {φ : Hp → Prop} {ta : TA} {σ : L2.St} {H : Hp} {D : Ends} {i : Nat} {p : Addr} {xs : List V} {bs : List Bool} (hst : ∀ H H', Same H H' → φ H → φ H') (hi : σ[i]? = some (some (.ref p))) (hp : H p = some (.lst xs)) (hφ : φ H) (hf : Fls φ ta σ bs) (hl : xs.length + (bs.map V.bl).length ≤ 1000)
    (k : ∀ p' H', Same H H' → H p' = none → H' p' = some (.lst (xs ++ bs.map V.bl)) → D.nx (σ.set i (some (.ref p'))) H') : tAsg (tOp rCat (tVar i) (tLst ta)) (gName i) D σ H :=
  p_set (cat_ret hst hi hp hφ hf hl k)
/-- the errors' classes: what the text says of them -/
structure ErrT (K : PySem.W.Frag) (mg : Str → Option Value) (c : Nat → Addr) (cR : Addr) : Prop where
  kit : ∀ i j, i < 15 → j < 15 → PySem.W.kitOne K (.ref (c i)) (.ref (c j)) = some (decide (i = j))
  exc : ∀ i, i < 15 → ExcC K (c i)
  ve : ∀ i, i < 15 → PySem.W.kitOne K (.ref (c i)) (.type "ValueError") = some true
  row : ∀ i, i < 15 → PySem.W.kitOne K (.ref (c i)) (.ref cR) = some true
  exm : ∀ i, i < 15 → PySem.W.exmOne K (.ref (c i)) (.ref cR) = some true
  ty : ∀ i, i < 15 → PySem.W.typeIn K (.ref (c i)) = some (.type "type")
  kp : ∀ i, i < 15 → PySem.W.keepIn K (.ref (c i)) = true
  gR : mg "RowError" = some (.ref cR)
  g0 : mg "Wrong" = some (.ref (c 0))
  g1 : mg "BadTable" = some (.ref (c 1))
  g2 : mg "BadRow" = some (.ref (c 2))
  g3 : mg "NoTable" = some (.ref (c 3))
  g4 : mg "Unlike" = some (.ref (c 4))
  g5 : mg "TooMany" = some (.ref (c 5))
  g6 : mg "NoJoinTree" = some (.ref (c 6))
  g7 : mg "NoAnswer" = some (.ref (c 7))
  g8 : mg "Taken" = some (.ref (c 8))
  g9 : mg "Missing" = some (.ref (c 9))
  g10 : mg "NoDeed" = some (.ref (c 10))
  g11 : mg "Nothing" = some (.ref (c 11))
  g12 : mg "Stopped" = some (.ref (c 12))
  g13 : mg "NoText" = some (.ref (c 13))
  g14 : mg "NoCommand" = some (.ref (c 14))
  x4 : PySem.W.excIn K (c 4) PySem.HandSPX.veTail "ValueError.__new__" = true
  x6 : PySem.W.excIn K (c 6) PySem.HandSPX.veTail "ValueError.__new__" = true
  x10 : PySem.W.excIn K (c 10) PySem.HandSPX.veTail "ValueError.__new__" = true
  x11 : PySem.W.excIn K (c 11) PySem.HandSPX.veTail "ValueError.__new__" = true
  x13 : PySem.W.excIn K (c 13) PySem.HandSPX.veTail "ValueError.__new__" = true
  x14 : PySem.W.excIn K (c 14) PySem.HandSPX.veTail "ValueError.__new__" = true
theorem ErrT.xf {K : PySem.W.Frag} {mg : Str → Option Value} {c : Nat → Addr} {cR : Addr} (T : ErrT K mg c cR) (i : Nat) (h : i < 15) : XfC K (c i) := ⟨(T.exc i h).hg, (T.exc i h).hk, (T.exc i h).hs, (T.exc i h).hd⟩
section
variable {P : Program} {w : World} {K : PySem.W.Frag} {mg : Str → Option Value} {base : Heap} {f : Addr} {fd : FuncData} {c : Nat → Addr} {cR : Addr}
abbrev sFlags : Stmt := topS 23
theorem scFlags : FnScope ["_law_error", "_law_found"] ["_law_error"] (defScope sFlags) := ⟨rfl, rfl, rfl, by decide +kernel, rfl, by decide +kernel, by decide +kernel⟩
/-- the flags of the i-th class -/
def flags (i : Nat) : List Bool := (List.range 15).map fun j => decide (i = j)
end
end My
set_option Elab.async false
set_option linter.all false
set_option maxRecDepth 100000
set_option maxHeartbeats 4000000
namespace My
open PySem PySem.Spec PyProof.Rows L2 NdefX
section
variable {P : Program} {w : World} {K : PySem.W.Frag} {mg : Str → Option Value} {base : Heap} {f : Addr} {fd : FuncData} {c : Nat → Addr} {cR : Addr}
def tIs (r : List V → Hp → VK → Prop) (C : Addr) : TE := tCB r (tCons (tVar 0) (tCons (tC (.ref C)) tNil))
def tFlags (r : List V → Hp → VK → Prop) (c : Nat → Addr) : TS := tSeq (tAsg (tLst (tCons (tIs r (c 0)) (tCons (tIs r (c 1)) (tCons (tIs r (c 2)) tNil)))) (gName 1)) (tSeq (tAsg (tOp rCat (tVar 1) (tLst (tCons (tIs r (c 3)) (tCons (tIs r (c 4)) (tCons (tIs r (c 5)) tNil))))) (gName 1)) (tSeq (tAsg (tOp rCat (tVar 1) (tLst (tCons (tIs r (c 6)) tNil))) (gName 1)) (tSeq (tAsg (tOp rCat (tVar 1) (tLst (tCons (tIs r (c 7)) (tCons (tIs r (c 8)) (tCons (tIs r (c 9)) tNil))))) (gName 1)) (tSeq (tAsg (tOp rCat (tVar 1) (tLst (tCons (tIs r (c 10)) (tCons (tIs r (c 11)) (tCons (tIs r (c 12)) tNil))))) (gName 1)) (tRet (tOp rCat (tVar 1) (tLst (tCons (tIs r (c 13)) (tCons (tIs r (c 14)) tNil)))))))))
theorem flags_pss {X : Cx} {r : List V → Hp → VK → Prop} (hI : CallR X (.builtin "isinstance") r) (hmg : X.mg = mg) (hN : X.N = (["_law_error", "_law_found"] : List Str)) (hsc : X.env.scope = defScope sFlags) (hg : ∀ x, (defScope sFlags).names.lookup x = some .globalImplicit → Gl X x) (Fr : Free mg) (T : ErrT K mg c cR) : PSs X (defBody sFlags) (tFlags r c) := by
  subst hmg
  have v0 : ∀ pos, PE X (.Name "_law_error" pos) (tVar 0) := fun pos => pe_var (by rw [hN]; rfl) (.inl (by rw [hsc]; rfl)) (by decide) (by decide)
  have v1 : ∀ pos, PE X (.Name "_law_found" pos) (tVar 1) := fun pos => pe_var (by rw [hN]; rfl) (.inl (by rw [hsc]; rfl)) (by decide) (by decide)
  have is : ∀ {x : Str} {C : Addr} {p p1 p2 pos : Pos}, (defScope sFlags).names.lookup x = some .globalImplicit → X.mg x = some (.ref C) → (x == ("__debug__" : Str)) = false →
      PE X (.Call (.Name "isinstance" p) [.Name "_law_error" p1, .Name x p2] [] pos) (tIs r C) := fun {x C p p1 p2 pos} h1 h2 h3 =>
    pe_callB hI (hg _ rfl) Fr.isi boot_isi (pa_cons (v0 _) (pa_cons (pe_glob (v := .ref C) (hg _ h1) h2 rfl h3) pa_nil)) (by decide) (by decide) rfl rfl
  exact pss_cons (ps_set (i := 1) (by rw [hN]; decide) (by rw [hN]; rfl) (.inl (by rw [hsc]; rfl)) (pe_lst (pa_cons (is rfl T.g0 (by decide)) (pa_cons (is rfl T.g1 (by decide)) (pa_cons (is rfl T.g2 (by decide)) pa_nil)))) (by rfl) (.inr (by rw [hsc]; rfl)))
    (pss_cons (ps_set (i := 1) (by rw [hN]; decide) (by rw [hN]; rfl) (.inl (by rw [hsc]; rfl)) (pe_op op_cat (v1 _) (pe_lst (pa_cons (is rfl T.g3 (by decide)) (pa_cons (is rfl T.g4 (by decide)) (pa_cons (is rfl T.g5 (by decide)) pa_nil))))) (by rfl) (.inr (by rw [hsc]; rfl)))
    (pss_cons (ps_set (i := 1) (by rw [hN]; decide) (by rw [hN]; rfl) (.inl (by rw [hsc]; rfl)) (pe_op op_cat (v1 _) (pe_lst (pa_cons (is rfl T.g6 (by decide)) pa_nil))) (by rfl) (.inr (by rw [hsc]; rfl)))
    (pss_cons (ps_set (i := 1) (by rw [hN]; decide) (by rw [hN]; rfl) (.inl (by rw [hsc]; rfl)) (pe_op op_cat (v1 _) (pe_lst (pa_cons (is rfl T.g7 (by decide)) (pa_cons (is rfl T.g8 (by decide)) (pa_cons (is rfl T.g9 (by decide)) pa_nil))))) (by rfl) (.inr (by rw [hsc]; rfl)))
    (pss_cons (ps_set (i := 1) (by rw [hN]; decide) (by rw [hN]; rfl) (.inl (by rw [hsc]; rfl)) (pe_op op_cat (v1 _) (pe_lst (pa_cons (is rfl T.g10 (by decide)) (pa_cons (is rfl T.g11 (by decide)) (pa_cons (is rfl T.g12 (by decide)) pa_nil))))) (by rfl) (.inr (by rw [hsc]; rfl)))
    (pss_one (ps_ret (pe_op op_cat (v1 _) (pe_lst (pa_cons (is rfl T.g13 (by decide)) (pa_cons (is rfl T.g14 (by decide)) pa_nil))))))))))
theorem flst {φ : Hp → Prop} {u : TS} {ta : TA} {v : V} {H : Hp} {D : Ends} {bs : List Bool} (hφ : φ H) (hf : Fls φ ta [some v, none] bs) (hl : bs.length ≤ 1000)
    (k : ∀ p' H', Same H H' → H p' = none → H' p' = some (.lst (bs.map V.bl)) → u D [some v, some (.ref p')] H') : tSeq (tAsg (tLst ta) (gName 1)) u D [some v, none] H := by
  refine p_seq (p_set (p_lst (hf H _ hφ ⟨line200 (by rw [List.length_map]; omega), fun q hq => ?_⟩)))
  exact k q _ (same_new hq) hq upd_same
theorem fcat {φ : Hp → Prop} {u : TS} {ta : TA} {v : V} {H : Hp} {D : Ends} {p : Addr} {as bs : List Bool} (hst : ∀ H H', Same H H' → φ H → φ H') (hp : H p = some (.lst (as.map V.bl))) (hφ : φ H) (hf : Fls φ ta [some v, some (.ref p)] bs) (hl : as.length + bs.length ≤ 1000)
    (k : ∀ p' H', Same H H' → H p' = none → H' p' = some (.lst ((as ++ bs).map V.bl)) → u D [some v, some (.ref p')] H') : tSeq (tAsg (tOp rCat (tVar 1) (tLst ta)) (gName 1)) u D [some v, some (.ref p)] H := by
  refine p_seq (cat_step (i := 1) hst rfl hp hφ hf (by rw [List.length_map, List.length_map]; exact hl) fun p' H' s n e => ?_)
  rw [← List.map_append] at e
  exact k p' H' s n e
theorem fret {φ : Hp → Prop} {ta : TA} {v : V} {H : Hp} {D : Ends} {p : Addr} {as bs : List Bool} (hst : ∀ H H', Same H H' → φ H → φ H') (hp : H p = some (.lst (as.map V.bl))) (hφ : φ H) (hf : Fls φ ta [some v, some (.ref p)] bs) (hl : as.length + bs.length ≤ 1000)
    (k : ∀ p' H', Same H H' → H p' = none → H' p' = some (.lst ((as ++ bs).map V.bl)) → D.rt (.ref p') H') : tRet (tOp rCat (tVar 1) (tLst ta)) D [some v, some (.ref p)] H := by
  refine p_ret (cat_ret (i := 1) hst rfl hp hφ hf (by rw [List.length_map, List.length_map]; exact hl) fun p' H' s n e => ?_)
  rw [← List.map_append] at e
  exact k p' H' s n e
theorem flags_read {r : List V → Hp → VK → Prop} (φ : Hp → Prop) (v : V) (b : Nat → Bool) (D : Ends) (H : Hp) (hst : ∀ H H', Same H H' → φ H → φ H') (hφ : φ H)
    (hr : ∀ j H (Q : VK), j < 15 → φ H → Q (.bl (b j)) H → r [v, .ref (c j)] H Q) (k : ∀ p H', Same H H' → H p = none → H' p = some (.lst (((List.range 15).map b).map V.bl)) → D.rt (.ref p) H') : tFlags r c D [some v, none] H := by
  have fl : ∀ j, j < 15 → Fl φ (tIs r (c j)) [some v, none] (b j) := fun j hj H Q p q => ⟨v, rfl, hr j H Q hj p q⟩
  have fl' : ∀ j (u : Addr), j < 15 → Fl φ (tIs r (c j)) [some v, some (.ref u)] (b j) := fun j u hj H Q p q => ⟨v, rfl, hr j H Q hj p q⟩
  unfold tFlags
  refine flst hφ (fls_cons (fl 0 (by decide)) (fls_cons (fl 1 (by decide)) (fls_cons (fl 2 (by decide)) fls_nil))) (Nat.le_of_ble_eq_true rfl) fun p1 H1 s1 n1 e1 => ?_
  have f1 := hst _ _ (s1) hφ
  refine fcat hst e1 f1 (fls_cons (fl' 3 p1 (by decide)) (fls_cons (fl' 4 p1 (by decide)) (fls_cons (fl' 5 p1 (by decide)) fls_nil))) (Nat.le_of_ble_eq_true rfl) fun p2 H2 s2 n2 e2 => ?_
  have f2 := hst _ _ ((s1).trans s2) hφ
  refine fcat hst e2 f2 (fls_cons (fl' 6 p2 (by decide)) fls_nil) (Nat.le_of_ble_eq_true rfl) fun p3 H3 s3 n3 e3 => ?_
  have f3 := hst _ _ (((s1).trans s2).trans s3) hφ
  refine fcat hst e3 f3 (fls_cons (fl' 7 p3 (by decide)) (fls_cons (fl' 8 p3 (by decide)) (fls_cons (fl' 9 p3 (by decide)) fls_nil))) (Nat.le_of_ble_eq_true rfl) fun p4 H4 s4 n4 e4 => ?_
  have f4 := hst _ _ ((((s1).trans s2).trans s3).trans s4) hφ
  refine fcat hst e4 f4 (fls_cons (fl' 10 p4 (by decide)) (fls_cons (fl' 11 p4 (by decide)) (fls_cons (fl' 12 p4 (by decide)) fls_nil))) (Nat.le_of_ble_eq_true rfl) fun p5 H5 s5 n5 e5 => ?_
  have f5 := hst _ _ (((((s1).trans s2).trans s3).trans s4).trans s5) hφ
  refine fret hst e5 f5 (fls_cons (fl' 13 p5 (by decide)) (fls_cons (fl' 14 p5 (by decide)) fls_nil)) (Nat.le_of_ble_eq_true rfl) fun p6 H6 s6 n6 e6 => ?_
  have sa := ((((s1).trans s2).trans s3).trans s4).trans s5
  exact k p6 H6 (sa.trans s6) (sa.free n6) (e6.trans (congrArg (fun l => some (HO.lst (List.map V.bl l))) (rfl : _ = (List.range 15).map b)))
end
end My
set_option Elab.async false
set_option linter.all false
set_option maxRecDepth 100000
set_option maxHeartbeats 4000000
namespace My
open PySem PySem.Spec PyProof.Rows L2 NdefX
open L2H (RoomH PinOk cxH inv_startH)

section
variable {P : Program} {w : World} {K : PySem.W.Frag} {mg : Str → Option Value} {base : Heap} {f : Addr} {fd : FuncData} {c : Nat → Addr} {cR : Addr}
def spFlags (c : Nat → Addr) : Sp := fun vs H Q _ => ∃ (a : Addr) (i : Nat), vs = [.ref a] ∧ i < 15 ∧ IsX H a (c i) ∧ ∀ p H', Same H H' → H p = none → H' p = some (.lst ((flags i).map V.bl)) → Q (.ref p) H'
def spFlagsP (c : Nat → Addr) (e : Addr × Obj) : Sp := fun vs H Q _ => ∃ (i : Nat), vs = [.ref e.1] ∧ i < 15 ∧ IsP H e (c i) ∧ ∀ p H', Same H H' → H p = none → H' p = some (.lst ((flags i).map V.bl)) → Q (.ref p) H'
theorem ok_flags (F : Fun K "_law_flags" "_law_flags" sFlags f fd) (Fr : Free mg) (T : ErrT K mg c cR) : FnOk P w K mg base CX0 1 f fd ["_law_error"] (spFlags c) := by
  refine F.ok scFlags (fun vs H Q E h => ?_) (fun cdv A outer s H vs Q E hr h => ?_)
  · obtain ⟨a, i, rfl, _⟩ := h
    rfl
  · obtain ⟨a, i, rfl, hi, hx, k⟩ := h
    refine ⟨_, flags_pss (K := K) call_isX rfl rfl rfl (fun x h => h) Fr T, ?_⟩
    exact flags_read (fun H => IsX H a (c i)) (.ref a) (fun j => decide (i = j)) _ H (fun H H' s h => h.same s) hx (fun j H Q hj p q => ⟨a, c i, _, .ref (c j), _, rfl, p, T.exc i hi, fun u ru => ru, T.kit i j hi hj, q⟩) k
theorem okP_flags (F : Fun K "_law_flags" "_law_flags" sFlags f fd) (Fr : Free mg) (T : ErrT K mg c cR) : FnP P w K mg base 1 f fd ["_law_error"] (spFlagsP c) := by
  refine okP F scFlags (fun p vs H Q E h => ?_) (fun cdv A outer s H vs Q E p hr h => ?_)
  · obtain ⟨i, rfl, _⟩ := h
    rfl
  · obtain ⟨i, rfl, hi, hx, k⟩ := h
    refine ⟨_, flags_pss (K := K) (call_isP (p := p) List.mem_cons_self) rfl rfl rfl (fun x h => h) Fr T, ?_⟩
    exact flags_read (fun H => IsP H p (c i)) (.ref p.1) (fun j => decide (i = j)) _ H (fun H H' s h => h.same s) hx (fun j H Q hj q1 q => ⟨c i, _, .ref (c j), _, rfl, q1, T.exc i hi, fun u ru => ru, T.kit i j hi hj, q⟩) k
/-- a class with its own __init__ -/
structure ErrI (P : Program) (w : World) (K : PySem.W.Frag) (mg : Str → Option Value) (base : Heap) (C : Addr) (fs : List Str) : Prop where
  T : SupC K C
  no : ∀ f ∈ fs, PySem.W.findIn K (.ref C) f = some none
  init : ∃ (fI : Addr) (fd : FuncData) (ps : List Str), PySem.W.findIn K (.ref C) "__init__" = some (some (.ref fI)) ∧ PySem.W.typeIn K (.ref fI) = some (.type "function") ∧ FnOk P w K mg base CX0 1 fI fd ps (spX C fs) ∧ Binds K fd ps []
structure ErrIs (P : Program) (w : World) (K : PySem.W.Frag) (mg : Str → Option Value) (base : Heap) (c : Nat → Addr) : Prop where
  e0 : ErrI P w K mg base (c 0) ["place"]
  e1 : ErrI P w K mg base (c 1) ["at"]
  e2 : ErrI P w K mg base (c 2) ["table", "at"]
  e3 : ErrI P w K mg base (c 3) ["name"]
  e5 : ErrI P w K mg base (c 5) ["limit"]
  e7 : ErrI P w K mg base (c 7) ["number"]
  e8 : ErrI P w K mg base (c 8) ["table", "row"]
  e9 : ErrI P w K mg base (c 9) ["table", "row"]
  e12 : ErrI P w K mg base (c 12) ["at"]
theorem pe_err {X : Cx} {C : Addr} {fs : List Str} {x : Str} {e : Expr} {es : List Expr} {ta : TA} {p pos : Pos} (E : ErrI X.prog X.w X.K X.mg X.base C fs) (hr : Room 2 X.A) (hg : Gl X x) (hm : X.mg x = some (.ref C)) (ha : PA X (e :: es) ta)
    (hdb : (x == ("__debug__" : Str)) = false := by decide) (he : starEach (e :: es) X.env = (false, eval e X.env) :: starEach es X.env := by rfl) (hpl : (backTo pos (starEach es X.env)).any (·.1) = false := by rfl) :
    PE X (.Call (.Name x p) (e :: es) [] pos) (tMkV C (spX C fs) ta) := by
  obtain ⟨fI, fd, ps, h1, h2, h3, h4⟩ := E.init
  exact pe_oexV E.T.oex h1 h2 h3 hr h4 hg hm ha hdb he hpl
abbrev sErrors : Stmt := topS 22
theorem scErrors : FnScope ["_law_one", "_law_two", "_law_found"] ["_law_one", "_law_two"] (defScope sErrors) := ⟨rfl, rfl, rfl, by decide +kernel, rfl, by decide +kernel, by decide +kernel⟩
def fssOf (one two : V) : List (List (Str × V)) := [[("place", one)], [("at", one)], [("at", two), ("table", one)], [("name", one)], [], [("limit", one)], [], [("number", one)], [("row", two), ("table", one)], [("row", two), ("table", one)], [], [], [("at", one)], [], []]
def csOf (c : Nat → Addr) : List Addr := [c 0, c 1, c 2, c 3, c 4, c 5, c 6, c 7, c 8, c 9, c 10, c 11, c 12, c 13, c 14]
def tE0 (C : Addr) : TE := fun σ H Q => ∀ a, H a = none → Q (.ref a) (upd H a (exo a C none))
def tE1 (C : Addr) (f : Str) : TE := tMkV C (spX C [f]) (tCons (tVar 0) tNil)
def tE2 (C : Addr) (f g : Str) : TE := tMkV C (spX C [f, g]) (tCons (tVar 0) (tCons (tVar 1) tNil))
def tErrors (c : Nat → Addr) : TS := tSeq (tAsg (tLst (tCons (tE1 (c 0) "place") (tCons (tE1 (c 1) "at") (tCons (tE2 (c 2) "table" "at") (tCons (tE1 (c 3) "name") (tCons (tE0 (c 4)) (tCons (tE1 (c 5) "limit") (tCons (tE0 (c 6)) tNil)))))))) (gName 2)) (tSeq (tAsg (tOp rCat (tVar 2) (tLst (tCons (tE1 (c 7) "number") (tCons (tE2 (c 8) "table" "row") (tCons (tE2 (c 9) "table" "row") (tCons (tE0 (c 10)) (tCons (tE0 (c 11)) (tCons (tE1 (c 12) "at") (tCons (tE0 (c 13)) tNil))))))))) (gName 2)) (tRet (tOp rCat (tVar 2) (tLst (tCons (tE0 (c 14)) tNil)))))
theorem mlst {u : TS} {ta : TA} {v v' : V} {H : Hp} {D : Ends} {cs : List Addr} {fss : List (List (Str × V))} (hf : Mks ta [some v, some v', none] cs fss) (hl : cs.length ≤ 1000)
    (k : ∀ p' as H', Same H H' → H p' = none → H' p' = some (.lst (as.map V.ref)) → MadeAll H' as cs fss → u D [some v, some v', some (.ref p')] H') : tSeq (tAsg (tLst ta) (gName 2)) u D [some v, some v', none] H := by
  refine p_seq (p_set (p_lst (hf H _ fun as H1 s1 m1 => ⟨line200 (by rw [List.length_map, m1.length]; omega), fun q hq => ?_⟩)))
  exact k q as _ (s1.trans (same_new hq)) (s1.free hq) upd_same (m1.same (same_new hq))
theorem mcatr {ta : TA} {v v' : V} {H : Hp} {Q : VK} {p : Addr} {as cs ds : List Addr} {fss gss : List (List (Str × V))} (hp : H p = some (.lst (as.map V.ref))) (hm : MadeAll H as cs fss) (hf : Mks ta [some v, some v', some (.ref p)] ds gss) (hl : cs.length + ds.length ≤ 1000)
    (k : ∀ p' bs H', Same H H' → H p' = none → H' p' = some (.lst (bs.map V.ref)) → MadeAll H' bs (cs ++ ds) (fss ++ gss) → Q (.ref p') H') : tOp rCat (tVar 2) (tLst ta) [some v, some v', some (.ref p)] H Q := by
  refine p_op (p_var rfl (p_lst (hf H _ fun bs H1 s1 m1 => ⟨line200 (by rw [List.length_map, m1.length]; omega), fun q hq => ?_⟩)))
  have s2 : Same H1 (upd H1 q (.lst (bs.map V.ref))) := same_new hq
  refine ⟨p, q, as.map V.ref, bs.map V.ref, rfl, rfl, s2 _ _ (s1 _ _ hp), upd_same, line200 (by rw [List.length_map, List.length_map, m1.length, hm.length]; omega), fun p3 hp3 => ?_⟩
  have s3 := s1.trans s2
  refine k p3 (as ++ bs) _ (s3.trans (same_new hp3)) (s3.free hp3) (by rw [upd_same, List.map_append]) ?_
  exact MadeAll.append (hm.same (s3.trans (same_new hp3))) (m1.same (s2.trans (same_new hp3)))
theorem mcat {u : TS} {ta : TA} {v v' : V} {H : Hp} {D : Ends} {p : Addr} {as cs ds : List Addr} {fss gss : List (List (Str × V))} (hp : H p = some (.lst (as.map V.ref))) (hm : MadeAll H as cs fss) (hf : Mks ta [some v, some v', some (.ref p)] ds gss) (hl : cs.length + ds.length ≤ 1000)
    (k : ∀ p' bs H', Same H H' → H p' = none → H' p' = some (.lst (bs.map V.ref)) → MadeAll H' bs (cs ++ ds) (fss ++ gss) → u D [some v, some v', some (.ref p')] H') : tSeq (tAsg (tOp rCat (tVar 2) (tLst ta)) (gName 2)) u D [some v, some v', some (.ref p)] H :=
  p_seq (p_set (mcatr hp hm hf hl k))
def spErrors (c : Nat → Addr) : Sp := fun vs H Q _ => ∃ one two, vs = [one, two] ∧ ∀ p as H', Same H H' → H p = none → H' p = some (.lst (as.map V.ref)) → MadeAll H' as (csOf c) (fssOf one two) → Q (.ref p) H'
theorem errors_read (one two : V) (D : Ends) (H : Hp) (k : ∀ p as H', Same H H' → H p = none → H' p = some (.lst (as.map V.ref)) → MadeAll H' as (csOf c) (fssOf one two) → D.rt (.ref p) H') : tErrors c D [some one, some two, none] H := by
  unfold tErrors
  refine mlst (mks_cons (mk_1 rfl) (mks_cons (mk_1 rfl) (mks_cons (mk_2 rfl rfl) (mks_cons (mk_1 rfl) (mks_cons mk_0 (mks_cons (mk_1 rfl) (mks_cons mk_0 mks_nil))))))) (Nat.le_of_ble_eq_true rfl) fun p1 as1 H1 s1 n1 e1 m1 => ?_
  refine mcat e1 m1 (mks_cons (mk_1 rfl) (mks_cons (mk_2 rfl rfl) (mks_cons (mk_2 rfl rfl) (mks_cons mk_0 (mks_cons mk_0 (mks_cons (mk_1 rfl) (mks_cons mk_0 mks_nil))))))) (Nat.le_of_ble_eq_true rfl) fun p2 as2 H2 s2 n2 e2 m2 => ?_
  refine p_ret (mcatr e2 m2 (mks_cons mk_0 mks_nil) (Nat.le_of_ble_eq_true rfl) fun p3 as3 H3 s3 n3 e3 m3 => ?_)
  exact k p3 as3 H3 ((s1.trans s2).trans s3) ((s1.trans s2).free n3) e3 m3
theorem ok_errors (F : Fun K "_law_errors" "_law_errors" sErrors f fd) (T : ErrT K mg c cR) (E : ErrIs P w K mg base c) : FnOk P w K mg base CX0 3 f fd ["_law_one", "_law_two"] (spErrors c) := by
  have nd := scErrors.nd
  refine F.ok scErrors (fun vs H Q X h => ?_) (fun cdv A outer s H vs Q X hr h => ?_)
  · obtain ⟨one, two, rfl, _⟩ := h
    rfl
  · obtain ⟨one, two, rfl, k⟩ := h
    refine ⟨tErrors c, ?_, errors_read one two _ H k⟩
    exact pss_cons (ps_set (i := 2) nd rfl (.inl rfl) (pe_lst (pa_cons (pe_err E.e0 hr (by rfl) T.g0 (pa_cons (pv 0) pa_nil)) (pa_cons (pe_err E.e1 hr (by rfl) T.g1 (pa_cons (pv 0) pa_nil)) (pa_cons (pe_err E.e2 hr (by rfl) T.g2 (pa_cons (pv 0) (pa_cons (pv 1) pa_nil))) (pa_cons (pe_err E.e3 hr (by rfl) T.g3 (pa_cons (pv 0) pa_nil)) (pa_cons (pe_ex0V T.x4 (T.kp 4 (by decide)) (by rfl) T.g4) (pa_cons (pe_err E.e5 hr (by rfl) T.g5 (pa_cons (pv 0) pa_nil)) (pa_cons (pe_ex0V T.x6 (T.kp 6 (by decide)) (by rfl) T.g6) pa_nil)))))))))
      (pss_cons (ps_set (i := 2) nd rfl (.inl rfl) (pe_op op_cat (pv 2) (pe_lst (pa_cons (pe_err E.e7 hr (by rfl) T.g7 (pa_cons (pv 0) pa_nil)) (pa_cons (pe_err E.e8 hr (by rfl) T.g8 (pa_cons (pv 0) (pa_cons (pv 1) pa_nil))) (pa_cons (pe_err E.e9 hr (by rfl) T.g9 (pa_cons (pv 0) (pa_cons (pv 1) pa_nil))) (pa_cons (pe_ex0V T.x10 (T.kp 10 (by decide)) (by rfl) T.g10) (pa_cons (pe_ex0V T.x11 (T.kp 11 (by decide)) (by rfl) T.g11) (pa_cons (pe_err E.e12 hr (by rfl) T.g12 (pa_cons (pv 0) pa_nil)) (pa_cons (pe_ex0V T.x13 (T.kp 13 (by decide)) (by rfl) T.g13) pa_nil))))))))))
      (pss_one (ps_ret (pe_op op_cat (pv 2) (pe_lst (pa_cons (pe_ex0V T.x14 (T.kp 14 (by decide)) (by rfl) T.g14) pa_nil))))))
end
end My
set_option Elab.async false
set_option linter.all false
set_option maxRecDepth 100000
set_option maxHeartbeats 4000000
namespace My
open PySem PySem.Spec PyProof.Rows L2 NdefX
open L2H (RoomH PinOk cxH inv_startH)
/-- te gives v, whatever H that keeps φ -/
def Vl (φ : Hp → Prop) (te : TE) (σ : L2.St) (v : V) : Prop := ∀ (H : Hp) (Q : VK), φ H → Q v H → te σ H Q
def Vls (φ : Hp → Prop) (ta : TA) (σ : L2.St) (vs : List V) : Prop := ∀ (H : Hp) (Q : List V → Hp → Prop), φ H → Q vs H → ta σ H Q
theorem vls_nil {φ : Hp → Prop} {σ : L2.St} : Vls φ tNil σ [] := fun H Q _ q => q
theorem vls_cons {φ : Hp → Prop} {σ : L2.St} {te : TE} {ta : TA} {b : V} {bs : List V} (h : Vl φ te σ b) (t : Vls φ ta σ bs) : Vls φ (tCons te ta) σ (b :: bs) := fun H Q p q => h H _ p (t H _ p q)
theorem vlst {φ : Hp → Prop} {u : TS} {ta : TA} {v : V} {H : Hp} {D : Ends} {bs : List V} (hφ : φ H) (hf : Vls φ ta [some v, none] bs) (hl : bs.length ≤ 1000)
    (k : ∀ p' H', Same H H' → H p' = none → H' p' = some (.lst bs) → u D [some v, some (.ref p')] H') : tSeq (tAsg (tLst ta) (gName 1)) u D [some v, none] H := by
  refine p_seq (p_set (p_lst (hf H _ hφ ⟨line200 (by omega), fun q hq => ?_⟩)))
  exact k q _ (same_new hq) hq upd_same
theorem vcatr {φ : Hp → Prop} {ta : TA} {v : V} {H : Hp} {Q : VK} {p : Addr} {as bs : List V} (hp : H p = some (.lst as)) (hφ : φ H) (hf : Vls φ ta [some v, some (.ref p)] bs) (hl : as.length + bs.length ≤ 1000)
    (k : ∀ p' H', Same H H' → H p' = none → H' p' = some (.lst (as ++ bs)) → Q (.ref p') H') : tOp rCat (tVar 1) (tLst ta) [some v, some (.ref p)] H Q := by
  refine p_op (p_var rfl (p_lst (hf H _ hφ ⟨line200 (by omega), fun q hq => ?_⟩)))
  have s1 : Same H (upd H q (.lst bs)) := same_new hq
  refine ⟨p, q, as, bs, rfl, rfl, s1 _ _ hp, upd_same, line200 (by omega), fun p3 hp3 => ?_⟩
  exact k p3 _ (s1.trans (same_new hp3)) (s1.free hp3) upd_same
theorem vcat {φ : Hp → Prop} {u : TS} {ta : TA} {v : V} {H : Hp} {D : Ends} {p : Addr} {as bs : List V} (hp : H p = some (.lst as)) (hφ : φ H) (hf : Vls φ ta [some v, some (.ref p)] bs) (hl : as.length + bs.length ≤ 1000)
    (k : ∀ p' H', Same H H' → H p' = none → H' p' = some (.lst (as ++ bs)) → u D [some v, some (.ref p')] H') : tSeq (tAsg (tOp rCat (tVar 1) (tLst ta)) (gName 1)) u D [some v, some (.ref p)] H :=
  p_seq (p_set (vcatr hp hφ hf hl k))
section
variable {P : Program} {w : World} {K : PySem.W.Frag} {mg : Str → Option Value} {base : Heap} {f : Addr} {fd : FuncData} {c : Nat → Addr} {cR : Addr}
abbrev sFields : Stmt := topS 24
theorem scFields : FnScope ["_law_errors_here", "_law_found"] ["_law_errors_here"] (defScope sFields) := ⟨rfl, rfl, rfl, by decide +kernel, rfl, by decide +kernel, by decide +kernel⟩
/-- the errors of one and two stand in the list at e -/
def ErrsAt (c : Nat → Addr) (one two : V) (e : Addr) (H : Hp) : Prop := ∃ as, H e = some (.lst (as.map V.ref)) ∧ MadeAll H as (csOf c) (fssOf one two)
theorem ErrsAt.same {one two : V} {e : Addr} {H H' : Hp} (s : Same H H') (h : ErrsAt c one two e H) : ErrsAt c one two e H' :=
  let ⟨as, h1, h2⟩ := h
  ⟨as, s _ _ h1, h2.same s⟩
theorem ErrsAt.get {one two : V} {e C : Addr} {H : Hp} {n : Nat} {fs : List (Str × V)} (h : ErrsAt c one two e H) (h1 : (csOf c)[n]? = some C) (h2 : (fssOf one two)[n]? = some fs) :
    ∃ (as : List Addr) (a : Addr), H e = some (.lst (as.map V.ref)) ∧ atI (as.map V.ref) (n : Int) = some (V.ref a) ∧ Made H a C fs := by
  obtain ⟨as, h3, h4⟩ := h
  obtain ⟨a, h5, h6⟩ := h4.get h1 h2
  refine ⟨as, a, h3, atI_nat (j := n) ?_, h6⟩
  rw [List.getElem?_map, h5]
  rfl
def tFld (K : PySem.W.Frag) (n : Int) (f : Str) : TE := tXv K f (tOp (rIxL K) (tVar 0) (tC (.int n)))
theorem fld {one two v : V} {e C : Addr} {x : Option V} {n : Nat} {p : Str × V} {fs : List (Str × V)} {f : Str} (h1 : (csOf c)[n]? = some C) (h2 : (fssOf one two)[n]? = some (p :: fs)) (h3 : (p :: fs).lookup f = some v)
    (X : XfC K C) (no : PySem.W.findIn K (.ref C) f = some none) : Vl (ErrsAt c one two e) (tFld K n f) [some (.ref e), x] v := fun H Q hφ q => by
  obtain ⟨as, a, h4, h5, h6⟩ := hφ.get h1 h2
  refine ⟨_, rfl, e, _, n, _, rfl, rfl, SqL.of h4, h5, ?_⟩
  rcases h6 with ⟨z, _⟩ | ⟨dd, h7, h8⟩
  · cases z
  · exact ⟨a, C, dd, p :: fs, v, rfl, h7, h8, X, no, h3, q⟩
def spFields (c : Nat → Addr) : Sp := fun vs H Q _ => ∃ e one two, vs = [.ref e] ∧ ErrsAt c one two e H ∧ ∀ p H', Same H H' → H p = none → H' p = some (.lst [one, one, one, two, one, one, one, one, two, one, two, one]) → Q (.ref p) H'
def tFields (K : PySem.W.Frag) : TS := tSeq (tAsg (tLst (tCons (tFld K 0 "place") (tCons (tFld K 1 "at") (tCons (tFld K 2 "table") (tCons (tFld K 2 "at") (tCons (tFld K 3 "name") (tCons (tFld K 5 "limit") tNil))))))) (gName 1))
  (tSeq (tAsg (tOp rCat (tVar 1) (tLst (tCons (tFld K 7 "number") (tCons (tFld K 8 "table") (tCons (tFld K 8 "row") (tCons (tFld K 9 "table") (tCons (tFld K 9 "row") tNil))))))) (gName 1))
  (tRet (tOp rCat (tVar 1) (tLst (tCons (tFld K 12 "at") tNil)))))
theorem ErrI.no1 {C : Addr} {fs : List Str} {g : Str} (E : ErrI P w K mg base C fs) (h : g ∈ fs) : PySem.W.findIn K (.ref C) g = some none := E.no g h
theorem fields_read (T : ErrT K mg c cR) (E : ErrIs P w K mg base c) (e : Addr) (one two : V) (D : Ends) (H : Hp) (h : ErrsAt c one two e H)
    (k : ∀ p H', Same H H' → H p = none → H' p = some (.lst [one, one, one, two, one, one, one, one, two, one, two, one]) → D.rt (.ref p) H') : tFields K D [some (.ref e), none] H := by
  unfold tFields
  have m0 : ∀ (a : Str) (l : List Str), a ∈ a :: l := fun a l => List.mem_cons_self
  have m1 : ∀ (a b : Str), b ∈ [a, b] := fun a b => List.mem_cons_of_mem _ List.mem_cons_self
  refine vlst h (vls_cons (fld (n := 0) rfl rfl rfl (T.xf 0 (by decide)) (E.e0.no1 (m0 _ _))) (vls_cons (fld (n := 1) rfl rfl rfl (T.xf 1 (by decide)) (E.e1.no1 (m0 _ _)))
    (vls_cons (fld (n := 2) rfl rfl rfl (T.xf 2 (by decide)) (E.e2.no1 (m0 _ _))) (vls_cons (fld (n := 2) rfl rfl rfl (T.xf 2 (by decide)) (E.e2.no1 (m1 _ _)))
    (vls_cons (fld (n := 3) rfl rfl rfl (T.xf 3 (by decide)) (E.e3.no1 (m0 _ _))) (vls_cons (fld (n := 5) rfl rfl rfl (T.xf 5 (by decide)) (E.e5.no1 (m0 _ _))) vls_nil)))))) (Nat.le_of_ble_eq_true rfl) fun p1 H1 s1 n1 e1 => ?_
  refine vcat e1 (h.same s1) (vls_cons (fld (n := 7) rfl rfl rfl (T.xf 7 (by decide)) (E.e7.no1 (m0 _ _))) (vls_cons (fld (n := 8) rfl rfl rfl (T.xf 8 (by decide)) (E.e8.no1 (m0 _ _)))
    (vls_cons (fld (n := 8) rfl rfl rfl (T.xf 8 (by decide)) (E.e8.no1 (m1 _ _))) (vls_cons (fld (n := 9) rfl rfl rfl (T.xf 9 (by decide)) (E.e9.no1 (m0 _ _)))
    (vls_cons (fld (n := 9) rfl rfl rfl (T.xf 9 (by decide)) (E.e9.no1 (m1 _ _))) vls_nil))))) (Nat.le_of_ble_eq_true rfl) fun p2 H2 s2 n2 e2 => ?_
  refine p_ret (vcatr e2 (h.same (s1.trans s2)) (vls_cons (fld (n := 12) rfl rfl rfl (T.xf 12 (by decide)) (E.e12.no1 (m0 _ _))) vls_nil) (Nat.le_of_ble_eq_true rfl) fun p3 H3 s3 n3 e3 => ?_)
  exact k p3 H3 ((s1.trans s2).trans s3) ((s1.trans s2).free n3) e3
theorem ok_fields (F : Fun K "_law_fields" "_law_fields" sFields f fd) (T : ErrT K mg c cR) (E : ErrIs P w K mg base c) : FnOk P w K mg base CX0 1 f fd ["_law_errors_here"] (spFields c) := by
  have nd := scFields.nd
  refine F.ok scFields (fun vs H Q X h => ?_) (fun cdv A outer s H vs Q X hr h => ?_)
  · obtain ⟨e, one, two, rfl, _⟩ := h
    rfl
  · obtain ⟨e, one, two, rfl, he, k⟩ := h
    refine ⟨tFields K, ?_, fields_read T E e one two _ H he k⟩
    exact pss_cons (ps_set (i := 1) nd rfl (.inl rfl) (pe_lst (pa_cons (pe_xfv (pe_ix ix_list (pv 0) pe_int (fun _ _ => rfl))) (pa_cons (pe_xfv (pe_ix ix_list (pv 0) pe_int (fun _ _ => rfl))) (pa_cons (pe_xfv (pe_ix ix_list (pv 0) pe_int (fun _ _ => rfl))) (pa_cons (pe_xfv (pe_ix ix_list (pv 0) pe_int (fun _ _ => rfl))) (pa_cons (pe_xfv (pe_ix ix_list (pv 0) pe_int (fun _ _ => rfl))) (pa_cons (pe_xfv (pe_ix ix_list (pv 0) pe_int (fun _ _ => rfl))) pa_nil))))))))
      (pss_cons (ps_set (i := 1) nd rfl (.inl rfl) (pe_op op_cat (pv 1) (pe_lst (pa_cons (pe_xfv (pe_ix ix_list (pv 0) pe_int (fun _ _ => rfl))) (pa_cons (pe_xfv (pe_ix ix_list (pv 0) pe_int (fun _ _ => rfl))) (pa_cons (pe_xfv (pe_ix ix_list (pv 0) pe_int (fun _ _ => rfl))) (pa_cons (pe_xfv (pe_ix ix_list (pv 0) pe_int (fun _ _ => rfl))) (pa_cons (pe_xfv (pe_ix ix_list (pv 0) pe_int (fun _ _ => rfl))) pa_nil))))))))
      (pss_one (ps_ret (pe_op op_cat (pv 1) (pe_lst (pa_cons (pe_xfv (pe_ix ix_list (pv 0) pe_int (fun _ _ => rfl))) pa_nil))))))
end
end My
set_option Elab.async false
set_option linter.all false
set_option maxRecDepth 100000
set_option maxHeartbeats 4000000
namespace My
open PySem PySem.Spec PyProof.Rows L2 NdefX
open L2H (RoomH PinOk cxH inv_startH)
section
variable {P : Program} {w : World} {K : PySem.W.Frag} {mg : Str → Option Value} {base : Heap} {f fF : Addr} {fd fdF : FuncData} {c : Nat → Addr} {cR : Addr}
abbrev sTaken : Stmt := topS 25
theorem scTaken : FnScope ["_law_way", "_law_one", "_law_two", "e"] ["_law_way", "_law_one", "_law_two"] (defScope sTaken) := ⟨rfl, rfl, rfl, by decide +kernel, rfl, by decide +kernel, by decide +kernel⟩
/-- which class is raised -/
def placeOf (way : Nat) : Nat := [0, 5, 13, 4, 9].getD way 0
def spTaken (c : Nat → Addr) : Sp := fun vs H Q _ => ∃ (way : Nat) (one two : V), vs = [.int way, one, two] ∧ way < 5 ∧ ∀ p H', Same H H' → H p = none → H' p = some (.lst ((flags (placeOf way)).map V.bl)) → Q (.ref p) H'
theorem pe_imp {X : Cx} {e : Expr} {t t' : TE} (h : PE X e t) (i : ∀ σ H Q, t' σ H Q → t σ H Q) : PE X e t' := ⟨fun pins s σ H Q I q => h.run pins s σ H Q I (i _ _ _ q)⟩
/-- return _law_flags(e) in the suite -/
def tSuite (c : Nat → Addr) (a : Addr) (cls : Value) (d : Option Addr) : TS := tRet (fun σ H Q => tCons (tVar 3) tNil σ H fun vs H1 => ∃ i, vs = [.ref a] ∧ i < 15 ∧ cls = .ref (c i) ∧ (d = none ∨ ∃ dd fs, d = some dd ∧ H1 dd = some (.xd fs)) ∧
  ∀ p H', Same H1 H' → H1 p = none → H' p = some (.lst ((flags i).map V.bl)) → Q (.ref p) H')
theorem pmk_err {X : Cx} {C : Addr} {fs : List Str} {x : Str} {e : Expr} {es : List Expr} {ta : TA} {p pos : Pos} (E : ErrI X.prog X.w X.K X.mg X.base C fs) (hr : Room 2 X.A) (hg : Gl X x) (hm : X.mg x = some (.ref C)) (ha : PA X (e :: es) ta)
    (hdb : (x == ("__debug__" : Str)) = false := by decide) (he : starEach (e :: es) X.env = (false, eval e X.env) :: starEach es X.env := by rfl) (hpl : (backTo pos (starEach es X.env)).any (·.1) = false := by rfl) :
    PMk X (.Call (.Name x p) (e :: es) [] pos) (tMkO C (spX C fs) [] ta) := by
  obtain ⟨fI, fd, ps, h1, h2, h3, h4⟩ := E.init
  exact pmk_oex E.T.oex h1 h2 h3 hr h4 .nil pass0 hg hm ha hdb he hpl
/-- what is raised -/
theorem mko1 {σ : L2.St} {H : Hp} {Q : XK} {C : Addr} {g : Str} {y : V} {i : Nat} (e : σ[i]? = some (some y)) (q : ∀ (dx : Addr) (fs : List (Str × V)) (H' : Hp), Same H H' → H' dx = some (.xd fs) → Q (.ref C) (some dx) H') : tMkO C (spX C [g]) [] (tCons (tVar i) tNil) σ H Q := by
  refine ⟨y, e, Nat.le_of_ble_eq_true rfl, fun a ha => ⟨a, [y], rfl, rfl, upd_same, fun dx H' hd hne h1 h2 h3 => ?_⟩⟩
  have hd' : H dx = none := by rw [upd_ne hne] at hd; exact hd
  refine ⟨rfl, dx, _, h1, h2, hd', q dx _ _ (fun b o z => ?_) upd_same⟩
  have n1 : b ≠ a := ne_of_none z ha
  have n2 : b ≠ dx := ne_of_none z hd'
  rw [upd_ne n2, del_ne n1, h3 b n1 n2, upd_ne n1]
  exact z
theorem mko2 {σ : L2.St} {H : Hp} {Q : XK} {C : Addr} {g g' : Str} {y y' : V} {i j : Nat} (e : σ[i]? = some (some y)) (e' : σ[j]? = some (some y')) (q : ∀ (dx : Addr) (fs : List (Str × V)) (H' : Hp), Same H H' → H' dx = some (.xd fs) → Q (.ref C) (some dx) H') :
    tMkO C (spX C [g, g']) [] (tCons (tVar i) (tCons (tVar j) tNil)) σ H Q := by
  refine ⟨y, e, y', e', Nat.le_of_ble_eq_true rfl, fun a ha => ⟨a, [y, y'], rfl, rfl, upd_same, fun dx H' hd hne h1 h2 h3 => ?_⟩⟩
  have hd' : H dx = none := by rw [upd_ne hne] at hd; exact hd
  refine ⟨rfl, dx, _, h1, h2, hd', q dx _ _ (fun b o z => ?_) upd_same⟩
  have n1 : b ≠ a := ne_of_none z ha
  have n2 : b ≠ dx := ne_of_none z hd'
  rw [upd_ne n2, del_ne n1, h3 b n1 n2, upd_ne n1]
  exact z
theorem was_ok {H H' : Hp} {way i : Nat} {one two : V} {d : Option Addr} {D : Ends} (T : ErrT K mg c cR) (hi : i < 15) (s : Same H H') (hd : d = none ∨ ∃ dd fs, d = some dd ∧ H' dd = some (.xd fs))
    (k : ∀ p H', Same H H' → H p = none → H' p = some (.lst ((flags i).map V.bl)) → D.rt (.ref p) H') {v0 : V} : wAs K (.ref cR) 3 (tSuite c) (fun _ _ _ _ => False) D (.ref (c i)) d [some v0, some one, some two, none] H' := by
  refine ⟨true, T.exm i hi, fun _ a ha => ?_, fun z => nomatch z⟩
  exact ⟨_, rfl, i, rfl, hi, rfl, hd, fun p H2 s2 n e => k p H2 (s.trans s2) (s.free n) e⟩
theorem ok_taken (F : Fun K "_law_taken" "_law_taken" sTaken f fd) (Fr : Free mg) (T : ErrT K mg c cR) (E : ErrIs P w K mg base c) (FF : Fun K "_law_flags" "_law_flags" sFlags fF fdF) (bF : Binds K fdF ["_law_error"] []) (gF : mg "_law_flags" = some (.ref fF)) :
    FnOk P w K mg base CX0 3 f fd ["_law_way", "_law_one", "_law_two"] (spTaken c) := by
  have GF : FnP P w K mg base 1 fF fdF ["_law_error"] (spFlagsP c) := okP_flags FF Fr T
  have nd := scTaken.nd
  refine F.ok scTaken (fun vs H Q X h => ?_) (fun cdv A outer s H vs Q X hr h => ?_)
  · obtain ⟨way, one, two, rfl, _⟩ := h
    rfl
  · obtain ⟨way, one, two, rfl, hw, k⟩ := h
    refine ⟨_, pss_one (ps_try_as (i := 3) (c := .ref cR) (Wout := fun _ _ _ _ => False) (ts := tSuite c) rfl rfl nd rfl rfl ⟨rfl, by decide, .inl T.gR⟩ (fun u s' ⟨_, _, _, _, _, _, _, _, _, _, _, _, _, _, _, _, z⟩ => z.elim)
      (fun W pn xe tk po => pss_cons (ps_if (pt_cmpR op_eq (pv 0) pe_int (nomark _)) (pss_one (ps_raise rfl tk (pmk_err E.e0 hr (by rfl) T.g0 (pa_cons (pv 1) pa_nil)))) pss_nil)
        (pss_cons (ps_if (pt_cmpR op_eq (pv 0) pe_int (nomark _)) (pss_one (ps_raise rfl tk (pmk_err E.e5 hr (by rfl) T.g5 (pa_cons (pv 1) pa_nil)))) pss_nil)
        (pss_cons (ps_if (pt_cmpR op_eq (pv 0) pe_int (nomark _)) (pss_one (ps_raise rfl tk (pmk_ex0 T.x13 (T.kp 13 (by decide)) (raises_own (T.exc 13 (by decide)).hs (T.ty 13 (by decide))) (by rfl) T.g13))) pss_nil)
        (pss_cons (ps_if (pt_cmpR op_eq (pv 0) pe_int (nomark _)) (pss_one (ps_raise rfl tk (pmk_ex0 T.x4 (T.kp 4 (by decide)) (raises_own (T.exc 4 (by decide)).hs (T.ty 4 (by decide))) (by rfl) T.g4))) pss_nil)
        (pss_one (ps_raise rfl tk (pmk_err E.e9 hr (by rfl) T.g9 (pa_cons (pv 1) (pa_cons (pv 2) pa_nil)))))))))
      (fun a oe cls d pn hz hf => pss_one (ps_ret ?_))), ?_⟩
    · have rm : RoomH 1 (A.deeper (envOfC "_law_taken" (defScope sTaken) s.heap.objs.size f cdv)) := (L2H.roomH_of hr).mono (by decide)
      refine pe_imp (pe_callP (p := (a, oe)) GF ⟨rm.dp, rm.un⟩ List.mem_cons_self (by rfl) gF FF.kp bF (pa_cons (pv 3) pa_nil)) fun σ H Q h => ?_
      obtain ⟨v, hv, i, h1, h2, h3, h4, h5⟩ := h
      refine ⟨v, hv, i, h1, h2, ⟨hz.1.trans h3, hf, ?_⟩, h5⟩
      rcases h4 with h4 | ⟨dd, fs, h6, h7⟩
      · exact .inl (hz.2.trans h4)
      · exact .inr ⟨dd, fs, hz.2.trans h6, h7⟩
    · have tst : ∀ n m : Nat, n ≠ m → decide (V.int (n : Int) = V.int (m : Int)) = false := fun n m h => decide_eq_false fun z => h (by injection z with z; exact Int.ofNat_inj.mp z)
      rcases way with _ | _ | _ | _ | _ | n
      · refine ⟨_, rfl, rfl, _, rfl, ?_⟩
        refine iteT (mko1 (C := c 0) rfl fun dx fs H' s h => ?_)
        exact was_ok (way := 0) (i := 0) (D := { nx := fun _ H' => Q .non H', rt := Q }) T (by decide) s (.inr ⟨dx, fs, rfl, h⟩) k
      · refine ⟨_, rfl, rfl, _, rfl, iteF ⟨_, rfl, rfl, _, rfl, ?_⟩⟩
        refine iteT (mko1 (C := c 5) rfl fun dx fs H' s h => ?_)
        exact was_ok (way := 1) (i := 5) (D := { nx := fun _ H' => Q .non H', rt := Q }) T (by decide) s (.inr ⟨dx, fs, rfl, h⟩) k
      · refine ⟨_, rfl, rfl, _, rfl, iteF ⟨_, rfl, rfl, _, rfl, iteF ⟨_, rfl, rfl, _, rfl, ?_⟩⟩⟩
        refine iteT ?_
        exact was_ok (way := 2) (i := 13) (D := { nx := fun _ H' => Q .non H', rt := Q }) T (by decide) (Same.refl H) (.inl rfl) k
      · refine ⟨_, rfl, rfl, _, rfl, iteF ⟨_, rfl, rfl, _, rfl, iteF ⟨_, rfl, rfl, _, rfl, iteF ⟨_, rfl, rfl, _, rfl, ?_⟩⟩⟩⟩
        refine iteT ?_
        exact was_ok (way := 3) (i := 4) (D := { nx := fun _ H' => Q .non H', rt := Q }) T (by decide) (Same.refl H) (.inl rfl) k
      · refine ⟨_, rfl, rfl, _, rfl, iteF ⟨_, rfl, rfl, _, rfl, iteF ⟨_, rfl, rfl, _, rfl, iteF ⟨_, rfl, rfl, _, rfl, iteF ?_⟩⟩⟩⟩
        unfold tNext
        dsimp only
        refine mko2 (C := c 9) rfl rfl fun dx fs H' s h => ?_
        exact was_ok (way := 4) (i := 9) (D := { nx := fun _ H' => Q .non H', rt := Q }) T (by decide) s (.inr ⟨dx, fs, rfl, h⟩) k
      · omega
end
end My
set_option Elab.async false
set_option linter.all false
set_option maxRecDepth 100000
set_option maxHeartbeats 4000000
namespace My
open PySem PySem.Spec PyProof.Rows L2 NdefX
theorem Made.mut {H : Hp} {a C q : Addr} {fs : List (Str × V)} {u o : HO} (h : Made H a C fs) (hq : H q = some u) (hn : ∀ φ, u ≠ .ext φ) : Made (upd H q o) a C fs := by
  have ne : ∀ {b : Addr} {φ : Heap → Prop}, H b = some (.ext φ) → b ≠ q := fun {b φ} e z => by
    rw [z, hq] at e
    exact hn φ (Option.some.inj e)
  rcases h with ⟨e, h⟩ | ⟨dd, h1, h2⟩
  · exact .inl ⟨e, by rw [upd_ne (ne h)]; exact h⟩
  · exact .inr ⟨dd, by rw [upd_ne (ne h1)]; exact h1, by rw [upd_ne (ne h2)]; exact h2⟩
theorem MadeAll.mut {H : Hp} {q : Addr} {u o : HO} (hq : H q = some u) (hn : ∀ φ, u ≠ .ext φ) : ∀ {as cs : List Addr} {fss : List (List (Str × V))}, MadeAll H as cs fss → MadeAll (upd H q o) as cs fss
  | _, _, _, .nil => .nil
  | _, _, _, .cons h t => .cons (h.mut hq hn) (MadeAll.mut hq hn t)
theorem ErrsAt.mut {c : Nat → Addr} {one two : V} {e q : Addr} {H : Hp} {u o : HO} (h : ErrsAt c one two e H) (hq : H q = some u) (hn : ∀ φ, u ≠ .ext φ) (ne : e ≠ q) : ErrsAt c one two e (upd H q o) :=
  let ⟨as, h1, h2⟩ := h
  ⟨as, by rw [upd_ne ne]; exact h1, h2.mut hq hn⟩
/-! lists of fine data -/
theorem fineAll {n m : Nat} {ds : List PyData} (h : ∀ d ∈ ds, Fine n m d) : Fine (ds.length * (n + 1)) (m + 1) (.list ds) := by
  have h1 : PyData.showableAll ds = true := by
    induction ds with
    | nil => rfl
    | cons x r ih => simp only [PyData.showableAll, (h x List.mem_cons_self).able, ih fun d hd => h d (List.mem_cons_of_mem _ hd), Bool.and_self]
  have h2 : PyData.leavesShortAll 50 ds = true := by
    clear h1
    induction ds with
    | nil => rfl
    | cons x r ih => simp only [PyData.leavesShortAll, (h x List.mem_cons_self).short, ih fun d hd => h d (List.mem_cons_of_mem _ hd), Bool.and_self]
  have h3 : PyData.weightAll ds ≤ ds.length * (n + 1) := by
    clear h1 h2
    induction ds with
    | nil => exact Nat.zero_le _
    | cons x r ih =>
      have a := (h x List.mem_cons_self).wt
      have b := ih fun d hd => h d (List.mem_cons_of_mem _ hd)
      rw [PyData.weightAll, List.length_cons, Nat.succ_mul]
      omega
  have h4 : PyData.depthAll ds ≤ m := by
    clear h1 h2 h3
    induction ds with
    | nil => exact Nat.zero_le _
    | cons x r ih =>
      have a := (h x List.mem_cons_self).dp
      have b := ih fun d hd => h d (List.mem_cons_of_mem _ hd)
      rw [PyData.depthAll]
      omega
  exact ⟨by simpa [PyData.showable] using h1, by simpa [PyData.leavesShort] using h2, by show PyData.weightAll ds ≤ _; omega, by show PyData.depthAll ds + 1 ≤ _; omega⟩
theorem fine_more {n m : Nat} {ds : List PyData} (h : Fine n m (.list ds)) : Fine (n + 5) (m + 1) (.list (ds ++ [.str "more"])) := by
  have ap : ∀ ds : List PyData, PyData.showableAll (ds ++ [.str "more"]) = PyData.showableAll ds ∧ PyData.leavesShortAll 50 (ds ++ [.str "more"]) = PyData.leavesShortAll 50 ds ∧ PyData.weightAll (ds ++ [.str "more"]) = PyData.weightAll ds + 5 ∧ PyData.depthAll (ds ++ [.str "more"]) = PyData.depthAll ds := by
    intro ds
    induction ds with
    | nil => exact ⟨by decide +kernel, by decide +kernel, by decide +kernel, by decide +kernel⟩
    | cons x r ih =>
      obtain ⟨a, b, c, d⟩ := ih
      refine ⟨?_, ?_, ?_, ?_⟩
      · rw [List.cons_append, PyData.showableAll, PyData.showableAll, a]
      · rw [List.cons_append, PyData.leavesShortAll, PyData.leavesShortAll, b]
      · rw [List.cons_append, PyData.weightAll, PyData.weightAll, c]
        omega
      · rw [List.cons_append, PyData.depthAll, PyData.depthAll, d]
  obtain ⟨a, b, c, d⟩ := ap ds
  have h1 := h.able
  have h2 := h.short
  have h3 : PyData.weightAll ds ≤ n := h.wt
  have h4 : PyData.depthAll ds + 1 ≤ m := h.dp
  exact ⟨by simpa [PyData.showable, a] using h1, by simpa [PyData.leavesShort, b] using h2, by show PyData.weightAll _ ≤ _; omega, by show PyData.depthAll _ + 1 ≤ _; omega⟩
theorem fine_d0 : Fine 10 5 (.dict [(.str "b", .list [.int 2])]) := ⟨by decide +kernel, by decide +kernel, by decide +kernel, by decide +kernel⟩
theorem fine_d1 {n m : Nat} {dv : PyData} (h : Fine n m (.dict [(.str "a", dv)])) : Fine (n + 10) (m + 5) (.dict [(.str "a", dv), (.str "b", .list [.int 2])]) := by
  obtain ⟨h1, h2, h3, h4⟩ := h
  have e1 : dv.showable = true := by simpa [PyData.showable, PyData.showableKv] using h1
  have e2 : dv.leavesShort 50 = true := by
    have z : (PyData.leavesShort 50 (.str "a") && dv.leavesShort 50 && true) = true := h2
    simp only [Bool.and_eq_true] at z
    exact z.1.2
  have e3 : 1 + dv.weight + 2 + 0 ≤ n := h3
  have e4 : max (max 0 dv.depth) 0 + 1 ≤ m := h4
  refine ⟨?_, ?_, ?_, ?_⟩
  · show (true && dv.showable && (true && PyData.showable (.list [.int 2]) && true)) = true
    rw [e1]
    decide +kernel
  · show (PyData.leavesShort 50 (.str "a") && dv.leavesShort 50 && (PyData.leavesShort 50 (.str "b") && PyData.leavesShort 50 (.list [.int 2]) && true)) = true
    rw [e2]
    decide +kernel
  · show 1 + dv.weight + 2 + (1 + 3 + 2 + 0) ≤ n + 10
    omega
  · show max (max 0 dv.depth) (max (max 0 1) 0) + 1 ≤ m + 5
    omega
/-- fifteen truths -/
theorem flags_dp {K : PySem.W.Frag} {H : Hp} {p : Addr} {bs : List Bool} (h : H p = some (.lst (bs.map V.bl))) : Dp K H (.ref p) (.list (bs.map PyData.bool)) := by
  refine .lst (SqL.of h) ?_
  clear h
  induction bs with
  | nil => exact .nil
  | cons b r ih => exact .cons (.bl b) ih
theorem flags_ok : ∀ i, i < 15 → SeqAt.shaped (.list ((flags i).map PyData.bool)) = true ∧ Shows (.list ((flags i).map PyData.bool)) := by
  have h : (List.range 15).all (fun i => SeqAt.shaped (.list ((flags i).map PyData.bool)) && (PyData.showable (.list ((flags i).map PyData.bool)) && (decide ((PyData.list ((flags i).map PyData.bool)).shown.length ≤ 1000) && decide ((PyData.list ((flags i).map PyData.bool)).depth ≤ 100)))) = true := by decide +kernel
  intro i hi
  have q := List.all_eq_true.mp h i (List.mem_range.mpr hi)
  simp only [Bool.and_eq_true, decide_eq_true_eq] at q
  exact ⟨q.1, q.2.1, line200 (by have := q.2.2.1; omega), q.2.2.2⟩
end My
set_option Elab.async false
set_option linter.all false
set_option maxRecDepth 100000
set_option maxHeartbeats 4000000
namespace My
open PySem PySem.Spec PyProof.Rows L2 NdefX
def spLaw (K : PySem.W.Frag) : Sp := fun vs H Q _ => ∃ (a : Addr) (ns : List Int), vs = [.ref a] ∧ SqL K H a (ns.map V.int) ∧ ns.length ≤ 63 ∧ ∀ H', Q (.bl true) H'
/-- a def with its place and its binding -/
structure Def1 (K : PySem.W.Frag) (mg : Str → Option Value) (x : Str) (st : Stmt) (ps : List Str) (f : Addr) (fd : FuncData) : Prop where
  F : Fun K x x st f fd
  b : Binds K fd ps []
  g : mg x = some (.ref f)
/-- how it stands behind the errors' making -/
structure Sx (K : PySem.W.Frag) (c : Nat → Addr) (B : BI) (H6 : Hp) (u : V) (qq e : Addr) (v2 : V) (d2 : PyData) (H : Hp) : Prop where
  bag : BagOk H B
  errs : ErrsAt c u (.ref qq) e H
  two : H qq = some (.lst [v2, .str "more"])
  dat : Dx K (vis H6 H) v2 d2
theorem Sx.mut {K : PySem.W.Frag} {c : Nat → Addr} {B : BI} {H2 H6 H : Hp} {u : V} {qq e a : Addr} {v2 : V} {d2 : PyData} {o0 o : HO} (S : Sx K c B H6 u qq e v2 d2 H) (h0 : H a = some o0) (hn : ∀ φ, o0 ≠ .ext φ) (h6 : H6 a ≠ none) (hq : H6 qq = none) (he : H6 e = none)
    (hB : BagOk H2 B) (h2 : H2 a = none) : Sx K c B H6 u qq e v2 d2 (upd H a o) := by
  have nn : ∀ b, H6 b = none → b ≠ a := fun b hb z => h6 (by rw [← z]; exact hb)
  refine ⟨S.bag.mut (hB.ne h2).symm.symm (hB.neL h2), S.errs.mut h0 hn (nn e he), ?_, S.dat.same fun b w z => vis_get (vis_of z).1 ?_⟩
  · rw [upd_ne (nn qq hq)]
    exact S.two
  · rw [upd_ne (nn b (vis_of z).1)]
    exact (vis_of z).2
theorem Sx.same {K : PySem.W.Frag} {c : Nat → Addr} {B : BI} {H6 H H' : Hp} {u : V} {qq e : Addr} {v2 : V} {d2 : PyData} (s : Same H H') (S : Sx K c B H6 u qq e v2 d2 H) : Sx K c B H6 u qq e v2 d2 H' :=
  ⟨S.bag.same s, S.errs.same s, s _ _ S.two, S.dat.same fun b w z => vis_get (vis_of z).1 (s _ _ (vis_of z).2)⟩
structure Tx (K : PySem.W.Frag) (H2 : Hp) (u : V) (H : Hp) (du : PyData) : Prop where
  fine : Fine 1100 40 du
  dic : dictOk du = true
  dat : Dxt K (vis H2 H) u du
theorem idx_ok : ∀ i, i < 5 → ((flags (placeOf i)).map V.bl).all flatV = true ∧ ((flags (placeOf i)).map V.bl)[placeOf i]? = some (.bl true) ∧
    ∀ (m : Nat) (z : V), m < placeOf i → ((flags (placeOf i)).map V.bl)[m]? = some z → eqV z (.bl true) = false := by
  intro i hi
  have key : ∀ n, n < 15 → ∀ (m : Nat) (z : V), m < n → ((flags n).map V.bl)[m]? = some z → z = .bl false := by
    intro n hn m z hm e
    unfold flags at e
    rw [List.map_map, List.getElem?_map, List.getElem?_range (by omega)] at e
    have e' := Option.some.inj e
    rw [← e']
    show V.bl (decide (n = m)) = _
    rw [decide_eq_false (by omega)]
  have pl : placeOf i < 15 := by
    rcases i with _ | _ | _ | _ | _ | i <;> first | decide | omega
  refine ⟨?_, ?_, fun m z hm e => ?_⟩
  · rcases i with _ | _ | _ | _ | _ | i <;> first | rfl | omega
  · rcases i with _ | _ | _ | _ | _ | i <;> first | rfl | omega
  · rw [key _ pl m z hm e]
    rfl
def placesD : PyData := .list [.int 0, .int 5, .int 13, .int 4, .int 9]
theorem places_dp {K : PySem.W.Frag} {H : Hp} {p : Addr} (h : H p = some (.lst [.int 0, .int 5, .int 13, .int 4, .int 9])) : Dp K H (.ref p) placesD :=
  .lst (SqL.of h) (.cons (.int _) (.cons (.int _) (.cons (.int _) (.cons (.int _) (.cons (.int _) .nil)))))
section
variable {P : Program} {w : World} {K : PySem.W.Frag} {mg : Str → Option Value} {base : Heap} {c : Nat → Addr} {cR : Addr}
abbrev sLaw : Stmt := topS 26
abbrev NL : List Str := ["_law_script", "_law_bag_here", "_law_turn", "_law_one", "_law_two", "_law_errors_here", "_law_due", "_law_k", "_law_places", "_law_way", "_law_j"]
theorem scLaw : FnScope NL ["_law_script"] (defScope sLaw) := ⟨rfl, rfl, rfl, by decide +kernel, rfl, by decide +kernel, by decide +kernel⟩
theorem ok_law {f fB fT fA fO fE fF fD fK : Addr} {fd dB dT dA dO dE dF dD dK : FuncData} (F : Fun K "law" "law" sLaw f fd) (T : Free mg) (hsy : ∃ mm, base.Ns sysModules mm) (TE : ErrT K mg c cR) (EI : ErrIs P w K mg base c)
    (EB : Def1 K mg "_law_bag" sBag ["_law_script"] fB dB) (ET : Def1 K mg "_law_take" sTake ["_law_bag_here", "_law_many"] fT dT) (EA : Def1 K mg "_law_alike" sAlike ["_law_found", "_law_due"] fA dA)
    (EO : Def1 K mg "_law_odd" sOdd ["_law_bag_here"] fO dO) (EE : Def1 K mg "_law_errors" sErrors ["_law_one", "_law_two"] fE dE) (EF : Def1 K mg "_law_flags" sFlags ["_law_error"] fF dF)
    (ED : Def1 K mg "_law_fields" sFields ["_law_errors_here"] fD dD) (EK : Def1 K mg "_law_taken" sTaken ["_law_way", "_law_one", "_law_two"] fK dK) :
    FnG P w K mg base CX0 4 f fd ["_law_script"] (spLaw K) := by
  have GB : FnOk P w K mg base CX0 3 fB dB ["_law_script"] (spBag K) := (ok_bag EB.F T).mono (by decide)
  have GT : FnOk P w K mg base CX0 3 fT dT ["_law_bag_here", "_law_many"] spTake := (ok_take' ET.F T.len T.int).mono (by decide)
  have GA : FnG P w K mg base CX0 3 fA dA ["_law_found", "_law_due"] (spAlike K) := (ok_alike EA.F T hsy).mono (by decide)
  have GO : FnOk P w K mg base CX0 3 fO dO ["_law_bag_here"] (spOdd K) := (ok_odd EO.F T ET.F ET.b ET.g).mono (by decide)
  have GE : FnOk P w K mg base CX0 3 fE dE ["_law_one", "_law_two"] (spErrors c) := ok_errors EE.F TE EI
  have GF : FnOk P w K mg base CX0 3 fF dF ["_law_error"] (spFlags c) := (ok_flags EF.F T TE).mono (by decide)
  have GD : FnOk P w K mg base CX0 3 fD dD ["_law_errors_here"] (spFields c) := (ok_fields ED.F TE EI).mono (by decide)
  have GK : FnOk P w K mg base CX0 3 fK dK ["_law_way", "_law_one", "_law_two"] (spTaken c) := ok_taken EK.F T TE EI EF.F EF.b EF.g
  have nd := scLaw.nd
  refine okG F scLaw (fun vs H Q E h => ?_) (fun cdv A outer s H vs Q E hr hg h => ?_)
  · obtain ⟨a, ns, rfl, _⟩ := h
    rfl
  · obtain ⟨a, ns, rfl, hS, hlen, k⟩ := h
    have hu : (A.deeper (envOfC "law" (defScope sLaw) s.heap.objs.size f cdv)).units + 200 < cLine := by have := hr.un; omega
    refine ⟨_, pss_cons (ps_set (i := 1) nd rfl (.inl rfl) (pe_call GB hr (by rfl) EB.g EB.F.kp EB.b .nil pass0 (pa_cons (pv 0) pa_nil)))
      (pss_cons (ps_for PassesOwn.never rfl (pi_range1 rfl T.range (pa_cons pe_int pa_nil)) (pg_name (i := 2) nd rfl (Or.inl rfl))
        (pss_cons (ps_asg (pe_tup (pa_cons (pe_ix ix_list (pe_lst (pa_cons (pe_call GO hr (by rfl) EO.g EO.F.kp EO.b .nil pass0 (pa_cons (pv 1) pa_nil)) (pa_cons (pe_lst (pa_cons (pe_call GT hr (by rfl) ET.g ET.F.kp ET.b .nil pass0 (pa_cons (pv 1) (pa_cons pe_int pa_nil))) pa_nil)) (pa_cons (pe_disp (pps_cons pe_str (pe_lst (pa_cons pe_int pa_nil)) pps_nil) (by rfl) (by rfl) (fun z => by cases z) (by decide)) pa_nil)))) (pe_call GT hr (by rfl) ET.g ET.F.kp ET.b .nil pass0 (pa_cons (pv 1) (pa_cons pe_int pa_nil))) (fun _ _ => rfl)) (pa_cons (pe_lst (pa_cons (pe_call GO hr (by rfl) EO.g EO.F.kp EO.b .nil pass0 (pa_cons (pv 1) pa_nil)) pa_nil)) pa_nil))) (pg_tup (k := 0) rfl (pgs_cons (pg_name (i := 3) nd rfl (Or.inr rfl)) (pgs_cons (pg_name (i := 4) nd rfl (Or.inr rfl)) pgs_nil))))
        (pss_cons (ps_set (i := 5) nd rfl (.inl rfl) (pe_call GE hr (by rfl) EE.g EE.F.kp EE.b .nil pass0 (pa_cons (pv 3) (pa_cons (pv 4) pa_nil))))
        (pss_cons (ps_expr (pe_bm PySem.F.plainAttrs_list PySem.F.slot_list_append PySem.F.type_list_append mt_append (pv 4) (pa_cons pe_str pa_nil)))
        (C8.pss_cut (ps_if (pt_val (pe_callB call_isi (by rfl) T.isi boot_isi (pa_cons (pv 3) (pa_cons (pe_bltn (v := .ty "list") (by rfl) T.list boot_list rfl) pa_nil)))) (pss_one (ps_expr (pe_bm PySem.F.plainAttrs_list PySem.F.slot_list_append PySem.F.type_list_append mt_append (pv 3) (pa_cons pe_str pa_nil)))) pss_nil)
        (C8.pss_cut (ps_if (pt_val (pe_callB call_isi (by rfl) T.isi boot_isi (pa_cons (pv 3) (pa_cons (pe_bltn (v := .ty "dict") (by rfl) T.dict boot_dict rfl) pa_nil)))) (pss_one (ps_asg (pe_lst (pa_cons pe_int pa_nil)) (pg_sub (pv 3) pe_str (set_dict (hu_of hr))))) pss_nil)
        (pss_cons (ps_set (i := 6) nd rfl (.inl rfl) (pe_lst (pa_cons (pv 3) (pa_cons (pv 3) (pa_cons (pv 3) (pa_cons (pv 4) (pa_cons (pv 3) (pa_cons (pv 3) (pa_cons (pv 3) (pa_cons (pv 3) (pa_cons (pv 4) (pa_cons (pv 3) (pa_cons (pv 4) (pa_cons (pv 3) pa_nil))))))))))))))
        (pss_cons (ps_if (pt_cmpR op_ne (pe_callB (call_reprX hg hu hsy) (by rfl) T.repr boot_repr (pa_cons (pe_call GD hr (by rfl) ED.g ED.F.kp ED.b .nil pass0 (pa_cons (pv 5) pa_nil)) pa_nil)) (pe_callB (call_reprX hg hu hsy) (by rfl) T.repr boot_repr (pa_cons (pv 6) pa_nil)) (nomark _)) (pss_one (ps_ret pe_bl)) pss_nil)
        (pss_cons (ps_for PassesOwn.never rfl (pi_range1 rfl T.range (pa_cons pe_int pa_nil)) (pg_name (i := 7) nd rfl (Or.inr rfl)) (pss_cons (ps_if (PW.pt (pw_or (pt_not (pt_val (pe_callB call_isX (by rfl) T.isi boot_isi (pa_cons (pe_ix ix_list (pv 5) (pv 7) (fun _ _ => rfl)) (pa_cons (pe_bltn (v := .ty "ValueError") (by rfl) T.ve boot_ve rfl) pa_nil))))) (pw_or1 (pt_not (pt_val (pe_callB call_isX (by rfl) T.isi boot_isi (pa_cons (pe_ix ix_list (pv 5) (pv 7) (fun _ _ => rfl)) (pa_cons (pe_glob (v := .ref cR) (by rfl) TE.gR rfl) pa_nil)))))))) (pss_one (ps_ret pe_bl)) pss_nil) (pss_one (ps_if (pt_not (pt_val (pe_callG GA hr hg (by rfl) EA.g EA.F.kp EA.b .nil pass0 (pa_cons (pe_call GF hr (by rfl) EF.g EF.F.kp EF.b .nil pass0 (pa_cons (pe_ix ix_list (pv 5) (pv 7) (fun _ _ => rfl)) pa_nil)) (pa_cons (pe_lc (own := [("_law_j", 10)]) (g := gName 10) (by rfl) nd (pi_range1 rfl T.range (pa_cons pe_int pa_nil)) (blkOk_by (own := [("_law_j", 10)]) (N := NL) (sc := defScope sLaw) (by decide +kernel)) (fun _ _ _ _ _ => pg_name (i := 10) nd rfl (Or.inl rfl)) (fun _ _ _ _ _ => pts_nil) (fun _ _ _ _ _ => pe_cmpR op_eq (pv 10) (pv 7) (nomark _))) pa_nil))))) (pss_one (ps_ret pe_bl)) pss_nil))))
        (pss_cons (ps_set (i := 8) nd rfl (.inl rfl) (pe_lst (pa_cons pe_int (pa_cons pe_int (pa_cons pe_int (pa_cons pe_int (pa_cons pe_int pa_nil)))))))
        (pss_one (ps_if (pt_cmpR (op_neD hr.units) (pe_lc (own := [("_law_way", 9)]) (g := gName 9) (te := tBM K "list" (rIndex K) (tCall (spTaken c) [] E0 (tCons (tVar 9) (tCons (tVar 3) (tCons (tVar 4) tNil)))) (tCons (tC (.bl true)) tNil)) (by rfl) nd (pi_range1 rfl T.range (pa_cons pe_int pa_nil)) (blkOk_by (own := [("_law_way", 9)]) (N := NL) (sc := defScope sLaw) (by decide +kernel)) (fun _ _ _ _ _ => pg_name (i := 9) nd rfl (Or.inl rfl)) (fun _ _ _ _ _ => pts_nil) (fun _ _ _ _ _ => pe_bm (r := rIndex K) (T := "list") PySem.F.plainAttrs_list PySem.F.slot_list_index PySem.F.type_list_index mt_index (pe_call GK hr (by rfl) EK.g EK.F.kp EK.b .nil pass0 (pa_cons (pv 9) (pa_cons (pv 3) (pa_cons (pv 4) pa_nil)))) (pa_cons pe_bl pa_nil))) (pv 8) (nomark _)) (pss_one (ps_ret pe_bl)) pss_nil))))))))))))
      (pss_one (ps_ret pe_bl))), ?_⟩
    -- the bag
    refine ⟨_, rfl, a, ns, rfl, hS, hlen, fun B H1 sm hb hB => ?_⟩
    refine ⟨4, rfl, by decide, by decide, for_it (n := 4) walk_range (fun i σ H2 => (∃ x2 x3 x4 x5 x6 x7 x8 x9 x10, σ = [some (.ref a), some (.ref B.b), x2, x3, x4, x5, x6, x7, x8, x9, x10]) ∧ BagOk H2 B)
      ⟨⟨_, _, _, _, _, _, _, _, _, rfl⟩, hB⟩ (fun _ _ _ _ _ => trivial) ?_ (fun σ H2 _ => k H2)⟩
    rintro i x σ H2o H2 hi ⟨⟨x2, x3, x4, x5, x6, x7, x8, x9, x10, rfl⟩, hB2⟩ ⟨rfl, rfl⟩
    -- one
    refine ⟨_, rfl, B, rfl, hB2, fun v d H4 hf hdo hd k4 hB4 => ?_⟩
    refine ⟨_, rfl, B, 9, rfl, hB4, by decide, by decide, fun n o g0 g1 hB5 => ⟨Nat.le_of_ble_eq_true rfl, fun l hl => ?_⟩⟩
    intro p hp
    refine ⟨Nat.le_of_ble_eq_true rfl, fun l2 hl2 => ?_⟩
    have nl2 : l2 ≠ p := fun z => by rw [z, upd_same] at hl2; cases hl2
    refine ⟨by rw [upd_ne nl2.symm, upd_same], [(Sum.inr "a", .ref l2)], rfl, Nat.le_of_ble_eq_true rfl, ?_⟩
    refine ⟨Nat.le_of_ble_eq_true rfl, fun q hq => ?_⟩
    have hBa := hB5.new (o := .lst [.int n]) hl
    have hBb := ((hBa.new (o := .dK []) hp).new (o := .lst [.int 1]) hl2).mut (o := .dK [(Sum.inr "a", .ref l2)]) (hBa.ne hp) (hBa.neL hp)
    have hBc := hBb.new (o := .lst [v, .ref l, .ref p]) hq
    refine ⟨_, rfl, B, 3, rfl, hBc, by decide, by decide, fun m o' g2 g3 hB6 => ?_⟩
    obtain ⟨u, e5, e6⟩ := atI_ex (l := [v, V.ref l, .ref p]) g2 g3
    have nq : q ≠ B.b := hBb.ne hq
    refine ⟨q, _, m, u, rfl, rfl, SqL.of (by rw [upd_ne nq, upd_same]), e5, ?_⟩
    have k5 : Keep B.b H2 (upd H4 B.b o) := k4.trans Keep.bag
    have ka := k5.new (o := .lst [.int n]) hl
    have kap : Keep B.b (upd (upd H4 B.b o) l (.lst [.int n])) (upd (upd (upd (upd (upd H4 B.b o) l (.lst [.int n])) p (.dK [])) l2 (.lst [.int 1])) p (.dK [(Sum.inr "a", .ref l2)])) := ((Keep.refl.new hp).new hl2).mut hp
    have kb0 := ka.new (o := .dK []) hp
    have h2l : H2 l = none := k5.fresh hB5 hl
    have h2p : H2 p = none := ka.fresh hBa hp
    have hBb0 := hBa.new (o := .dK []) hp
    have h2l2 : H2 l2 = none := kb0.fresh hBb0 hl2
    have nlb : l ≠ B.b := hB5.ne hl
    have npb : p ≠ B.b := hBa.ne hp
    have nl2b : l2 ≠ B.b := hBb0.ne hl2
    have kc : Keep B.b (upd (upd (upd (upd (upd H4 B.b o) l (.lst [.int n])) p (.dK [])) l2 (.lst [.int 1])) p (.dK [(Sum.inr "a", .ref l2)])) (upd (upd (upd (upd (upd (upd (upd H4 B.b o) l (.lst [.int n])) p (.dK [])) l2 (.lst [.int 1])) p (.dK [(Sum.inr "a", .ref l2)])) q (.lst [v, .ref l, .ref p])) B.b o') := (Keep.refl.new hq).trans Keep.bag
    have k26 : Keep B.b H2 _ := ka.trans (kap.trans kc)
    have a1 := (kap.trans kc).get (upd_same (H := upd H4 B.b o) (a := l) (o := .lst [.int n])) nlb
    have a2 := kc.get (upd_same (a := p) (o := .dK [(Sum.inr "a", .ref l2)])) npb
    have a3 := kc.get (show (upd (upd (upd (upd (upd H4 B.b o) l (.lst [.int n])) p (.dK [])) l2 (.lst [.int 1])) p (.dK [(Sum.inr "a", .ref l2)])) l2 = some (.lst [.int 1]) by rw [upd_ne nl2, upd_same]) nl2b
    have k46 : Keep B.b H4 _ := Keep.bag.trans ((Keep.refl.new hl).trans (kap.trans kc))
    obtain ⟨du, hfu, hdic, hdu⟩ : ∃ du, Fine 1000 30 du ∧ dictOk du = true ∧ Dxt K (vis H2 (upd (upd (upd (upd (upd (upd (upd H4 B.b o) l (.lst [.int n])) p (.dK [])) l2 (.lst [.int 1])) p (.dK [(Sum.inr "a", .ref l2)])) q (.lst [v, .ref l, .ref p])) B.b o')) u du := by
      simp only [List.mem_cons, List.not_mem_nil, or_false] at e6
      rcases e6 with rfl | rfl | rfl
      · exact ⟨d, hf, hdo, hd.same (vis_keep hB2 k46)⟩
      · refine ⟨.list [.int n], ?_, rfl, .lst (vis_get h2l a1) (.cons (.int n) .nil)⟩
        have z : n = 0 ∨ n = 1 ∨ n = 2 ∨ n = 3 ∨ n = 4 ∨ n = 5 ∨ n = 6 ∨ n = 7 ∨ n = 8 := by omega
        rcases z with rfl | rfl | rfl | rfl | rfl | rfl | rfl | rfl | rfl <;> exact fine_of (by decide +kernel)
      · exact ⟨.dict [(.str "a", .list [.int 1])], fine_of (by decide +kernel), by decide +kernel, .dic1 (vis_get h2p a2) (.inr ⟨l2, _, _, rfl, rfl, vis_get h2l2 a3, .cons (.int 1) .nil⟩)⟩
    have hB6' : BagOk (upd (upd (upd (upd (upd (upd (upd H4 B.b o) l (.lst [.int n])) p (.dK [])) l2 (.lst [.int 1])) p (.dK [(Sum.inr "a", .ref l2)])) q (.lst [v, .ref l, .ref p])) B.b o') B := hB6
    show (tCons (tLst (tCons (tCall (spOdd K) [] E0 (tCons (tVar 1) tNil)) tNil)) tNil) _ (upd (upd (upd (upd (upd (upd (upd H4 B.b o) l (.lst [.int n])) p (.dK [])) l2 (.lst [.int 1])) p (.dK [(Sum.inr "a", .ref l2)])) q (.lst [v, .ref l, .ref p])) B.b o') _
    clear hB6 a1 a2 a3 k46
    generalize upd (upd (upd (upd (upd (upd (upd H4 B.b o) l (.lst [.int n])) p (.dK [])) l2 (.lst [.int 1])) p (.dK [(Sum.inr "a", .ref l2)])) q (.lst [v, .ref l, .ref p])) B.b o' = H6 at hB6' hdu k26 kc ⊢
    -- two
    refine ⟨_, rfl, B, rfl, hB6', fun v2 d2 H7 hf2 hdo2 hd2 k7 hB7 => ⟨Nat.le_of_ble_eq_true rfl, fun qq hqq => ?_⟩⟩
    refine ⟨Nat.le_of_ble_eq_true rfl, fun t ht => ⟨t, _, rfl, SqT.of upd_same, rfl, _, _, rfl, _, _, rfl, rfl, ?_⟩⟩
    -- the errors
    refine ⟨_, rfl, _, rfl, u, .ref qq, rfl, fun e as H10 s10 n10 e10 m10 => ?_⟩
    have h9q : (upd (upd H7 qq (.lst [v2])) t (.tup [u, .ref qq])) qq = some (.lst [v2]) := (same_new ht) _ _ upd_same
    have h10q : H10 qq = some (.lst [v2]) := s10 _ _ h9q
    have h6q : H6 qq = none := k7.fresh hB7 hqq
    have hB9 := (hB7.new (o := .lst [v2]) hqq).new (o := .tup [u, .ref qq]) ht
    have k9 : Keep B.b H6 (upd (upd H7 qq (.lst [v2])) t (.tup [u, .ref qq])) := (k7.new hqq).new ht
    have h6e : H6 e = none := k9.fresh hB9 n10
    have neq : e ≠ qq := fun z => by
      rw [z] at n10
      exact absurd (n10.symm.trans h9q) (by simp)
    refine ⟨_, rfl, .inl ⟨rfl, _, SqL.of h10q⟩, qq, [v2], .str "more", rfl, rfl, h10q, Nat.lt_of_lt_of_le (show 1 < 200000 by decide) (by decide), ?_⟩
    have S1 : Sx K c B H6 u qq e v2 d2 (upd H10 qq (.lst ([v2] ++ [.str "more"]))) := by
      refine ⟨(hB9.same s10).mut (hB7.ne hqq) (hB7.neL hqq), ErrsAt.mut ⟨as, e10, m10⟩ h10q (fun φ z => nomatch z) neq, upd_same, hd2.dx.same fun b w z => vis_get (vis_of z).1 ?_⟩
      rw [upd_ne (ne_of_none (vis_of z).2 hqq)]
      exact s10 _ _ ((same_new ht) _ _ ((same_new hqq) _ _ (vis_of z).2))
    have hdu1 : Dxt K (vis H2 (upd H10 qq (.lst ([v2] ++ [.str "more"])))) u du := hdu.same (vis_keep hB2 ((k9.trans (Keep.of s10)).mut h6q))
    have hu6 : ∀ a', u = .ref a' → (isLstT du = true ∨ isDicT du = true) → H6 a' ≠ none := fun a' ea hh => by
      cases hdu with
      | flat _ h1 h2 => rw [h1, h2] at hh; exact absurd hh (by simp)
      | lst h _ => cases ea; rw [(vis_of h).2]; exact fun z => nomatch z
      | dic0 h => cases ea; rw [(vis_of h).2]; exact fun z => nomatch z
      | dic1 h _ => cases ea; rw [(vis_of h).2]; exact fun z => nomatch z
    generalize upd H10 qq (.lst ([v2] ++ [.str "more"])) = H11 at S1 hdu1
    -- one is changed
    refine ⟨fun σ' H' => (∃ y2, σ' = [some (.ref a), some (.ref B.b), y2, some u, some (.ref qq), some (.ref e), x6, x7, x8, x9, x10]) ∧ Sx K c B H6 u qq e v2 d2 H' ∧ ∃ du', Tx K H2 u H' du' ∧ (∀ a', u = .ref a' → isDicT du' = true → H6 a' ≠ none), ?_, ?_⟩
    · refine ⟨_, rfl, _, .ty "list", _, _, _, rfl, .ty "list", (hdu1.dx.same vis_same).ty, kit_ty (kit_list du), _, rfl, ?_⟩
      cases hdu1 with
      | flat h h1 h2 =>
        rw [h1]
        exact iteF ⟨⟨_, rfl⟩, S1, du, ⟨hfu.mono (by decide) (by decide), hdic, .flat h h1 h2⟩, fun a' ea hh => hu6 a' ea (.inr hh)⟩
      | @lst a' xs ds h t' =>
        have hx := vis_of h
        have hw : xs.length ≤ 1000 := by
          have := weight_len ds
          have w1 : PyData.weightAll ds ≤ 1000 := hfu.wt
          rw [t'.length]
          omega
        have n6 := hu6 a' rfl (.inl rfl)
        refine iteT ⟨_, rfl, .inl ⟨rfl, _, SqL.of hx.2⟩, a', xs, .str "more", rfl, rfl, hx.2, Nat.lt_of_le_of_lt hw (by decide), ⟨_, rfl⟩, S1.mut hx.2 (fun φ z => nomatch z) n6 h6q h6e hB2 hx.1, .list (ds ++ [.str "more"]), ⟨(fine_more hfu).mono (by decide) (by decide), rfl, ?_⟩, fun _ _ z => nomatch z⟩
        exact .lst (vis_get hx.1 upd_same) (Dxs.append t' (.cons (.str _) .nil))
      | @dic0 a' h =>
        exact iteF ⟨⟨_, rfl⟩, S1, .dict [], ⟨hfu.mono (by decide) (by decide), hdic, .dic0 h⟩, fun b eb _ => hu6 b eb (.inr rfl)⟩
      | @dic1 a' v' d' h t' =>
        exact iteF ⟨⟨_, rfl⟩, S1, .dict [(.str "a", d')], ⟨hfu.mono (by decide) (by decide), hdic, .dic1 h t'⟩, fun b eb _ => hu6 b eb (.inr rfl)⟩
    · rintro σ' Hx ⟨⟨y2, rfl⟩, S2, du2, T2, hu2⟩
      clear hdu1 S1 hdu hu6
      refine ⟨fun σ' H' => (∃ y2, σ' = [some (.ref a), some (.ref B.b), y2, some u, some (.ref qq), some (.ref e), x6, x7, x8, x9, x10]) ∧ Sx K c B H6 u qq e v2 d2 H' ∧ ∃ du', Fine 1200 50 du' ∧ Dx K H' u du', ?_, ?_⟩
      · obtain ⟨hf3, _, hd3⟩ := T2
        refine ⟨_, rfl, _, .ty "dict", _, _, _, rfl, .ty "dict", (hd3.dx.same vis_same).ty, kit_ty (kit_dict du2), _, rfl, ?_⟩
        have same3 : ∀ {a' : Addr} {kvs : List (Key × V)} {o : HO}, Hx a' = some (.dK kvs) → ∀ {b : Addr} {xs : List V}, Hx b = some (.lst xs) → (upd Hx a' o) b = some (.lst xs) := fun {a' kvs o} h {b xs} hb => by
          have n : b ≠ a' := fun z => by
            rw [z, h] at hb
            cases hb
          rw [upd_ne n]
          exact hb
        cases hd3 with
        | flat h h1 h2 =>
          rw [h2]
          exact iteF ⟨⟨_, rfl⟩, S2, du2, hf3.mono (by decide) (by decide), h.same vis_same⟩
        | @lst a' xs ds h t' => exact iteF ⟨⟨_, rfl⟩, S2, _, hf3.mono (by decide) (by decide), .lst (SqL.of (vis_of h).2) (t'.same flat_same)⟩
        | @dic0 a' h =>
          have n6 := hu2 a' rfl rfl
          have hx := vis_of h
          refine iteT ⟨Nat.le_of_ble_eq_true rfl, fun r hr' => ?_⟩
          have hs := same_new (o := .lst [.int 2]) hr'
          have nr : r ≠ a' := fun z => by
            rw [z, hx.2] at hr'
            cases hr'
          refine ⟨_, rfl, a', _, rfl, DPut.k (kvs := []) (k := Sum.inr "b") (hs _ _ hx.2) (by decide), ?_⟩
          exact ⟨⟨_, rfl⟩, (S2.same hs).mut (hs _ _ hx.2) (fun φ z => nomatch z) n6 h6q h6e hB2 hx.1, _, fine_d0.mono (by decide) (by decide),
            .dic (kvs := [(Sum.inr "b", .ref r)]) (.inl upd_same) rfl (.cons (.lst (SqL.of (by rw [upd_ne nr, upd_same])) (.cons (.int 2) .nil)) .nil)⟩
        | @dic1 a' v' d' h t' =>
          have n6 := hu2 a' rfl rfl
          have hx := vis_of h
          refine iteT ⟨Nat.le_of_ble_eq_true rfl, fun r hr' => ?_⟩
          have hs := same_new (o := .lst [.int 2]) hr'
          have nr : r ≠ a' := fun z => by
            rw [z, hx.2] at hr'
            cases hr'
          have hl' : Dl K (upd (upd Hx r (.lst [.int 2])) a' (.dK [(Sum.inr "a", v'), (Sum.inr "b", .ref r)])) v' d' := by
            rcases t' with t' | ⟨b, xs, ds, rfl, rfl, h1, h2⟩
            · exact .inl t'
            · refine .inr ⟨b, xs, ds, rfl, rfl, ?_, h2⟩
              have hb := (vis_of h1).2
              have nb : b ≠ a' := fun z => by
                rw [z, hx.2] at hb
                cases hb
              rw [upd_ne nb]
              exact hs _ _ hb
          refine ⟨_, rfl, a', _, rfl, DPut.k (kvs := [(Sum.inr "a", v')]) (k := Sum.inr "b") (hs _ _ hx.2) (Nat.lt_of_lt_of_le (show 1 < 200000 by decide) (by decide)), ?_⟩
          exact ⟨⟨_, rfl⟩, (S2.same hs).mut (hs _ _ hx.2) (fun φ z => nomatch z) n6 h6q h6e hB2 hx.1, _, (fine_d1 hf3).mono (by decide) (by decide),
            .dic (kvs := [(Sum.inr "a", v'), (Sum.inr "b", .ref r)]) (.inl upd_same) rfl (.cons hl'.dx (.cons (.lst (SqL.of (by rw [upd_ne nr, upd_same])) (.cons (.int 2) .nil)) .nil))⟩
      · rintro σ' Hy ⟨⟨y2, rfl⟩, S3, du3, hf3, hd3⟩
        clear T2 S2 hu2
        -- due
        refine ⟨_, rfl, _, rfl, _, rfl, _, rfl, _, rfl, _, rfl, _, rfl, _, rfl, _, rfl, _, rfl, _, rfl, _, rfl, Nat.le_of_ble_eq_true rfl, fun w1 hw1 => ?_⟩
        have sw := same_new (o := .lst [u, u, u, .ref qq, u, u, u, u, .ref qq, u, .ref qq, u]) hw1
        have hdt : Dx K Hy (.ref qq) (.list [d2, .str "more"]) := .lst (SqL.of S3.two) (.cons (S3.dat.same vis_same) (.cons (.str _) .nil))
        have hft : Fine 1200 50 (.list [d2, .str "more"]) := (fine_more (ds := [d2]) hf2.list1).mono (by decide) (by decide)
        have hall : ∀ d ∈ [du3, du3, du3, .list [d2, .str "more"], du3, du3, du3, du3, .list [d2, .str "more"], du3, .list [d2, .str "more"], du3], Fine 1200 50 d := by
          intro d hd
          simp only [List.mem_cons, List.not_mem_nil, or_false] at hd
          rcases hd with rfl | rfl | rfl | rfl | rfl | rfl | rfl | rfl | rfl | rfl | rfl | rfl <;> first | exact hf3 | exact hft
        have hsh : Shows (.list [du3, du3, du3, .list [d2, .str "more"], du3, du3, du3, du3, .list [d2, .str "more"], du3, .list [d2, .str "more"], du3]) := ((fineAll hall).mono (by decide : 12 * (1200 + 1) ≤ 200000) (by decide)).shows (Nat.le_refl _) (Nat.le_refl _)
        have list12 : ∀ {H : Hp} {p : Addr}, Same Hy H → H p = some (.lst [u, u, u, .ref qq, u, u, u, u, .ref qq, u, .ref qq, u]) → Dx K H (.ref p) (.list [du3, du3, du3, .list [d2, .str "more"], du3, du3, du3, du3, .list [d2, .str "more"], du3, .list [d2, .str "more"], du3]) := fun {H p} s h => by
          have a := hd3.same s
          have b := hdt.same s
          exact .lst (SqL.of h) (.cons a (.cons a (.cons a (.cons b (.cons a (.cons a (.cons a (.cons a (.cons b (.cons a (.cons b (.cons a .nil))))))))))))
        -- repr
        refine ⟨_, rfl, e, u, .ref qq, rfl, S3.errs.same sw, fun w2 Hz sz nz ez => ?_⟩
        have syz := sw.trans sz
        refine ⟨_, _, rfl, list12 syz ez, hsh, ?_⟩
        refine ⟨_, rfl, _, _, rfl, list12 syz (sz _ _ upd_same), hsh, rfl, _, rfl, ?_⟩
        rw [decide_eq_true rfl]
        refine iteF ?_
        -- each error
        refine ⟨15, rfl, by decide, by decide, for_it (n := 15) walk_range (fun j σ H2 => (∃ y7 y10, σ = [some (.ref a), some (.ref B.b), y2, some u, some (.ref qq), some (.ref e), some (.ref w1), y7, x8, x9, y10]) ∧ Same Hz H2)
          ⟨⟨_, _, rfl⟩, Same.refl _⟩ (fun _ _ _ _ _ => trivial) ?_ (fun σ H2 h2 => ?_)⟩
        · rintro j y σ Ho Hb hj ⟨⟨y7, y10, rfl⟩, sb⟩ ⟨rfl, rfl⟩
          have se := S3.errs.same (syz.trans sb)
          have hc : (csOf c)[j]? = some (c j) := by
            rcases j with _ | _ | _ | _ | _ | _ | _ | _ | _ | _ | _ | _ | _ | _ | _ | j <;> first | rfl | omega
          obtain ⟨fs, hfs⟩ : ∃ fs, (fssOf u (.ref qq))[j]? = some fs := by
            rcases j with _ | _ | _ | _ | _ | _ | _ | _ | _ | _ | _ | _ | _ | _ | _ | j <;> first | exact ⟨_, rfl⟩ | omega
          obtain ⟨as', a', h4, h5, h6⟩ := se.get hc hfs
          have h5' : atI (as'.map V.ref) (0 + (j : Int)) = some (V.ref a') := by rw [Int.zero_add]; exact h5
          refine ⟨_, rfl, _, rfl, e, _, _, _, rfl, rfl, SqL.of h4, h5', a', c j, _, .type "ValueError", true, rfl, h6.isX, TE.exc j hj, fun u ru => ru, TE.ve j hj, _, rfl, ?_⟩
          refine iteF ⟨_, rfl, _, rfl, e, _, _, _, rfl, rfl, SqL.of h4, h5', a', c j, _, .ref cR, true, rfl, h6.isX, TE.exc j hj, fun u ru => ru, TE.row j hj, _, rfl, ?_⟩
          refine iteF ?_
          -- the flags
          refine ⟨_, rfl, _, rfl, e, _, _, _, rfl, rfl, SqL.of h4, h5', a', j, rfl, hj, h6.isX, fun f1 Hc sc nc ec => ?_⟩
          refine ⟨15, rfl, by decide, by decide, fun D hD => ?_⟩
          refine lc_map walk_range (line200 (by decide)) hD (fun _ _ => trivial) (fun i => some (V.bl (decide (j = i)))) (fun i x H1 H2 R Rn hi sm hy h4 h5 => ?_) (fun H1 sm ee => ?_)
          · obtain ⟨rfl, rfl⟩ := hy
            refine ⟨rfl, _, rfl, _, rfl, rfl, h4 _ _ ?_ (Same.refl _)⟩
            have z : decide (j = i) = decide (V.int (0 + (i : Int)) = V.int (0 + (j : Int))) := by
              apply decide_eq_decide.mpr
              constructor
              · rintro rfl
                rfl
              · intro z
                injection z with z
                omega
            rw [z]
          · have ef : H1 D = some (.lst ((flags j).map V.bl)) := by
              rw [ee, List.filterMap_eq_map']
              unfold flags
              rw [List.map_map]
              rfl
            refine ⟨_, _, _, rfl, flags_dp (sm _ _ ec), flags_dp ef, (flags_ok j hj).1, (flags_ok j hj).2, _, rfl, ?_⟩
            exact iteF ⟨⟨_, _, rfl⟩, sb.trans (sc.trans sm)⟩
        · obtain ⟨⟨y7, y10, rfl⟩, sb⟩ := h2
          refine ⟨Nat.le_of_ble_eq_true rfl, fun w3 hw3 => ?_⟩
          have s3 := same_new (o := .lst [.int 0, .int 5, .int 13, .int 4, .int 9]) hw3
          refine ⟨5, rfl, by decide, by decide, fun D hD => ?_⟩
          refine lc_map walk_range (line200 (by decide)) hD (fun _ _ => trivial) (fun i => some (V.int (placeOf i : Nat))) (fun i x H1 H2 R Rn hi sm hy h4 h5 => ?_) (fun H1 sm ee => ?_)
          · obtain ⟨rfl, rfl⟩ := hy
            have iz : V.int (0 + (i : Int)) = V.int (i : Int) := by rw [Int.zero_add]
            obtain ⟨i1, i2, i3⟩ := idx_ok i hi
            refine ⟨rfl, _, rfl, _, rfl, _, rfl, i, u, .ref qq, by (show [V.int (0 + (i : Int)), u, V.ref qq] = _; rw [iz]), hi, fun p H' s n e => ⟨.inl ⟨rfl, _, SqL.of e⟩, p, _, .bl true, placeOf i, .bl true, rfl, rfl, SqL.of e, rfl, i1, i2, rfl, i3, h4 _ _ rfl s⟩⟩
          · have ef : H1 D = some (.lst [.int 0, .int 5, .int 13, .int 4, .int 9]) := ee
            refine ⟨_, rfl, placesD, placesD, places_dp ef, places_dp (sm _ _ upd_same), by decide +kernel, by decide +kernel, _, rfl, ?_⟩
            rw [SeqAt.eqv_refl placesD (SeqAt.canLay_of_shaped (by decide +kernel))]
            exact iteF ⟨⟨_, _, _, _, _, _, _, _, _, rfl⟩, S3.bag.same (syz.trans (sb.trans (s3.trans sm)))⟩
end
end My
set_option Elab.async false
set_option linter.all false
set_option maxRecDepth 100000
set_option maxHeartbeats 4000000
namespace My
open PySem PySem.Spec PyProof.Rows L2 NdefX
def clsBody : Stmt → List Stmt
  | .ClassDef _ _ _ b _ _ _ _ _ _ _ => b
  | _ => []
def initS (i : Nat) : Stmt := (clsBody (topS i)).getD 0 (.Pass ⟨0, 0, 0, 0⟩)
structure Told (K : PySem.W.Frag) (x : Str) (st : Stmt) (f : Addr) : Prop where
  ex : ∃ (oc : Value) (od an : Option Addr) (sl : Array (Option Value)) (kV dc pm cd ct : Value), K.lookup f = some ⟨oc, od, .func (PySem.W.fnOf x x (defArgs st) (defBody st) (defScope st) .none kV dc pm an cd ct), sl⟩ ∧ PySem.W.codeIn K cd x = true
  kp : PySem.W.keepIn K (.ref f) = true
  ns : PySem.W.nsIn K mainGlobals x = some (some (.ref f))
theorem told {K : PySem.W.Frag} {x : Str} {st : Stmt} {f : Addr} {oc : Value} {od an : Option Addr} {sl : Array (Option Value)} {kV dc pm cd ct : Value} (a : PySem.W.nsIn K mainGlobals x = some (some (.ref f)))
    (l : K.lookup f = some ⟨oc, od, .func (PySem.W.fnOf x x (defArgs st) (defBody st) (defScope st) .none kV dc pm an cd ct), sl⟩) (c : PySem.W.codeIn K cd x = true) (k : PySem.W.keepIn K (.ref f) = true) : Told K x st f :=
  ⟨⟨oc, od, an, sl, kV, dc, pm, cd, ct, l, c⟩, k, a⟩
theorem Told.def1 {K : PySem.W.Frag} {mg : Str → Option Value} {h : Heap} {x : Str} {st : Stmt} {f : Addr} {ps : List Str} (t : Told K x st f) (X : K.In h) (G : h.Ns mainGlobals mg)
    (hb : ∀ (kV doc pm : Value) (an : Option Addr) (cdv ct : Value) (us : List Value), us.length = ps.length → bindArgs (PySem.W.fnOf x x (defArgs st) (defBody st) (defScope st) .none kV doc pm an cdv ct) ⟨us, []⟩ = pure (ps.zip us)) :
    ∃ fd, Def1 K mg x st ps f fd := by
  obtain ⟨oc, od, an, sl, kV, dc, pm, cd, ct, l, c⟩ := t.ex
  have F := fun_mk (st := st) l c t.kp
  exact ⟨_, F, F.binds hb, PySem.W.mg_of X G t.ns⟩
/-- a class with its own __init__, as the head's facts tell it -/
structure ToldI (P : Program) (K : PySem.W.Frag) (qual : Str) (st : Stmt) (C : Addr) (fs : List Str) : Prop where
  T : SupC K C
  no : ∀ f ∈ fs, PySem.W.findIn K (.ref C) f = some none
  init : ∃ (fI : Addr) (fd : FuncData), PySem.W.findIn K (.ref C) "__init__" = some (some (.ref fI)) ∧ PySem.W.typeIn K (.ref fI) = some (.type "function") ∧ FunI P K qual st fI C fd
theorem toldI {P : Program} {K : PySem.W.Frag} {qual file : Str} {st : Stmt} {C N fI cda cc : Addr} {fs : List Str} {nm q : Str} {bs bm : List Value} {sn : List Str} {sub : List Value} {ab : Bool} {col : Option Bool} {dd : Option Addr} {k0 k1 k2 k3 k5 : Option Value}
    {oc kV doc pm ct ccl cl : Value} {od an cdd cld : Option Addr} {osl ccs csl : Array (Option Value)} {vc : Array Value} {tf : Tok}
    (l : K.lookup C = some (excClassObj nm q C N bs bm true sn sub ab col dd k0 k1 k2 k3 k5 "ValueError.__new__")) (r : PySem.HandSPX.refsVE bm = true)
    (sa : PySem.W.findIn K (.ref C) "__setattr__" = some (some (.builtin "object.__setattr__"))) (exC : PySem.W.subIn K (.ref C) (.type "BaseException") = some true) (tyC : PySem.W.typeIn K (.ref C) = some (.type "type")) (kC : PySem.W.keepIn K (.ref C) = true)
    (opq : PySem.W.nsIn K cStatics "thirdparty.any" = some none) (sup : PySem.W.ks_superIn K C C "__init__" = some (some (.builtin "ValueError.__init__"))) (sb : PySem.W.subIn K (.ref C) (.type "ValueError") = some true) (mr : PySem.W.mroIn K C (.ref C) = some true)
    (no : ∀ f ∈ fs, PySem.W.findIn K (.ref C) f = some none) (fi : PySem.W.findIn K (.ref C) "__init__" = some (some (.ref fI))) (ti : PySem.W.typeIn K (.ref fI) = some (.type "function"))
    (lk : K.lookup fI = some ⟨oc, od, .func (PySem.W.ksFn "__init__" qual (defArgs st) (defBody st) (defScope st) .none kV doc pm an (.ref cda) ct cc), osl⟩) (cd : PySem.W.codeIn K (.ref cda) qual = true)
    (lc : K.lookup cda = some ⟨ccl, cdd, .fields vc, ccs⟩) (hv : vc[2]? = some (.str file tf)) (hf : ((P.main.file : Str) == file) = true) (lcell : K.lookup cc = some ⟨cl, cld, .cell (some (.ref C)), csl⟩) : ToldI P K qual st C fs :=
  ⟨⟨⟨⟨nm, q, N, bs, bm, sn, sub, ab, col, dd, k0, k1, k2, k3, k5, l, r⟩, sa, exC, tyC, kC⟩, opq, sup, sb, mr⟩, no, fI, _, fi, ti, ⟨oc, od, kV, doc, pm, an, cda, ct, cc, osl, ccl, cdd, vc, ccs, file, tf, cl, cld, csl, rfl, lk, cd, lc, hv, hf, lcell⟩⟩
def excB (K : PySem.W.Frag) (D : Addr) : Bool := decide (PySem.W.findIn K (.ref D) "__getattribute__" = some (some (.builtin "BaseException.__getattribute__"))) && (decide (PySem.W.findIn K (.ref D) "__getattr__" = some none) && (decide (PySem.W.subIn K (.ref D) (.type "BaseException") = some true) && (PySem.W.hasDictIn K D &&
  (decide (PySem.W.findIn K (.ref D) "__class__" = some (some (.builtin "object.__class__"))) && (decide (PySem.W.specialIn K (.builtin "object.__class__") "__get__" = some (some (.builtin "getset_descriptor.__get__"))) && (decide (PySem.W.takesIn K (.builtin "object.__class__") = some true) && decide (PySem.W.mroIn K D (.type "object") = some true)))))))
theorem excB_ok {K : PySem.W.Frag} {D : Addr} (h : excB K D = true) : ExcC K D := by
  unfold excB at h
  simp only [Bool.and_eq_true, decide_eq_true_eq] at h
  exact ⟨h.1, h.2.1, h.2.2.1, h.2.2.2.1, h.2.2.2.2.1, h.2.2.2.2.2.1, h.2.2.2.2.2.2.1, h.2.2.2.2.2.2.2⟩
def errB (K : PySem.W.Frag) (c : Nat → Addr) (cR : Addr) : Bool := (List.range 15).all fun i => excB K (c i) && (decide (PySem.W.kitOne K (.ref (c i)) (.type "ValueError") = some true) && (decide (PySem.W.kitOne K (.ref (c i)) (.ref cR) = some true) && (decide (PySem.W.exmOne K (.ref (c i)) (.ref cR) = some true) &&
  (decide (PySem.W.typeIn K (.ref (c i)) = some (.type "type")) && (PySem.W.keepIn K (.ref (c i)) && (List.range 15).all fun j => decide (PySem.W.kitOne K (.ref (c i)) (.ref (c j)) = some (decide (i = j))))))))
theorem errB_at {K : PySem.W.Frag} {c : Nat → Addr} {cR : Addr} (h : errB K c cR = true) (i : Nat) (hi : i < 15) : ExcC K (c i) ∧ PySem.W.kitOne K (.ref (c i)) (.type "ValueError") = some true ∧ PySem.W.kitOne K (.ref (c i)) (.ref cR) = some true ∧ PySem.W.exmOne K (.ref (c i)) (.ref cR) = some true ∧
    PySem.W.typeIn K (.ref (c i)) = some (.type "type") ∧ PySem.W.keepIn K (.ref (c i)) = true ∧ ∀ j, j < 15 → PySem.W.kitOne K (.ref (c i)) (.ref (c j)) = some (decide (i = j)) := by
  have q := List.all_eq_true.mp h i (List.mem_range.mpr hi)
  simp only [Bool.and_eq_true, decide_eq_true_eq] at q
  exact ⟨excB_ok q.1, q.2.1, q.2.2.1, q.2.2.2.1, q.2.2.2.2.1, q.2.2.2.2.2.1, fun j hj => of_decide_eq_true (List.all_eq_true.mp q.2.2.2.2.2.2 j (List.mem_range.mpr hj))⟩
section
variable {P : Program} {w : World} {K : PySem.W.Frag} {mg : Str → Option Value} {base : Heap} {C : Addr}
theorem err0 (t : ToldI P K "Wrong.__init__" (initS 2) C ["place"]) (htop : (P.main.scope.names.lookup ("super" : Str)).isSome = false) (hm : mg "super" = none) : ErrI P w K mg base C ["place"] := by
  obtain ⟨fI, fd, h1, h2, F⟩ := t.init
  have S : NScope ["self", "place", "__class__"] ["self", "place"] ["__class__"] (defScope (initS 2)) := nscope_by (by decide +kernel)
  refine ⟨t.T, t.no, fI, fd, ["self", "place"], h1, h2, init1 F rfl S rfl rfl rfl htop hm t.T (fun env => ⟨_, rfl⟩) (t.no _ List.mem_cons_self) (by decide) (by decide), ?_⟩
  obtain ⟨oc, od, kV, doc, pm, an, cda, ct, cc, osl, ccl, cdd, vc, ccs, file, tf, cl, cld, csl, rfl, _⟩ := F.ex
  exact Binds.all fun us hl => match us, hl with | [_, _], _ => rfl
theorem err1 (t : ToldI P K "BadTable.__init__" (initS 3) C ["at"]) (htop : (P.main.scope.names.lookup ("super" : Str)).isSome = false) (hm : mg "super" = none) : ErrI P w K mg base C ["at"] := by
  obtain ⟨fI, fd, h1, h2, F⟩ := t.init
  have S : NScope ["self", "at", "__class__"] ["self", "at"] ["__class__"] (defScope (initS 3)) := nscope_by (by decide +kernel)
  refine ⟨t.T, t.no, fI, fd, ["self", "at"], h1, h2, init1 F rfl S rfl rfl rfl htop hm t.T (fun env => ⟨_, rfl⟩) (t.no _ List.mem_cons_self) (by decide) (by decide), ?_⟩
  obtain ⟨oc, od, kV, doc, pm, an, cda, ct, cc, osl, ccl, cdd, vc, ccs, file, tf, cl, cld, csl, rfl, _⟩ := F.ex
  exact Binds.all fun us hl => match us, hl with | [_, _], _ => rfl
theorem err2 (t : ToldI P K "BadRow.__init__" (initS 4) C ["table", "at"]) (htop : (P.main.scope.names.lookup ("super" : Str)).isSome = false) (hm : mg "super" = none) : ErrI P w K mg base C ["table", "at"] := by
  obtain ⟨fI, fd, h1, h2, F⟩ := t.init
  have S : NScope ["self", "table", "at", "__class__"] ["self", "table", "at"] ["__class__"] (defScope (initS 4)) := nscope_by (by decide +kernel)
  refine ⟨t.T, t.no, fI, fd, ["self", "table", "at"], h1, h2, init2 F rfl S rfl rfl rfl htop hm t.T (fun env => ⟨_, rfl⟩) (t.no _ List.mem_cons_self) (t.no _ (List.mem_cons_of_mem _ List.mem_cons_self)) (by decide) (by decide) (by decide) (by decide), ?_⟩
  obtain ⟨oc, od, kV, doc, pm, an, cda, ct, cc, osl, ccl, cdd, vc, ccs, file, tf, cl, cld, csl, rfl, _⟩ := F.ex
  exact Binds.all fun us hl => match us, hl with | [_, _, _], _ => rfl
theorem err3 (t : ToldI P K "NoTable.__init__" (initS 5) C ["name"]) (htop : (P.main.scope.names.lookup ("super" : Str)).isSome = false) (hm : mg "super" = none) : ErrI P w K mg base C ["name"] := by
  obtain ⟨fI, fd, h1, h2, F⟩ := t.init
  have S : NScope ["self", "name", "__class__"] ["self", "name"] ["__class__"] (defScope (initS 5)) := nscope_by (by decide +kernel)
  refine ⟨t.T, t.no, fI, fd, ["self", "name"], h1, h2, init1 F rfl S rfl rfl rfl htop hm t.T (fun env => ⟨_, rfl⟩) (t.no _ List.mem_cons_self) (by decide) (by decide), ?_⟩
  obtain ⟨oc, od, kV, doc, pm, an, cda, ct, cc, osl, ccl, cdd, vc, ccs, file, tf, cl, cld, csl, rfl, _⟩ := F.ex
  exact Binds.all fun us hl => match us, hl with | [_, _], _ => rfl
theorem err5 (t : ToldI P K "TooMany.__init__" (initS 7) C ["limit"]) (htop : (P.main.scope.names.lookup ("super" : Str)).isSome = false) (hm : mg "super" = none) : ErrI P w K mg base C ["limit"] := by
  obtain ⟨fI, fd, h1, h2, F⟩ := t.init
  have S : NScope ["self", "limit", "__class__"] ["self", "limit"] ["__class__"] (defScope (initS 7)) := nscope_by (by decide +kernel)
  refine ⟨t.T, t.no, fI, fd, ["self", "limit"], h1, h2, init1 F rfl S rfl rfl rfl htop hm t.T (fun env => ⟨_, rfl⟩) (t.no _ List.mem_cons_self) (by decide) (by decide), ?_⟩
  obtain ⟨oc, od, kV, doc, pm, an, cda, ct, cc, osl, ccl, cdd, vc, ccs, file, tf, cl, cld, csl, rfl, _⟩ := F.ex
  exact Binds.all fun us hl => match us, hl with | [_, _], _ => rfl
theorem err7 (t : ToldI P K "NoAnswer.__init__" (initS 9) C ["number"]) (htop : (P.main.scope.names.lookup ("super" : Str)).isSome = false) (hm : mg "super" = none) : ErrI P w K mg base C ["number"] := by
  obtain ⟨fI, fd, h1, h2, F⟩ := t.init
  have S : NScope ["self", "number", "__class__"] ["self", "number"] ["__class__"] (defScope (initS 9)) := nscope_by (by decide +kernel)
  refine ⟨t.T, t.no, fI, fd, ["self", "number"], h1, h2, init1 F rfl S rfl rfl rfl htop hm t.T (fun env => ⟨_, rfl⟩) (t.no _ List.mem_cons_self) (by decide) (by decide), ?_⟩
  obtain ⟨oc, od, kV, doc, pm, an, cda, ct, cc, osl, ccl, cdd, vc, ccs, file, tf, cl, cld, csl, rfl, _⟩ := F.ex
  exact Binds.all fun us hl => match us, hl with | [_, _], _ => rfl
theorem err8 (t : ToldI P K "Taken.__init__" (initS 10) C ["table", "row"]) (htop : (P.main.scope.names.lookup ("super" : Str)).isSome = false) (hm : mg "super" = none) : ErrI P w K mg base C ["table", "row"] := by
  obtain ⟨fI, fd, h1, h2, F⟩ := t.init
  have S : NScope ["self", "table", "row", "__class__"] ["self", "table", "row"] ["__class__"] (defScope (initS 10)) := nscope_by (by decide +kernel)
  refine ⟨t.T, t.no, fI, fd, ["self", "table", "row"], h1, h2, init2 F rfl S rfl rfl rfl htop hm t.T (fun env => ⟨_, rfl⟩) (t.no _ List.mem_cons_self) (t.no _ (List.mem_cons_of_mem _ List.mem_cons_self)) (by decide) (by decide) (by decide) (by decide), ?_⟩
  obtain ⟨oc, od, kV, doc, pm, an, cda, ct, cc, osl, ccl, cdd, vc, ccs, file, tf, cl, cld, csl, rfl, _⟩ := F.ex
  exact Binds.all fun us hl => match us, hl with | [_, _, _], _ => rfl
theorem err9 (t : ToldI P K "Missing.__init__" (initS 11) C ["table", "row"]) (htop : (P.main.scope.names.lookup ("super" : Str)).isSome = false) (hm : mg "super" = none) : ErrI P w K mg base C ["table", "row"] := by
  obtain ⟨fI, fd, h1, h2, F⟩ := t.init
  have S : NScope ["self", "table", "row", "__class__"] ["self", "table", "row"] ["__class__"] (defScope (initS 11)) := nscope_by (by decide +kernel)
  refine ⟨t.T, t.no, fI, fd, ["self", "table", "row"], h1, h2, init2 F rfl S rfl rfl rfl htop hm t.T (fun env => ⟨_, rfl⟩) (t.no _ List.mem_cons_self) (t.no _ (List.mem_cons_of_mem _ List.mem_cons_self)) (by decide) (by decide) (by decide) (by decide), ?_⟩
  obtain ⟨oc, od, kV, doc, pm, an, cda, ct, cc, osl, ccl, cdd, vc, ccs, file, tf, cl, cld, csl, rfl, _⟩ := F.ex
  exact Binds.all fun us hl => match us, hl with | [_, _, _], _ => rfl
theorem err12 (t : ToldI P K "Stopped.__init__" (initS 14) C ["at"]) (htop : (P.main.scope.names.lookup ("super" : Str)).isSome = false) (hm : mg "super" = none) : ErrI P w K mg base C ["at"] := by
  obtain ⟨fI, fd, h1, h2, F⟩ := t.init
  have S : NScope ["self", "at", "__class__"] ["self", "at"] ["__class__"] (defScope (initS 14)) := nscope_by (by decide +kernel)
  refine ⟨t.T, t.no, fI, fd, ["self", "at"], h1, h2, init1 F rfl S rfl rfl rfl htop hm t.T (fun env => ⟨_, rfl⟩) (t.no _ List.mem_cons_self) (by decide) (by decide), ?_⟩
  obtain ⟨oc, od, kV, doc, pm, an, cda, ct, cc, osl, ccl, cdd, vc, ccs, file, tf, cl, cld, csl, rfl, _⟩ := F.ex
  exact Binds.all fun us hl => match us, hl with | [_, _], _ => rfl
end
end My
set_option Elab.async false
set_option linter.all false
set_option maxRecDepth 100000
set_option maxHeartbeats 4000000
namespace My
open PySem PySem.Spec PyProof.Rows L2 NdefX
theorem all_mk {w : World} {P : Program} {K : PySem.W.Frag} {h : Heap} {mg : Str → Option Value} {fa fL fB fT fA fO fE fF fD fK cR c0 c1 c2 c3 c4 c5 c6 c7 c8 c9 c10 c11 c12 c13 c14 : Addr} (X : K.In h) (G : h.Ns mainGlobals mg) (hfa : mg "law" = some (.ref fa))
    (eB : Told K "_law_bag" sBag fB)    (eT : Told K "_law_take" sTake fT)    (eA : Told K "_law_alike" sAlike fA)    (eO : Told K "_law_odd" sOdd fO)    (eE : Told K "_law_errors" sErrors fE)    (eF : Told K "_law_flags" sFlags fF)    (eD : Told K "_law_fields" sFields fD)    (eK : Told K "_law_taken" sTaken fK) (eL : Told K "law" sLaw fL)
    (n0 : PySem.W.nsIn K mainGlobals "Wrong" = some (some (.ref c0)))
    (n1 : PySem.W.nsIn K mainGlobals "BadTable" = some (some (.ref c1)))
    (n2 : PySem.W.nsIn K mainGlobals "BadRow" = some (some (.ref c2)))
    (n3 : PySem.W.nsIn K mainGlobals "NoTable" = some (some (.ref c3)))
    (n4 : PySem.W.nsIn K mainGlobals "Unlike" = some (some (.ref c4)))
    (n5 : PySem.W.nsIn K mainGlobals "TooMany" = some (some (.ref c5)))
    (n6 : PySem.W.nsIn K mainGlobals "NoJoinTree" = some (some (.ref c6)))
    (n7 : PySem.W.nsIn K mainGlobals "NoAnswer" = some (some (.ref c7)))
    (n8 : PySem.W.nsIn K mainGlobals "Taken" = some (some (.ref c8)))
    (n9 : PySem.W.nsIn K mainGlobals "Missing" = some (some (.ref c9)))
    (n10 : PySem.W.nsIn K mainGlobals "NoDeed" = some (some (.ref c10)))
    (n11 : PySem.W.nsIn K mainGlobals "Nothing" = some (some (.ref c11)))
    (n12 : PySem.W.nsIn K mainGlobals "Stopped" = some (some (.ref c12)))
    (n13 : PySem.W.nsIn K mainGlobals "NoText" = some (some (.ref c13)))
    (n14 : PySem.W.nsIn K mainGlobals "NoCommand" = some (some (.ref c14)))
    (nR : PySem.W.nsIn K mainGlobals "RowError" = some (some (.ref cR)))
    (eb : errB K (fun i => [c0, c1, c2, c3, c4, c5, c6, c7, c8, c9, c10, c11, c12, c13, c14].getD i 0) cR = true)
    (x4 : PySem.W.excIn K c4 PySem.HandSPX.veTail "ValueError.__new__" = true)
    (x6 : PySem.W.excIn K c6 PySem.HandSPX.veTail "ValueError.__new__" = true)
    (x10 : PySem.W.excIn K c10 PySem.HandSPX.veTail "ValueError.__new__" = true)
    (x11 : PySem.W.excIn K c11 PySem.HandSPX.veTail "ValueError.__new__" = true)
    (x13 : PySem.W.excIn K c13 PySem.HandSPX.veTail "ValueError.__new__" = true)
    (x14 : PySem.W.excIn K c14 PySem.HandSPX.veTail "ValueError.__new__" = true)
    (t0 : ToldI P K "Wrong.__init__" (initS 2) c0 ["place"])
    (t1 : ToldI P K "BadTable.__init__" (initS 3) c1 ["at"])
    (t2 : ToldI P K "BadRow.__init__" (initS 4) c2 ["table", "at"])
    (t3 : ToldI P K "NoTable.__init__" (initS 5) c3 ["name"])
    (t5 : ToldI P K "TooMany.__init__" (initS 7) c5 ["limit"])
    (t7 : ToldI P K "NoAnswer.__init__" (initS 9) c7 ["number"])
    (t8 : ToldI P K "Taken.__init__" (initS 10) c8 ["table", "row"])
    (t9 : ToldI P K "Missing.__init__" (initS 11) c9 ["table", "row"])
    (t12 : ToldI P K "Stopped.__init__" (initS 14) c12 ["at"])
    (htop : (P.main.scope.names.lookup ("super" : Str)).isSome = false)
    (z0 : PySem.W.nsIn K mainGlobals "isinstance" = some none)
    (z1 : PySem.W.nsIn K mainGlobals "int" = some none)
    (z2 : PySem.W.nsIn K mainGlobals "bool" = some none)
    (z3 : PySem.W.nsIn K mainGlobals "str" = some none)
    (z4 : PySem.W.nsIn K mainGlobals "tuple" = some none)
    (z5 : PySem.W.nsIn K mainGlobals "list" = some none)
    (z6 : PySem.W.nsIn K mainGlobals "len" = some none)
    (z7 : PySem.W.nsIn K mainGlobals "all" = some none)
    (z8 : PySem.W.nsIn K mainGlobals "zip" = some none)
    (z9 : PySem.W.nsIn K mainGlobals "range" = some none)
    (z10 : PySem.W.nsIn K mainGlobals "repr" = some none)
    (z11 : PySem.W.nsIn K mainGlobals "abs" = some none)
    (z12 : PySem.W.nsIn K mainGlobals "dict" = some none)
    (z13 : PySem.W.nsIn K mainGlobals "ValueError" = some none)
    (z14 : PySem.W.nsIn K mainGlobals "super" = some none)
    : ∃ fd : FuncData, (∀ (s : Shared) (v : Value), BindsTo s fd ⟨[v], []⟩ [("_law_script", v)]) ∧
      ∀ base : Heap, K.In base → base.Ns mainGlobals mg → (∃ mm, base.Ns sysModules mm) → FnG P w K mg base CX0 4 fa fd ["_law_script"] (spLaw K) := by
  have T : Free mg := ⟨PySem.W.mg_none_of X G z0, PySem.W.mg_none_of X G z1, PySem.W.mg_none_of X G z2, PySem.W.mg_none_of X G z3, PySem.W.mg_none_of X G z4, PySem.W.mg_none_of X G z5, PySem.W.mg_none_of X G z6, PySem.W.mg_none_of X G z7, PySem.W.mg_none_of X G z8, PySem.W.mg_none_of X G z9, PySem.W.mg_none_of X G z10, PySem.W.mg_none_of X G z11, PySem.W.mg_none_of X G z12, PySem.W.mg_none_of X G z13, PySem.W.mg_none_of X G z14⟩
  have TE : ErrT K mg (fun i => [c0, c1, c2, c3, c4, c5, c6, c7, c8, c9, c10, c11, c12, c13, c14].getD i 0) cR :=
    { kit := fun i j hi hj => (errB_at eb i hi).2.2.2.2.2.2 j hj
      exc := fun i hi => (errB_at eb i hi).1
      ve := fun i hi => (errB_at eb i hi).2.1
      row := fun i hi => (errB_at eb i hi).2.2.1
      exm := fun i hi => (errB_at eb i hi).2.2.2.1
      ty := fun i hi => (errB_at eb i hi).2.2.2.2.1
      kp := fun i hi => (errB_at eb i hi).2.2.2.2.2.1
      gR := PySem.W.mg_of X G nR
      g0 := PySem.W.mg_of X G n0
      g1 := PySem.W.mg_of X G n1
      g2 := PySem.W.mg_of X G n2
      g3 := PySem.W.mg_of X G n3
      g4 := PySem.W.mg_of X G n4
      g5 := PySem.W.mg_of X G n5
      g6 := PySem.W.mg_of X G n6
      g7 := PySem.W.mg_of X G n7
      g8 := PySem.W.mg_of X G n8
      g9 := PySem.W.mg_of X G n9
      g10 := PySem.W.mg_of X G n10
      g11 := PySem.W.mg_of X G n11
      g12 := PySem.W.mg_of X G n12
      g13 := PySem.W.mg_of X G n13
      g14 := PySem.W.mg_of X G n14
      x4 := x4
      x6 := x6
      x10 := x10
      x11 := x11
      x13 := x13
      x14 := x14 }
  obtain ⟨dB, EB⟩ := eB.def1 (ps := ["_law_script"]) X G fun _ _ _ _ _ _ us hl => match us, hl with | [_], _ => rfl
  obtain ⟨dT, ET⟩ := eT.def1 (ps := ["_law_bag_here", "_law_many"]) X G fun _ _ _ _ _ _ us hl => match us, hl with | [_, _], _ => rfl
  obtain ⟨dA, EA⟩ := eA.def1 (ps := ["_law_found", "_law_due"]) X G fun _ _ _ _ _ _ us hl => match us, hl with | [_, _], _ => rfl
  obtain ⟨dO, EO⟩ := eO.def1 (ps := ["_law_bag_here"]) X G fun _ _ _ _ _ _ us hl => match us, hl with | [_], _ => rfl
  obtain ⟨dE, EE⟩ := eE.def1 (ps := ["_law_one", "_law_two"]) X G fun _ _ _ _ _ _ us hl => match us, hl with | [_, _], _ => rfl
  obtain ⟨dF, EF⟩ := eF.def1 (ps := ["_law_error"]) X G fun _ _ _ _ _ _ us hl => match us, hl with | [_], _ => rfl
  obtain ⟨dD, ED⟩ := eD.def1 (ps := ["_law_errors_here"]) X G fun _ _ _ _ _ _ us hl => match us, hl with | [_], _ => rfl
  obtain ⟨dK, EK⟩ := eK.def1 (ps := ["_law_way", "_law_one", "_law_two"]) X G fun _ _ _ _ _ _ us hl => match us, hl with | [_, _, _], _ => rfl
  obtain ⟨oc, od, an, sl, kV, dc, pm, cd, ct, l, c⟩ := eL.ex
  have FL := fun_mk (st := sLaw) l c eL.kp
  have e := hfa.symm.trans (PySem.W.mg_of X G eL.ns)
  cases e
  have hm := T.sup
  exact ⟨_, fun s v => .of_eq rfl, fun base _ _ hsy => ok_law FL T hsy TE ⟨err0 t0 htop hm, err1 t1 htop hm, err2 t2 htop hm, err3 t3 htop hm, err5 t5 htop hm, err7 t7 htop hm, err8 t8 htop hm, err9 t9 htop hm, err12 t12 htop hm⟩ EB ET EA EO EE EF ED EK⟩
end My
set_option maxHeartbeats 0 in
theorem PySem.Challenge.cw_deadrows_k15_errors_kept_holds : PySem.Challenge.rw_deadrows_k15_errors_kept.Holds := by
  w_on; o_law; k_head; (case hw => w_witness2)
  k_fill
  refine My.walk_ofG (l := PySem.Challenge.rw_deadrows_k15_errors_kept) (n := 63) (k := 4) (x := "_law_script") (CX := L2.CX0) (sp := My.spLaw) rfl (by decide) rfl ⟨rfl, by decide, by decide⟩ (by first | rfl | decide +kernel) (fun w h Y => PySem.W.kIn_of Y) ?F
    (fun _ _ a ns hl _ hS => ⟨a, ns, rfl, hS, hl, fun _ => rfl⟩) (fun _ _ _ _ z => z)
  case F =>
    intro w mg fa h KX G hmg
    refine' My.all_mk KX G hmg (My.told ?aB ?lB ?cB ?kB) (My.told ?aT ?lT ?cT ?kT) (My.told ?aA ?lA ?cA ?kA) (My.told ?aO ?lO ?cO ?kO) (My.told ?aE ?lE ?cE ?kE) (My.told ?aF ?lF ?cF ?kF) (My.told ?aD ?lD ?cD ?kD) (My.told ?aK ?lK ?cK ?kK) (My.told ?aL ?lL ?cL ?kL) ?n0 ?n1 ?n2 ?n3 ?n4 ?n5 ?n6 ?n7 ?n8 ?n9 ?n10 ?n11 ?n12 ?n13 ?n14 ?nR ?eb ?x4 ?x6 ?x10 ?x11 ?x13 ?x14 (My.toldI ?il0 ?ir0 ?isa0 ?iex0 ?ity0 ?ik0 ?iop0 ?isu0 ?isb0 ?imr0 ?ino0 ?ifi0 ?iti0 ?ilk0 ?icd0 ?ilc0 ?ihv0 ?ihf0 ?ice0) (My.toldI ?il1 ?ir1 ?isa1 ?iex1 ?ity1 ?ik1 ?iop1 ?isu1 ?isb1 ?imr1 ?ino1 ?ifi1 ?iti1 ?ilk1 ?icd1 ?ilc1 ?ihv1 ?ihf1 ?ice1) (My.toldI ?il2 ?ir2 ?isa2 ?iex2 ?ity2 ?ik2 ?iop2 ?isu2 ?isb2 ?imr2 ?ino2 ?ifi2 ?iti2 ?ilk2 ?icd2 ?ilc2 ?ihv2 ?ihf2 ?ice2) (My.toldI ?il3 ?ir3 ?isa3 ?iex3 ?ity3 ?ik3 ?iop3 ?isu3 ?isb3 ?imr3 ?ino3 ?ifi3 ?iti3 ?ilk3 ?icd3 ?ilc3 ?ihv3 ?ihf3 ?ice3) (My.toldI ?il5 ?ir5 ?isa5 ?iex5 ?ity5 ?ik5 ?iop5 ?isu5 ?isb5 ?imr5 ?ino5 ?ifi5 ?iti5 ?ilk5 ?icd5 ?ilc5 ?ihv5 ?ihf5 ?ice5) (My.toldI ?il7 ?ir7 ?isa7 ?iex7 ?ity7 ?ik7 ?iop7 ?isu7 ?isb7 ?imr7 ?ino7 ?ifi7 ?iti7 ?ilk7 ?icd7 ?ilc7 ?ihv7 ?ihf7 ?ice7) (My.toldI ?il8 ?ir8 ?isa8 ?iex8 ?ity8 ?ik8 ?iop8 ?isu8 ?isb8 ?imr8 ?ino8 ?ifi8 ?iti8 ?ilk8 ?icd8 ?ilc8 ?ihv8 ?ihf8 ?ice8) (My.toldI ?il9 ?ir9 ?isa9 ?iex9 ?ity9 ?ik9 ?iop9 ?isu9 ?isb9 ?imr9 ?ino9 ?ifi9 ?iti9 ?ilk9 ?icd9 ?ilc9 ?ihv9 ?ihf9 ?ice9) (My.toldI ?il12 ?ir12 ?isa12 ?iex12 ?ity12 ?ik12 ?iop12 ?isu12 ?isb12 ?imr12 ?ino12 ?ifi12 ?iti12 ?ilk12 ?icd12 ?ilc12 ?ihv12 ?ihf12 ?ice12) ?htop ?z0 ?z1 ?z2 ?z3 ?z4 ?z5 ?z6 ?z7 ?z8 ?z9 ?z10 ?z11 ?z12 ?z13 ?z14
    (case aB => k_is); (case lB => k_is); (case cB => k_is); (case kB => k_is)
    (case aT => k_is); (case lT => k_is); (case cT => k_is); (case kT => k_is)
    (case aA => k_is); (case lA => k_is); (case cA => k_is); (case kA => k_is)
    (case aO => k_is); (case lO => k_is); (case cO => k_is); (case kO => k_is)
    (case aE => k_is); (case lE => k_is); (case cE => k_is); (case kE => k_is)
    (case aF => k_is); (case lF => k_is); (case cF => k_is); (case kF => k_is)
    (case aD => k_is); (case lD => k_is); (case cD => k_is); (case kD => k_is)
    (case aK => k_is); (case lK => k_is); (case cK => k_is); (case kK => k_is)
    (case aL => k_is); (case lL => k_is); (case cL => k_is); (case kL => k_is)
    (case n0 => k_is); (case n1 => k_is); (case n2 => k_is); (case n3 => k_is); (case n4 => k_is); (case n5 => k_is); (case n6 => k_is); (case n7 => k_is); (case n8 => k_is); (case n9 => k_is); (case n10 => k_is); (case n11 => k_is); (case n12 => k_is); (case n13 => k_is); (case n14 => k_is); (case nR => k_is)
    (case x4 => first | kernel_rfl | decide +kernel); (case x6 => first | kernel_rfl | decide +kernel); (case x10 => first | kernel_rfl | decide +kernel); (case x11 => first | kernel_rfl | decide +kernel); (case x13 => first | kernel_rfl | decide +kernel); (case x14 => first | kernel_rfl | decide +kernel)
    (case il0 => k_is); (case ir0 => first | rfl | decide +kernel); (case isa0 => k_is); (case iex0 => k_is); (case ity0 => k_is); (case ik0 => k_is); (case iop0 => k_is); (case isu0 => first | kernel_rfl | rfl); (case isb0 => k_is); (case imr0 => k_is)
    (case ifi0 => k_is); (case iti0 => k_is); (case ilk0 => k_is); (case icd0 => k_is); (case ilc0 => k_is); (case ihv0 => exact rfl); (case ihf0 => first | rfl | decide +kernel | kernel_rfl); (case ice0 => k_is)
    (case ino0 => (intro f hf; simp only [List.mem_cons, List.not_mem_nil, or_false] at hf; subst hf; k_is))
    (case il1 => k_is); (case ir1 => first | rfl | decide +kernel); (case isa1 => k_is); (case iex1 => k_is); (case ity1 => k_is); (case ik1 => k_is); (case iop1 => k_is); (case isu1 => first | kernel_rfl | rfl); (case isb1 => k_is); (case imr1 => k_is)
    (case ifi1 => k_is); (case iti1 => k_is); (case ilk1 => k_is); (case icd1 => k_is); (case ilc1 => k_is); (case ihv1 => exact rfl); (case ihf1 => first | rfl | decide +kernel | kernel_rfl); (case ice1 => k_is)
    (case ino1 => (intro f hf; simp only [List.mem_cons, List.not_mem_nil, or_false] at hf; subst hf; k_is))
    (case il2 => k_is); (case ir2 => first | rfl | decide +kernel); (case isa2 => k_is); (case iex2 => k_is); (case ity2 => k_is); (case ik2 => k_is); (case iop2 => k_is); (case isu2 => first | kernel_rfl | rfl); (case isb2 => k_is); (case imr2 => k_is)
    (case ifi2 => k_is); (case iti2 => k_is); (case ilk2 => k_is); (case icd2 => k_is); (case ilc2 => k_is); (case ihv2 => exact rfl); (case ihf2 => first | rfl | decide +kernel | kernel_rfl); (case ice2 => k_is)
    (case ino2 => (intro f hf; simp only [List.mem_cons, List.not_mem_nil, or_false] at hf; rcases hf with rfl | rfl <;> k_is))
    (case il3 => k_is); (case ir3 => first | rfl | decide +kernel); (case isa3 => k_is); (case iex3 => k_is); (case ity3 => k_is); (case ik3 => k_is); (case iop3 => k_is); (case isu3 => first | kernel_rfl | rfl); (case isb3 => k_is); (case imr3 => k_is)
    (case ifi3 => k_is); (case iti3 => k_is); (case ilk3 => k_is); (case icd3 => k_is); (case ilc3 => k_is); (case ihv3 => exact rfl); (case ihf3 => first | rfl | decide +kernel | kernel_rfl); (case ice3 => k_is)
    (case ino3 => (intro f hf; simp only [List.mem_cons, List.not_mem_nil, or_false] at hf; subst hf; k_is))
    (case il5 => k_is); (case ir5 => first | rfl | decide +kernel); (case isa5 => k_is); (case iex5 => k_is); (case ity5 => k_is); (case ik5 => k_is); (case iop5 => k_is); (case isu5 => first | kernel_rfl | rfl); (case isb5 => k_is); (case imr5 => k_is)
    (case ifi5 => k_is); (case iti5 => k_is); (case ilk5 => k_is); (case icd5 => k_is); (case ilc5 => k_is); (case ihv5 => exact rfl); (case ihf5 => first | rfl | decide +kernel | kernel_rfl); (case ice5 => k_is)
    (case ino5 => (intro f hf; simp only [List.mem_cons, List.not_mem_nil, or_false] at hf; subst hf; k_is))
    (case il7 => k_is); (case ir7 => first | rfl | decide +kernel); (case isa7 => k_is); (case iex7 => k_is); (case ity7 => k_is); (case ik7 => k_is); (case iop7 => k_is); (case isu7 => first | kernel_rfl | rfl); (case isb7 => k_is); (case imr7 => k_is)
    (case ifi7 => k_is); (case iti7 => k_is); (case ilk7 => k_is); (case icd7 => k_is); (case ilc7 => k_is); (case ihv7 => exact rfl); (case ihf7 => first | rfl | decide +kernel | kernel_rfl); (case ice7 => k_is)
    (case ino7 => (intro f hf; simp only [List.mem_cons, List.not_mem_nil, or_false] at hf; subst hf; k_is))
    (case il8 => k_is); (case ir8 => first | rfl | decide +kernel); (case isa8 => k_is); (case iex8 => k_is); (case ity8 => k_is); (case ik8 => k_is); (case iop8 => k_is); (case isu8 => first | kernel_rfl | rfl); (case isb8 => k_is); (case imr8 => k_is)
    (case ifi8 => k_is); (case iti8 => k_is); (case ilk8 => k_is); (case icd8 => k_is); (case ilc8 => k_is); (case ihv8 => exact rfl); (case ihf8 => first | rfl | decide +kernel | kernel_rfl); (case ice8 => k_is)
    (case ino8 => (intro f hf; simp only [List.mem_cons, List.not_mem_nil, or_false] at hf; rcases hf with rfl | rfl <;> k_is))
    (case il9 => k_is); (case ir9 => first | rfl | decide +kernel); (case isa9 => k_is); (case iex9 => k_is); (case ity9 => k_is); (case ik9 => k_is); (case iop9 => k_is); (case isu9 => first | kernel_rfl | rfl); (case isb9 => k_is); (case imr9 => k_is)
    (case ifi9 => k_is); (case iti9 => k_is); (case ilk9 => k_is); (case icd9 => k_is); (case ilc9 => k_is); (case ihv9 => exact rfl); (case ihf9 => first | rfl | decide +kernel | kernel_rfl); (case ice9 => k_is)
    (case ino9 => (intro f hf; simp only [List.mem_cons, List.not_mem_nil, or_false] at hf; rcases hf with rfl | rfl <;> k_is))
    (case il12 => k_is); (case ir12 => first | rfl | decide +kernel); (case isa12 => k_is); (case iex12 => k_is); (case ity12 => k_is); (case ik12 => k_is); (case iop12 => k_is); (case isu12 => first | kernel_rfl | rfl); (case isb12 => k_is); (case imr12 => k_is)
    (case ifi12 => k_is); (case iti12 => k_is); (case ilk12 => k_is); (case icd12 => k_is); (case ilc12 => k_is); (case ihv12 => exact rfl); (case ihf12 => first | rfl | decide +kernel | kernel_rfl); (case ice12 => k_is)
    (case ino12 => (intro f hf; simp only [List.mem_cons, List.not_mem_nil, or_false] at hf; subst hf; k_is))
    (case eb => first | kernel_rfl | decide +kernel)
    (case htop => first | rfl | decide +kernel | kernel_rfl)
    (case z0 => k_is); (case z1 => k_is); (case z2 => k_is); (case z3 => k_is); (case z4 => k_is); (case z5 => k_is); (case z6 => k_is); (case z7 => k_is); (case z8 => k_is); (case z9 => k_is); (case z10 => k_is); (case z11 => k_is); (case z12 => k_is); (case z13 => k_is); (case z14 => k_is)
