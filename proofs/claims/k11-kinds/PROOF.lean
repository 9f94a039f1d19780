import PyProof.Rows.All
import Wide.All
import OpenK.AllK
import Wide.FinOn
import HandS.ForMost
import HandS.Wide
import HandS.IsInst
import HandS.Flow
import HandS.TupMul
import HandS.TupAny
import HandS.Zip
import PyProof.ReprRoads
import PyProof.ReprLen
import HandS.Codes
import HandS.Walk
import PyProof.NeKinds
import PySem.Challenge.RW_deadrows_k11_kinds_known
set_option Elab.async false
set_option linter.all false
set_option maxRecDepth 100000
set_option maxHeartbeats 4000000
/-! Calls where no repr is under way (guards told): FnG. -/
namespace My
open PySem PySem.Spec PyProof.Rows L2

/-- a def's promise where no repr is under way -/
structure FnG (P : Program) (w : World) (K : PySem.W.Frag) (mg : Str → Option Value) (base : Heap)
    (CX : CXT) (k : Nat) (f : Addr) (fd : FuncData) (ps : List Str) (sp : Sp) : Prop where
  len : ∀ vs H Q E, sp vs H Q E → vs.length = ps.length
  run : ∀ (A : Around) (outer : List Env) (s : Shared) (H : Hp) (args : Args)
    (us : List Value) (vs : List V) (Q : VK) (E : XK), Room k A → A.guards = some [] →
    Env0 P w K mg base A outer s H → BindsTo s fd args (ps.zip us) → Vals vs us →
    sp vs H Q E → codeAny (model P w) A (.call (.ref f) args) (CR CX outer P w H s Q E) s

section
variable {P : Program} {w : World} {K : PySem.W.Frag} {mg : Str → Option Value} {base : Heap}
  {CX : CXT} {k j : Nat} {f : Addr} {fd : FuncData} {ps : List Str} {sp : Sp}
theorem FnG.of (F : FnOk P w K mg base CX k f fd ps sp) : FnG P w K mg base CX k f fd ps sp :=
  ⟨F.len, fun A outer s H args us vs Q E hr _ => F.run A outer s H args us vs Q E hr⟩
theorem FnG.mono (F : FnG P w K mg base CX j f fd ps sp) (h : j ≤ k) :
    FnG P w K mg base CX k f fd ps sp :=
  ⟨F.len, fun A outer s H args us vs Q E hr => F.run A outer s H args us vs Q E (hr.mono h)⟩

theorem fnG_of {name qual : Str} {params : Arguments} {body : List Stmt} {scope : Scope}
    {dV kV doc pm cdv ct oc : Value} {an od : Option Addr} {osl : Array (Option Value)} {N : List Str}
    (lk : K.lookup f = some ⟨oc, od, .func (PySem.W.fnOf name qual params body scope dV kV doc pm an cdv ct), osl⟩)
    (hcd : PySem.W.codeIn K cdv qual = true) (S : FnScope N ps scope)
    (len : ∀ vs H Q E, sp vs H Q E → vs.length = ps.length)
    (hbody : ∀ (A : Around) (outer : List Env) (s : Shared) (H : Hp) (vs : List V) (Q : VK) (E : XK),
      Room k (A.deeper (envOfC qual scope s.heap.objs.size f cdv)) → A.guards = some [] → sp vs H Q E →
      ∃ t, PSs (cxOf CX P w K mg base N qual scope f cdv A outer s H E) body t ∧
        t { nx := fun _ H' => Q .non H', rt := Q } (start N vs) H) :
    FnG P w K mg base CX (k + 1) f (PySem.W.fnOf name qual params body scope dV kV doc pm an cdv ct) ps sp := by
  refine ⟨len, fun A outer s H args us vs Q E hr hg e0 hb r hsp => ?_⟩
  have hl := len _ _ _ _ hsp
  have old : ∀ b o, base.get? b = some o → s.heap.get? b = some o := fun b o e => (e0.bs b o e).1
  have KX : K.In s.heap := e0.mod.kin.keeps old
  have lim : s.heap.NoLimit := e0.mod.nolimit.keeps old
  have hkind : ∀ y ∈ ps.zip us, scope.names.lookup y.1 = some .local ∨ (scope.names.lookup y.1 = some .cell ∧
      ((cellsFrom (s.heap.objs.size + 1) scope.names []).lookup y.1).isSome = true) := by
    rintro ⟨n, v⟩ hy
    rcases S.par n (List.of_mem_zip hy).1 with q | q
    · exact .inl q
    · exact .inr ⟨q, PySem.W.cellsFrom_some _ _ _ (.inl q)⟩
  refine codeAny_call_function hr.depth (KX _ _ lk) rfl S.co S.gen rfl
    (PySem.W.codeRec_of KX hcd) (hb _ _ _ _ ?_)
  refine wpAny_newFunctionEnv_cells S.kind hkind fun env he s1 x => ?_
  subst he
  refine ⟨lim.keeps x.toInCall.keep, codeAny_func ?_⟩
  obtain ⟨t, ht, hq⟩ := hbody A outer s H vs Q E (hr.deeper _) hg hsp
  have I := inv_start (CX := CX) (E := E) (N := N) S hr.hd e0 hl r x
  refine wpAny_mono (ht.run [] s1 (start N vs) H _ I hq) ?_ (fun e s' hs => hs)
  intro fl s' hs
  cases fl with
  | ret u =>
    obtain ⟨v, σ', H', J, rv, q⟩ := hs
    exact ⟨v, H', J.os, J.bare, J.base, J.hok, rv, q⟩
  | next =>
    obtain ⟨σ', H', J, q⟩ := hs
    exact ⟨V.non, H', J.os, J.bare, J.base, J.hok, rfl, q⟩
  | brk => exact hs.elim fun _ h => h.elim fun _ h => False.elim h.2
  | cont => exact hs.elim fun _ h => h.elim fun _ h => False.elim h.2

/-- a def by its body, no repr under way, nothing raised -/
theorem okG {x qual : Str} {st : Stmt} {N : List Str} (F : Fun K x qual st f fd)
    (S : FnScope N ps (defScope st)) (len : ∀ vs H Q E, sp vs H Q E → vs.length = ps.length)
    (hbody : ∀ (cdv : Value) (A : Around) (outer : List Env) (s : Shared) (H : Hp) (vs : List V) (Q : VK) (E : XK),
      Room k (A.deeper (envOfC qual (defScope st) s.heap.objs.size f cdv)) → A.guards = some [] → sp vs H Q E →
      ∃ t, PSs (cxOf CX0 P w K mg base N qual (defScope st) f cdv A outer s H E).nox (defBody st) t ∧
        t { nx := fun _ H' => Q .non H', rt := Q } (start N vs) H) :
    FnG P w K mg base CX0 (k + 1) f fd ps sp := by
  obtain ⟨oc, od, kV, doc, pm, an, cdv, ct, osl, rfl, lk, hcd⟩ := F.ex
  refine fnG_of lk hcd S len fun A outer s H vs Q E hr hg hsp => ?_
  obtain ⟨t, h, q⟩ := hbody cdv A outer s H vs Q E hr hg hsp
  exact ⟨t, h.nox, q⟩
end

section
variable {X : Cx} {CX : CXT} {k : Nat} {f C : Addr} {fd : FuncData} {ps : List Str} {sp : Sp} {dvs : List V}
  {ds : List Value} {E : XK} {x m : Str} {p pos apos : Pos} {e o : Expr} {es : List Expr} {ta : TE} {t : TA}
theorem run_fnG {pins : List (Addr × Obj)} {σ : L2.St} {H : Hp} {s : Shared} {Q : VK} {us : List Value} {vs : List V}
    (F : FnG X.prog X.w X.K X.mg X.base CX k f fd ps sp) (hr : Room k X.A) (hgd : X.A.guards = some [])
    (hb : Binds X.K fd ps ds) (hd : Vals dvs ds) (hx : Passes CX X E) (I : Inv X pins σ H s) (r : Vals vs us)
    (h : sp (vs ++ dvs) H Q E) : wpAny (model X.prog X.w) X.A (call (.ref f) us) (EP X pins σ Q) X.xe s := by
  have r2 := r.append hd
  have hl : (us ++ ds).length = ps.length := r2.length.symm.trans (F.len _ _ _ _ h)
  refine wpAny_call (codeAny_mono (F.run X.A X.stack s H ⟨us, []⟩ _ _ Q E hr hgd I.env0
    (hb s us I.kIn hl) r2 h) ?_)
  intro r s' hq
  match r, hq with
  | .error e, hq => exact hx pins σ H s e s' I hq
  | .ok (.ret u), hq => exact I.after hq
theorem pe_callG (F : FnG X.prog X.w X.K X.mg X.base CX k f fd ps sp) (hr : Room k X.A) (hgd : X.A.guards = some [])
    (hg : Gl X x) (hm : X.mg x = some (.ref f)) (hk : PySem.W.keepIn X.K (.ref f) = true) (hb : Binds X.K fd ps ds)
    (hd : Vals dvs ds) (hx : Passes CX X E) (ha : PA X (e :: es) t) (hdb : (x == ("__debug__" : Str)) = false := by decide)
    (he : starEach (e :: es) X.env = (false, eval e X.env) :: starEach es X.env := by rfl)
    (hpl : (backTo pos (starEach es X.env)).any (·.1) = false := by rfl) :
    PE X (.Call (.Name x p) (e :: es) [] pos) (tCall sp dvs E t) := by
  refine ⟨fun pins s σ H Q I h => wpAny_Call_Name_kw (ld_glob I hg hm ?_ hdb)⟩
  refine PySem.W.callWith_K (h₀ := X.base) I.ok.mod.kin hk (thn (ha.run pos pins s σ H _ I h) ?_) he hpl
  exact fun us s1 ⟨vs, H1, I1, r, q⟩ => ⟨I1.kIn, run_fnG F hr hgd hb hd hx I1 r q⟩
end

/-- the law's call, its promise kept where no repr is under way -/
theorem law_callG {P : Program} {w : World} {K : PySem.W.Frag} {mg mb : Str → Option Value} {CX : CXT} {k : Nat}
    {fa a : Addr} {fd : FuncData} {x : Str} {sp : Sp} {s₁ : Shared} {vs : List Value} {ns : List Int}
    (KX : K.In s₁.heap) (hns : s₁.heap.Ns mainGlobals mg) (hb : s₁.heap.Ns builtinsNs mb)
    (hbb : ∀ x : Str, x ≠ "__name__" → mb x = bootBuiltins x) (hlim : s₁.heap.NoLimit) (hg : s₁.gens = #[])
    (ha : s₁.heap.get? a = some { cls := .type "list", data := .seq vs.toArray }) (hi : IntsAre vs ns)
    (hl : ns.length ≤ sizeLine) (hr : Room k callerA)
    (hsy : ∃ mm, s₁.heap.Ns sysModules mm)
    (F : ∀ base : Heap, K.In base → base.Ns mainGlobals mg → (∃ mm, base.Ns sysModules mm) → FnG P w K mg base CX k fa fd [x] sp)
    (hbind : ∀ (s : Shared) (u : Value), BindsTo s fd ⟨[u], []⟩ [(x, u)])
    (hsp : ∀ H : Hp, Only H → SqL K H a (ns.map V.int) → sp [.ref a] H (fun v _ => v = .bl true) fun _ _ _ => False)
    (hCX : ∀ H e s', CX [] H s₁ (fun _ _ _ => False) e s' → False) :
    codeAny (model P w) callerA (.call (.ref fa) ⟨[.ref a], []⟩)
      (fun r s' => r = .ok (.ret (.bool true)) ∧ OldK s₁.heap s'.heap ∧ s'.os = s₁.os ∧ AllBare s'.gens) s₁ := by
  have core : ∀ H : Hp, Only H → SqL K H a (ns.map V.int) → HOk P w H s₁.heap → (∀ b, H b ≠ none → b = a) →
      (H a ≠ none → K.lookup a = none) → codeAny (model P w) callerA (.call (.ref fa) ⟨[.ref a], []⟩)
      (fun r s' => r = .ok (.ret (.bool true)) ∧ OldK s₁.heap s'.heap ∧ s'.os = s₁.os ∧ AllBare s'.gens) s₁ := by
    intro H hO hS hok hA hK
    have atA : ∀ {b : Addr} {u : HO}, H b = some u → b = a := fun q => hA _ (by rw [q]; simp)
    have noA : ∀ {b : Addr} {o : Obj} {es : Array DictEntry} {ep : Nat},
        s₁.heap.get? b = some o → o.data = .dict es ep → H b = none := by
      intro b o es ep e d
      cases q : H b with
      | none => rfl
      | some u =>
        obtain rfl := atA q
        rw [ha] at e
        cases e
        exact nomatch (show Data.seq vs.toArray _ = Data.dict es ep from d)
    have nsK : ∀ {b : Addr} {m : Str → Option Value}, s₁.heap.Ns b m → (hidT s₁.heap H).Ns b m :=
      fun ⟨o, es, ep, e, d, r⟩ => ⟨o, es, ep, hidT_get e (noA e d), d, r⟩
    have hKb : K.In (hidT s₁.heap H) := by
      intro b o e
      refine hidT_get (KX b o e) ?_
      cases q : H b with
      | none => rfl
      | some u =>
        obtain rfl := atA q
        rw [hK (by rw [q]; simp)] at e
        cases e
    obtain ⟨mc, hc1, hc2⟩ := hlim
    have hM : Mod K mg (hidT s₁.heap H) := ⟨hKb, nsK hns, ⟨mb, nsK hb, hbb⟩, ⟨mc, nsK hc1, hc2⟩⟩
    have no0 : ∀ b : Addr, b ∉ frs [] := fun b z => absurd (show b ∈ ([] : List Addr) from z) (by simp)
    have e0 : Env0 P w K mg (hidT s₁.heap H) callerA [] s₁ H :=
      ⟨rfl, hM, fun b o e => of_hidT e, Nat.le_of_eq (hidT_size _ _), trivial, fun b z => absurd z (no0 b), hok, .of_eq hg⟩
    obtain ⟨mm, hmm⟩ := hsy
    refine codeAny_mono ((F _ hKb (nsK hns) ⟨mm, nsK hmm⟩).run callerA [] s₁ H ⟨[.ref a], []⟩ [.ref a] [.ref a] _ _ hr rfl e0
      (hbind s₁ (.ref a)) (.cons rfl .nil) (hsp H hO hS)) ?_
    intro r s' h
    match r, h with
    | .error e, h => exact (hCX H e s' h).elim
    | .ok (.ret u), h =>
      obtain ⟨v, H', os, bare, un, hok', r', q⟩ := h
      obtain rfl : v = .bl true := q
      obtain rfl : u = Value.bool true := r'
      refine ⟨rfl, OldK.of_keep fun b o e => ?_, os, bare⟩
      rcases hO b with z | ⟨ob, xs, z⟩
      · exact un.keep b o e z (no0 b) (by simp)
      · have e1 := (hok b _ z).1
        rw [e] at e1
        cases e1
        exact (hok' b _ (un.frzs b _ _ z)).1
  have rv := vals_ints hi
  cases hk : K.lookup a with
  | some o =>
    have e := KX a o hk
    rw [ha] at e
    cases e
    refine core (fun _ => none) (fun _ => .inl rfl) (.inr ⟨_, vs.toArray, _, hk, rfl, rfl, rfl, ?_, by simpa using rv⟩)
      (fun b u z => nomatch (show (none : Option HO) = some u from z)) (fun b z => absurd rfl z) (fun z => absurd rfl z)
    rw [List.size_toArray, hi.length]
    exact hl
  | none =>
    refine core (fun b => if b = a then some (.frz { cls := .type "list", data := .seq vs.toArray } (.lst (ns.map V.int))) else none)
      (fun b => ?_) (.inl (.inr ⟨_, if_pos rfl⟩)) (fun b u z => ?_) (fun b z => ?_) (fun _ => hk)
    · by_cases hb : b = a
      · exact .inr ⟨_, _, if_pos hb⟩
      · exact .inl (if_neg hb)
    · by_cases hb : b = a
      · subst hb
        cases (if_pos rfl).symm.trans z
        exact ⟨ha, by rw [List.length_map]; exact hl, vs, _, rv, ha⟩
      · exact nomatch (if_neg hb).symm.trans z
    · by_cases hb : b = a
      · exact hb
      · exact absurd (if_neg hb) z

/-- the goal that the head leaves, from the law's promise -/
theorem walk_ofG {l : PySem.W.OpenLaw} {n k : Nat} {q : Program} {loose : List Str}
    {XP : (Str → Option Value) → Heap → Prop} {YP : World → Heap → Prop} {d : DefRec} {K : Params → PySem.W.Frag}
    {CX : CXT} {sp : PySem.W.Frag → Sp} {x : Str}
    (hn : l.most = some n) (hn2 : n ≤ sizeLine) (hdf : d.params.defaults = []) (hr : Room k callerA)
    (hi : importsNone q = true) (hY : ∀ (w : World) (h : Heap), YP w h → (K w.params).In h)
    (F : ∀ (w : World) (mg : Str → Option Value) (fa : Addr) (h : Heap), (K w.params).In h → h.Ns mainGlobals mg →
      mg d.name = some (.ref fa) → ∃ fd : FuncData, (∀ (s : Shared) (u : Value), BindsTo s fd ⟨[u], []⟩ [(x, u)]) ∧
        ∀ base : Heap, (K w.params).In base → base.Ns mainGlobals mg → (∃ mm, base.Ns sysModules mm) →
          FnG l.prog w (K w.params) mg base CX k fa fd [x] (sp (K w.params)))
    (hsp : ∀ (K : PySem.W.Frag) (H : Hp) (a : Addr) (ns : List Int), ns.length ≤ n → Only H → SqL K H a (ns.map V.int) →
      sp K [.ref a] H (fun v _ => v = .bl true) fun _ _ _ => False)
    (hCX : ∀ (H : Hp) (s : Shared) (e : Value) (s' : Shared), CX [] H s (fun _ _ _ => False) e s' → False) :
    PySem.W.WalkO q loose XP YP l.row.toRowW d [] (fun f vs => PySem.call f vs) := by
  refine Att.attach_call hn hdf fun w s₀ s₁ mg mb fa o pm cd doc a vs ns G Y ho hd hcd hmg hobj hints hlen hg => ?_
  have KX := hY w _ Y
  obtain ⟨fd, hb, hF⟩ := F w mg fa _ KX G.T.g hmg
  exact law_callG KX G.T.g G.T.b G.T.builtins G.T.nolimit hg hobj hints (Nat.le_trans hlen hn2) hr
    (G.T.seer hi |>.mods.elim fun mm h => ⟨mm, h.1⟩) hF hb (fun H hO hS => hsp _ H a ns hlen hO hS) (fun H e s' => hCX H s₁ e s')

/-! ### xs[i] op= e -/
section
variable {X : Cx}
theorem get_list : PGet X (rIxL X.K) := by
  intro pins s σ H o i ov iv Q I ro ri h
  obtain ⟨p, xs, k, z, rfl, rfl, hq, he, q⟩ := h
  cases ro
  obtain ⟨t, rfl⟩ := ri
  obtain ⟨its, r, pl, hz⟩ := I.list hq
  obtain ⟨j, h1, h2, h3, h4, h5⟩ := atI_get he
  obtain ⟨w, ew, rw'⟩ := r.get h2
  have hl := r.length
  have hn := line63
  have fin : EP X pins σ Q w s := ⟨z, H, I, rw', q⟩
  by_cases h0 : 0 ≤ k
  · have hj : k.toNat = j := by
      rw [seqIndex_of h0 h5] at h1
      exact Option.some.inj h1
    exact wpAny_getItem_list pl.isList h0 (by omega) (by rw [hj]; simpa using ew) fin
  · have hj : (k + (its.toArray.size : Int)).toNat = j := by
      rw [seqIndex_neg (by omega) h4] at h1
      rw [List.size_toArray, ← hl]
      exact Option.some.inj h1
    exact wpAny_getItem_list_neg pl.isList (by omega) (by rw [List.size_toArray] <;> omega) (by omega)
      (by rw [hj]; simpa using ew) fin
end
end My
set_option Elab.async false
set_option linter.all false
set_option maxRecDepth 100000
set_option maxHeartbeats 4000000
/-! repr of data -/
namespace My
open PySem PySem.Spec PyProof.Rows L2
/-- a key as data -/
def kD : Key → PyData
  | .inl i => .int i
  | .inr x => .str x
mutual
/-- data, dicts too -/
inductive Dx (K : PySem.W.Frag) (H : Hp) : V → PyData → Prop
  | non : Dx K H .non .none
  | bl (b : Bool) : Dx K H (.bl b) (.bool b)
  | int (i : Int) : Dx K H (.int i) (.int i)
  | str (x : Str) : Dx K H (.str x) (.str x)
  | lst {a : Addr} {xs : List V} {ds : List PyData} : SqL K H a xs → Dxs K H xs ds → Dx K H (.ref a) (.list ds)
  | tup {a : Addr} {xs : List V} {ds : List PyData} : SqT K H a xs → Dxs K H xs ds → Dx K H (.ref a) (.tuple ds)
  | dic {a : Addr} {kvs : List (Key × V)} {ds : List (PyData × PyData)} : Rd H a (.dK kvs) →
      ds.map (·.1) = kvs.map (fun p => kD p.1) → Dxs K H (kvs.map (·.2)) (ds.map (·.2)) → Dx K H (.ref a) (.dict ds)
inductive Dxs (K : PySem.W.Frag) (H : Hp) : List V → List PyData → Prop
  | nil : Dxs K H [] []
  | cons {v : V} {vs : List V} {d : PyData} {ds : List PyData} : Dx K H v d → Dxs K H vs ds → Dxs K H (v :: vs) (d :: ds)
end
theorem Rd.same {H H' : Hp} {a : Addr} {u : HO} (e : Same H H') (h : Rd H a u) : Rd H' a u :=
  h.elim (fun h => .inl (e _ _ h)) (fun ⟨o, h⟩ => .inr ⟨o, e _ _ h⟩)
theorem sqT_same {K : PySem.W.Frag} {H H' : Hp} {a : Addr} {xs : List V} (e : Same H H') (h : SqT K H a xs) : SqT K H' a xs :=
  h.elim (fun h => .inl (Rd.same e h)) .inr
mutual
theorem Dx.same {K : PySem.W.Frag} {H H' : Hp} (e : Same H H') : ∀ {v : V} {d : PyData}, Dx K H v d → Dx K H' v d
  | _, _, .non => .non
  | _, _, .bl b => .bl b
  | _, _, .int i => .int i
  | _, _, .str x => .str x
  | _, _, .lst h t => .lst (e.seq h) (Dxs.same e t)
  | _, _, .tup h t => .tup (sqT_same e h) (Dxs.same e t)
  | _, _, .dic h k t => .dic (Rd.same e h) k (Dxs.same e t)
theorem Dxs.same {K : PySem.W.Frag} {H H' : Hp} (e : Same H H') : ∀ {vs : List V} {ds : List PyData}, Dxs K H vs ds → Dxs K H' vs ds
  | _, _, .nil => .nil
  | _, _, .cons a b => .cons (Dx.same e a) (Dxs.same e b)
end
mutual
theorem Dx.ofDp {K : PySem.W.Frag} {H : Hp} : ∀ {v : V} {d : PyData}, Dp K H v d → Dx K H v d
  | _, _, .non => .non
  | _, _, .bl b => .bl b
  | _, _, .int i => .int i
  | _, _, .str x => .str x
  | _, _, .lst h t => .lst h (Dxs.ofDp t)
  | _, _, .tup h t => .tup h (Dxs.ofDp t)
theorem Dxs.ofDp {K : PySem.W.Frag} {H : Hp} : ∀ {vs : List V} {ds : List PyData}, DpAll K H vs ds → Dxs K H vs ds
  | _, _, .nil => .nil
  | _, _, .cons a b => .cons (Dx.ofDp a) (Dxs.ofDp b)
end
section
variable {X : Cx} {pins : List (Addr × Obj)} {σ : L2.St} {H : Hp} {s : Shared}
/-- no list stands at sys.modules -/
theorem no_sys (I : Inv X pins σ H s) (hs : ∃ mm, X.base.Ns sysModules mm) {a : Addr} {xs : List V} (h : SqL X.K H a xs) : a ≠ sysModules := by
  rintro rfl
  obtain ⟨its, r, ⟨o, n, e, hc, _, hd⟩, _⟩ := I.list h
  obtain ⟨mm, o', es, ep, e', hd', _⟩ := hs
  have q := (I.bs _ _ e').1
  rw [e] at q
  cases q
  rw [hd] at hd'
  cases hd'
theorem pairs_read {P : Program} {w : World} {h : Heap} : ∀ {es : List DictEntry} {vs : List (Key × Value)} {kvs : List (Key × V)},
    Pairs (mixKind P w) es vs → KV kvs vs → ReadsAll h (es.map (·.key)) (kvs.map fun p => kD p.1) [] ∧ Vals (kvs.map (·.2)) (es.map (·.val))
  | _, _, _, .nil, kv => by
    cases kv
    exact ⟨.nil, .nil⟩
  | _, _, _, .cons (e := e) hk hv t, kv => by
    cases kv with
    | cons hq tq =>
      rename_i p pr
      obtain ⟨i1, i2⟩ := pairs_read (h := h) t tq
      obtain ⟨e1, r⟩ := hq
      refine ⟨?_, .cons (by show L2.RelV p.2 e.val; rw [hv]; exact r) i2⟩
      have hk' : keyIs p.1 e.key = true := by rw [e1]; exact hk
      rcases keyIs_shape hk' with ⟨i, t', e2, e3⟩ | ⟨x, t', e2, e3⟩
      · show ReadsAll h (e.key :: _) (kD p.1 :: _) ([] ++ [])
        rw [e2, e3]
        exact .cons (.int i t') i1
      · show ReadsAll h (e.key :: _) (kD p.1 :: _) ([] ++ [])
        rw [e2, e3]
        exact .cons (.str x t') i1
mutual
theorem Dx.reads (I : Inv X pins σ H s) (hs : ∃ mm, X.base.Ns sysModules mm) :
    ∀ {v : V} {d : PyData} {u : Value}, Dx X.K H v d → RelV v u → ∃ as, Reads s.heap u d as ∧ sysModules ∉ as
  | _, _, _, .non, r => by cases r; exact ⟨_, Reads.none, by simp⟩
  | _, _, _, .bl b, r => by cases r; exact ⟨_, Reads.bool b, by simp⟩
  | _, _, _, .int i, r => by obtain ⟨t, rfl⟩ := r; exact ⟨_, Reads.int i t, by simp⟩
  | _, _, _, .str x, r => by obtain ⟨t, rfl⟩ := r; exact ⟨_, Reads.str x t, by simp⟩
  | _, _, _, .lst h t, r => by
    cases r
    have na := no_sys I hs h
    obtain ⟨its, rv, ⟨o, n, ho, hc, _, hd⟩, _⟩ := I.list h
    obtain ⟨as, hr, ns⟩ := Dxs.reads I hs t rv
    refine ⟨_, Reads.list ho hc hd hr, fun z => ?_⟩
    rcases List.mem_cons.mp z with z | z
    · exact na z.symm
    · exact ns z
  | _, _, _, .tup h t, r => by
    cases r
    obtain ⟨its, rv, ⟨o, ho, hc, n, hd⟩, _⟩ := I.tuple h
    obtain ⟨as, hr, ns⟩ := Dxs.reads I hs t rv
    exact ⟨_, Reads.tuple ho hc hd hr, ns⟩
  | _, _, _, .dic (a := a) h k t, r => by
    cases r
    obtain ⟨_, na, vs, kv, o, es, ep, ho, hx, hd, _, hp, _⟩ := h.ok I.hok
    obtain ⟨q1, q2⟩ := pairs_read (h := s.heap) hp kv
    obtain ⟨as, hr, ns⟩ := Dxs.reads I hs t q2
    refine ⟨_, Reads.dict ho hx.1 hd (by rw [k]; exact q1) hr, fun z => ?_⟩
    rcases List.mem_cons.mp (show sysModules ∈ a :: as from z) with z | z
    · rw [← z] at na
      exact absurd na (by decide)
    · exact ns z
theorem Dxs.reads (I : Inv X pins σ H s) (hs : ∃ mm, X.base.Ns sysModules mm) :
    ∀ {vs : List V} {ds : List PyData} {us : List Value}, Dxs X.K H vs ds → Vals vs us → ∃ as, ReadsAll s.heap us ds as ∧ sysModules ∉ as
  | _, _, _, .nil, r => by cases r; exact ⟨_, ReadsAll.nil, by simp⟩
  | _, _, _, .cons h1 h2, r => by
    cases r with
    | cons r1 r2 =>
      obtain ⟨as, q1, n1⟩ := Dx.reads I hs h1 r1
      obtain ⟨bs, q2, n2⟩ := Dxs.reads I hs h2 r2
      exact ⟨_, ReadsAll.cons q1 q2, fun z => (List.mem_append.mp z).elim n1 n2⟩
end
end
/-- what repr asks of data -/
structure Shows (d : PyData) : Prop where
  able : d.showable = true
  size : d.shown.length ≤ sizeLine
  deep : d.depth ≤ 100
section
variable {X : Cx}
def rRepr (K : PySem.W.Frag) : List V → Hp → VK → Prop := fun xs H Q => ∃ v d, xs = [v] ∧ Dx K H v d ∧ Shows d ∧ Q (.str d.shown) H
theorem call_reprX (hg : X.A.guards = some []) (hu : X.A.units + 200 < cLine) (hs : ∃ mm, X.base.Ns sysModules mm) : CallR X (.builtin "repr") (rRepr X.K) := by
  intro pins s σ H xs us Q I r h
  obtain ⟨v, d, rfl, hd, hz, q⟩ := h
  obtain ⟨u, rfl, ru⟩ := vals1 r
  obtain ⟨as, hr, ns⟩ := Dx.reads I hs hd ru
  have fin : ∀ t : Nat, Inv X pins σ H { s with toks := t } := fun t => I.tok t
  cases hr with
  | none => exact PySem.P.repr_of_none ⟨.str _, H, fin _, ⟨_, rfl⟩, q⟩
  | bool b => exact PySem.P.repr_of_bool ⟨.str _, H, fin _, ⟨_, rfl⟩, q⟩
  | int i t => exact PySem.P.repr_of_int (by simpa [PyData.showable] using hz.able) ⟨.str _, H, fin _, ⟨_, rfl⟩, q⟩
  | str x t => exact PySem.P.repr_of_str ⟨.str _, H, fin _, ⟨_, rfl⟩, q⟩ hz.size
  | list h1 h2 h3 h4 =>
    exact repr_of_reads' (.list h1 h2 h3 h4) hz.able (fun _ => ns) hg (by have := hz.deep; omega) (fun _ _ e => e)
      (fun h' u' tk hk => ⟨.str _, H, I.kept hk, ⟨_, rfl⟩, q⟩) hz.size
  | tuple h1 h2 h3 h4 =>
    exact repr_of_reads' (.tuple h1 h2 h3 h4) hz.able (fun _ => ns) hg (by have := hz.deep; omega) (fun _ _ e => e)
      (fun h' u' tk hk => ⟨.str _, H, I.kept hk, ⟨_, rfl⟩, q⟩) hz.size
  | dict h1 h2 h3 h4 h5 =>
    exact repr_of_reads' (.dict h1 h2 h3 h4 h5) hz.able (fun _ => ns) hg (by have := hz.deep; omega) (fun _ _ e => e)
      (fun h' u' tk hk => ⟨.str _, H, I.kept hk, ⟨_, rfl⟩, q⟩) hz.size
end
end My
set_option Elab.async false
set_option linter.all false
set_option maxRecDepth 100000
set_option maxHeartbeats 4000000
/-! the law's bag and its draws -/
namespace My
open PySem PySem.Spec PyProof.Rows L2
/-- a bag stands at b -/
structure Bag (H : Hp) (b : Addr) (x y z : Int) (L : Addr) (cs : List Int) : Prop where
  at_ : H b = some (.lst [.int x, .int y, .int z, .ref L])
  cells : H L = some (.lst (cs.map V.int))
  x0 : 0 ≤ x
  z0 : 0 ≤ z
  c0 : ∀ c ∈ cs, 0 ≤ c
theorem Bag.ne {H : Hp} {b : Addr} {x y z : Int} {L : Addr} {cs : List Int} (B : Bag H b x y z L cs) : L ≠ b := by
  rintro rfl
  have h := B.at_.symm.trans B.cells
  have e : ([.int x, .int y, .int z, .ref L] : List V) = cs.map V.int := by injection Option.some.inj h
  have e3 := congrArg (fun l => l[3]?) e
  rw [List.getElem?_map] at e3
  cases q : cs[3]? with
  | none => rw [q] at e3; cases e3
  | some c => rw [q] at e3; cases e3
/-- which bag: its list, the list of its cells, these -/
structure BI where
  b : Addr
  L : Addr
  cs : List Int
def BagOk (H : Hp) (B : BI) : Prop := ∃ x y z, Bag H B.b x y z B.L B.cs
theorem Bag.put {H : Hp} {b : Addr} {x y z : Int} {L : Addr} {cs : List Int} (B : Bag H b x y z L cs) {x' y' z' : Int} (h1 : 0 ≤ x') (h3 : 0 ≤ z') :
    Bag (upd H b (.lst [.int x', .int y', .int z', .ref L])) b x' y' z' L cs :=
  ⟨upd_same, by rw [upd_ne B.ne]; exact B.cells, h1, h3, B.c0⟩
/-- a heap without one address -/
def hid (b : Addr) (H : Hp) : Hp := fun a => if a = b then none else H a
theorem hid_ne {b a : Addr} {H : Hp} (h : a ≠ b) : hid b H a = H a := if_neg h
theorem hid_at {b : Addr} {H : Hp} : hid b H b = none := if_pos rfl
theorem hid_upd {b : Addr} {H : Hp} {o : HO} : hid b (upd H b o) = hid b H := by
  funext a
  unfold hid upd
  split <;> rfl
theorem hid_new {b p : Addr} {H : Hp} {o : HO} (h : p ≠ b) : hid b (upd H p o) = upd (hid b H) p o := by
  funext a
  by_cases e : a = b
  · subst e
    rw [hid_at, upd_ne (Ne.symm h), hid_at]
  · rw [hid_ne e]
    by_cases q : a = p
    · subst q
      rw [upd_same, upd_same]
    · rw [upd_ne q, upd_ne q, hid_ne e]
theorem hid_same {b : Addr} {H : Hp} : Same (hid b H) H := fun a o h => by
  by_cases e : a = b
  · subst e
    rw [hid_at] at h
    cases h
  · rw [hid_ne e] at h
    exact h
/-- all but the bag at b is as it was -/
def Keep (b : Addr) (H H' : Hp) : Prop := Same (hid b H) (hid b H')
theorem Keep.refl {b : Addr} {H : Hp} : Keep b H H := Same.refl _
theorem Keep.trans {b : Addr} {H H1 H2 : Hp} (h : Keep b H H1) (k : Keep b H1 H2) : Keep b H H2 := Same.trans h k
theorem Keep.bag {b : Addr} {H : Hp} {o : HO} : Keep b H (upd H b o) := by
  unfold Keep
  rw [hid_upd]
  exact Same.refl _
theorem Keep.of {b : Addr} {H H' : Hp} (h : Same H H') : Keep b H H' := fun a o e => by
  by_cases q : a = b
  · subst q
    rw [hid_at] at e
    cases e
  · rw [hid_ne q] at e ⊢
    exact h a o e
theorem Keep.get {b a : Addr} {H H' : Hp} {o : HO} (k : Keep b H H') (h : H a = some o) (n : a ≠ b) : H' a = some o := by
  have := k a o (by rw [hid_ne n]; exact h)
  rw [hid_ne n] at this
  exact this
theorem same_new {H : Hp} {p : Addr} {o : HO} (h : H p = none) : Same H (upd H p o) := fun a u e => by
  rw [upd_ne (ne_of_none e h)]
  exact e
theorem Keep.new {b p : Addr} {H H' : Hp} {o : HO} (k : Keep b H H') (h : H' p = none) : Keep b H (upd H' p o) := k.trans (Keep.of (same_new h))
/-- an object that was not there may change -/
theorem Keep.mut {b p : Addr} {H H' : Hp} {o : HO} (k : Keep b H H') (h : H p = none) : Keep b H (upd H' p o) := fun a u e => by
  by_cases q : a = b
  · subst q
    rw [hid_at] at e
    cases e
  · have e' := k a u e
    rw [hid_ne q] at e e' ⊢
    rw [upd_ne (ne_of_none e h)]
    exact e'
theorem Bag.same {H H' : Hp} {b : Addr} {x y z : Int} {L : Addr} {cs : List Int} (e : Same H H') (B : Bag H b x y z L cs) : Bag H' b x y z L cs :=
  ⟨e _ _ B.at_, e _ _ B.cells, B.x0, B.z0, B.c0⟩
theorem BagOk.same {H H' : Hp} {B : BI} (e : Same H H') (h : BagOk H B) : BagOk H' B :=
  let ⟨x, y, z, h⟩ := h
  ⟨x, y, z, h.same e⟩
theorem BagOk.new {H : Hp} {B : BI} {p : Addr} {o : HO} (h : BagOk H B) (hp : H p = none) : BagOk (upd H p o) B := h.same (same_new hp)
theorem BagOk.some {H : Hp} {B : BI} (h : BagOk H B) : H B.b ≠ none := by
  obtain ⟨x, y, z, h⟩ := h
  rw [h.at_]
  exact fun h => nomatch h
theorem BagOk.someL {H : Hp} {B : BI} (h : BagOk H B) : H B.L ≠ none := by
  obtain ⟨x, y, z, h⟩ := h
  rw [h.cells]
  exact fun h => nomatch h
theorem BagOk.ne {H : Hp} {B : BI} {p : Addr} (h : BagOk H B) (hp : H p = none) : p ≠ B.b := fun e => h.some (e ▸ hp)
theorem BagOk.neL {H : Hp} {B : BI} {p : Addr} (h : BagOk H B) (hp : H p = none) : p ≠ B.L := fun e => h.someL (e ▸ hp)
/-- what is neither the bag nor its cells may change -/
theorem BagOk.mut {H : Hp} {B : BI} {p : Addr} {o : HO} (h : BagOk H B) (h1 : p ≠ B.b) (h2 : p ≠ B.L) : BagOk (upd H p o) B := by
  obtain ⟨x, y, z, h⟩ := h
  exact ⟨x, y, z, by rw [upd_ne (Ne.symm h1)]; exact h.at_, by rw [upd_ne (Ne.symm h2)]; exact h.cells, h.x0, h.z0, h.c0⟩
/-- _law_take's promise: any number below many -/
def spTake : Sp := fun vs H Q _ => ∃ (B : BI) (many : Int), vs = [.ref B.b, .int many] ∧ BagOk H B ∧ 0 < many ∧ many < 2 ^ 60 ∧
  ∀ (v : Int) (o : HO), 0 ≤ v → v < many → BagOk (upd H B.b o) B → Q (.int v) (upd H B.b o)
/-- a comprehension in which the bag is drawn from: I by the turn, the list so far, the heap without both -/
theorem lc_bag {J : It} {n : Nat} {G : Hp → Prop} {Y : Nat → Hp → V → Hp → Prop} (w : Walk J n G Y) {g : TG} {tt : TT} {te : TE} {vs : List Nat} {σ : L2.St} {H1 : Hp} {D : Addr} {Qd : Hp → Prop} {B : BI}
    (hn : n ≤ sizeLine) (hD : H1 D = none) (hB : BagOk H1 B) (hG : ∀ H, Keep B.b H1 H → G H) (I : Nat → List V → Hp → Prop) (h0 : I 0 [] (hid D (hid B.b H1)))
    (hs : ∀ i x H H' acc (R : VK) (Rn : Hp → Prop), i < n → Keep B.b H1 H → BagOk H B → H D = some (.lst acc) → I i acc (hid D (hid B.b H)) → Y i H x H' →
      (∀ y H4, Keep B.b H H4 → BagOk H4 B → I (i + 1) (acc ++ [y]) (hid D (hid B.b H4)) → R y H4) → (∀ H3, Keep B.b H H3 → BagOk H3 B → I (i + 1) acc (hid D (hid B.b H3)) → Rn H3) →
      g x (wipe σ vs) H' fun σ2 H2 => wipe σ2 vs = wipe σ vs ∧ tt σ2 H2 fun b H3 => if b = true then te σ2 H3 R else Rn H3)
    (hd : ∀ H acc, Keep B.b H1 H → BagOk H B → H D = some (.lst acc) → acc.length ≤ n → I n acc (hid D (hid B.b H)) → Qd H) :
    ∃ W : Nat → Nat → Hp → Prop, (∃ m, W 0 m (upd H1 D (.lst []))) ∧ ∀ i m H, W i m H →
      (J.stop i H ∧ Qd H) ∨ (J.go i H ∧ ∃ Nx : Hp → Prop, (∀ H', Nx H' → ∃ m', m' < m ∧ W (i + 1) m' H') ∧ ∀ x H', J.yld i H x H' → g x (wipe σ vs) H' fun σ2 H2 => wipe σ2 vs = wipe σ vs ∧ tt σ2 H2 fun b H3 =>
        if b = true then te σ2 H3 fun y H4 => ∃ acc, H4 D = some (.lst acc) ∧ acc.length < sizeLine ∧ Nx (upd H4 D (.lst (acc ++ [y]))) else Nx H3) := by
  have ne : D ≠ B.b := hB.ne hD
  have neL : D ≠ B.L := hB.neL hD
  have hh : ∀ (H : Hp) (o : HO), hid D (hid B.b (upd H D o)) = hid D (hid B.b H) := fun H o => by rw [hid_new ne, hid_upd]
  refine lc_it w (fun i H => Keep B.b H1 H ∧ BagOk H B ∧ ∃ acc, H D = some (.lst acc) ∧ acc.length ≤ i ∧ I i acc (hid D (hid B.b H)))
    ⟨Keep.of (same_new hD), hB.new hD, [], upd_same, Nat.le_refl _, by rw [hh]; exact h0⟩ (fun i H _ p => hG H p.1) (fun i x H H' hi p y => ?_) (fun H p => ?_)
  · obtain ⟨p1, p2, acc, p3, p4, p5⟩ := p
    refine hs i x H H' acc _ _ hi p1 p2 p3 p5 y (fun v H4 k1 k2 k3 => ⟨acc, k1.get p3 ne, Nat.lt_of_le_of_lt p4 (Nat.lt_of_lt_of_le hi hn), ?_, k2.mut ne neL, _, upd_same, ?_, ?_⟩)
      (fun H3 k1 k2 k3 => ⟨p1.trans k1, k2, acc, k1.get p3 ne, Nat.le_succ_of_le p4, k3⟩)
    · exact (p1.trans k1).mut hD
    · rw [List.length_append]
      exact Nat.succ_le_succ p4
    · rw [hh]
      exact k3
  · obtain ⟨p1, p2, acc, p3, p4, p5⟩ := p
    exact hd H acc p1 p2 p3 p4 p5
end My
set_option Elab.async false
set_option linter.all false
set_option maxRecDepth 100000
set_option maxHeartbeats 4000000
/-! data: types, comparisons with nothing, comprehensions -/
namespace My
open PySem PySem.Spec PyProof.Rows L2
def tyD : PyData → String
  | .none => "NoneType"
  | .bool _ => "bool"
  | .int _ => "int"
  | .str _ => "str"
  | .list _ => "list"
  | .tuple _ => "tuple"
  | .dict _ => "dict"
theorem Dx.ty {K : PySem.W.Frag} {H : Hp} {v : V} {d : PyData} (h : Dx K H v d) : TyX K H v (.type (tyD d)) := by
  cases h with
  | non => exact .base .non
  | bl b => exact .base (.bl b)
  | int i => exact .base (.int i)
  | str x => exact .base (.str x)
  | lst h _ =>
    rcases h with (h | ⟨o, h⟩) | ⟨o, its, n, h, c, _⟩
    · exact .base (.lst h)
    · exact .base (.frz h)
    · exact .kList h c
  | tup h _ =>
    rcases h with (h | ⟨o, h⟩) | ⟨o, its, n, h, c, _⟩
    · exact .base (.tup h)
    · exact .fTuple h
    · exact .kTuple h c
  | dic h _ _ =>
    rcases h with h | ⟨o, h⟩
    · exact .base (.dK h)
    · exact .fDict h
def isIntT : PyData → Bool
  | .int _ => true
  | .bool _ => true
  | _ => false
def isBoolT : PyData → Bool
  | .bool _ => true
  | _ => false
def isStrT : PyData → Bool
  | .str _ => true
  | _ => false
def isTupT : PyData → Bool
  | .tuple _ => true
  | _ => false
def isLstT : PyData → Bool
  | .list _ => true
  | _ => false
def isDicT : PyData → Bool
  | .dict _ => true
  | _ => false
theorem kit_int (d : PyData) : kitB (tyD d) "int" = some (isIntT d) := by cases d <;> (simp only [tyD, isIntT]; decide +kernel)
theorem kit_bool (d : PyData) : kitB (tyD d) "bool" = some (isBoolT d) := by cases d <;> (simp only [tyD, isBoolT]; decide +kernel)
theorem kit_str (d : PyData) : kitB (tyD d) "str" = some (isStrT d) := by cases d <;> (simp only [tyD, isStrT]; decide +kernel)
theorem kit_tuple (d : PyData) : kitB (tyD d) "tuple" = some (isTupT d) := by cases d <;> (simp only [tyD, isTupT]; decide +kernel)
theorem kit_list (d : PyData) : kitB (tyD d) "list" = some (isLstT d) := by cases d <;> (simp only [tyD, isLstT]; decide +kernel)
theorem kit_dict (d : PyData) : kitB (tyD d) "dict" = some (isDicT d) := by cases d <;> (simp only [tyD, isDicT]; decide +kernel)
theorem isi_of {K : PySem.W.Frag} {H : Hp} {v : V} {d : PyData} {n : String} {b : Bool} {Q : VK} (h : Dx K H v d) (hk : kitB (tyD d) n = some b) (q : Q (.bl b) H) : rIsi K [v, .ty n] H Q :=
  ⟨v, .ty n, _, _, b, rfl, .ty n, h.ty, kit_ty hk, q⟩
/-! comparisons with an empty list, an empty tuple -/
section
variable {X : Cx}
def rEqNil (K : PySem.W.Frag) (neg : Bool) : R2 := fun x y H Q => ∃ a b xs, x = .ref a ∧ y = .ref b ∧ SqL K H a xs ∧ SqL K H b [] ∧ Q (.bl (if neg then !xs.isEmpty else xs.isEmpty)) H
theorem op_eqNil (hu : X.A.units < cLine) : OpR X (compareOp .Eq) (rEqNil X.K false) := by
  intro pins s σ H x y v u Q I rx ry h
  obtain ⟨a, b, xs, rfl, rfl, ha, hb, q⟩ := h
  cases rx
  cases ry
  obtain ⟨its, r, pl, _⟩ := I.list ha
  obtain ⟨its2, r2, pl2, _⟩ := I.list hb
  cases r2
  cases r with
  | nil => exact SeqAt.eq_listAt (e := fun _ => true) pl.isList pl2.isList rfl hu (fun j h1 _ => absurd h1 (Nat.not_lt_zero _)) ⟨.bl _, H, I, rfl, q⟩
  | cons r rs => exact SeqAt.eq_list_lengthsAt pl.isList pl2.isList (by simp) hu ⟨.bl _, H, I, rfl, q⟩
theorem op_neNil (hu : X.A.units < cLine) : OpR X (compareOp .NotEq) (rEqNil X.K true) := by
  intro pins s σ H x y v u Q I rx ry h
  obtain ⟨a, b, xs, rfl, rfl, ha, hb, q⟩ := h
  cases rx
  cases ry
  obtain ⟨its, r, pl, _⟩ := I.list ha
  obtain ⟨its2, r2, pl2, _⟩ := I.list hb
  cases r2
  cases r with
  | nil => exact SeqAt.RcNeAt.lists (e := fun _ => true) pl.isList pl2.isList rfl hu (fun j h1 _ => absurd h1 (Nat.not_lt_zero _)) _ _ _ _ ⟨.bl _, H, I, rfl, q⟩
  | cons r rs => exact SeqAt.RcNeAt.lists_lengths pl.isList pl2.isList (by simp) hu _ _ _ _ ⟨.bl _, H, I, rfl, q⟩
def rEqNilT (K : PySem.W.Frag) : R2 := fun x y H Q => ∃ a b xs, x = .ref a ∧ y = .ref b ∧ SqT K H a xs ∧ SqT K H b [] ∧ Q (.bl xs.isEmpty) H
theorem op_eqNilT (hu : X.A.units < cLine) : OpR X (compareOp .Eq) (rEqNilT X.K) := by
  intro pins s σ H x y v u Q I rx ry h
  obtain ⟨a, b, xs, rfl, rfl, ha, hb, q⟩ := h
  cases rx
  cases ry
  obtain ⟨its, r, ⟨o, e1, e2, n, e3⟩, _⟩ := I.tuple ha
  obtain ⟨its2, r2, ⟨o2, f1, f2, n2, f3⟩, _⟩ := I.tuple hb
  cases r2
  refine SeqAt.eq_tupleAt (e := fun _ => true) (items := its.toArray) (items2 := #[]) ⟨o, e1, e2, n, e3⟩ ⟨o2, f1, f2, n2, f3⟩ hu (fun j _ h2 => absurd h2 (Nat.not_lt_zero _)) ?_
  cases r with
  | nil => exact ⟨.bl _, H, I, rfl, q⟩
  | cons r rs => exact ⟨.bl _, H, I, by simp; rfl, q⟩
end
/-! comprehensions -/
section
variable {J : It} {n : Nat} {G : Hp → Prop} {Y : Nat → Hp → V → Hp → Prop}
theorem range_succ_filterMap (f : Nat → Option V) (i : Nat) : (List.range (i + 1)).filterMap f = (List.range i).filterMap f ++ (f i).toList := by
  rw [List.range_succ, List.filterMap_append]
  cases h : f i <;> simp [h]
/-- [.. for x in ..]: the values by the turn, none where the test says no; nothing that stood is changed -/
theorem lc_map (w : Walk J n G Y) {g : TG} {tt : TT} {te : TE} {vs : List Nat} {σ : L2.St} {H1 : Hp} {D : Addr} {Qd : Hp → Prop} (hn : n ≤ sizeLine) (hD : H1 D = none)
    (hG : ∀ H, Same H1 H → G H) (f : Nat → Option V)
    (hs : ∀ i x H H' (R : VK) (Rn : Hp → Prop), i < n → Same H1 H → Y i H x H' → (∀ y H4, f i = some y → Same H H4 → R y H4) → (∀ H3, f i = none → Same H H3 → Rn H3) →
      g x (wipe σ vs) H' fun σ2 H2 => wipe σ2 vs = wipe σ vs ∧ tt σ2 H2 fun b H3 => if b = true then te σ2 H3 R else Rn H3)
    (hd : ∀ H, Same H1 H → H D = some (.lst ((List.range n).filterMap f)) → Qd H) :
    ∃ W : Nat → Nat → Hp → Prop, (∃ m, W 0 m (upd H1 D (.lst []))) ∧ ∀ i m H, W i m H →
      (J.stop i H ∧ Qd H) ∨ (J.go i H ∧ ∃ Nx : Hp → Prop, (∀ H', Nx H' → ∃ m', m' < m ∧ W (i + 1) m' H') ∧ ∀ x H', J.yld i H x H' → g x (wipe σ vs) H' fun σ2 H2 => wipe σ2 vs = wipe σ vs ∧ tt σ2 H2 fun b H3 =>
        if b = true then te σ2 H3 fun y H4 => ∃ acc, H4 D = some (.lst acc) ∧ acc.length < sizeLine ∧ Nx (upd H4 D (.lst (acc ++ [y]))) else Nx H3) := by
  refine lc_it w (fun i H => Same H1 H ∧ H D = some (.lst ((List.range i).filterMap f))) ⟨same_new hD, upd_same⟩ (fun i H _ p => hG H p.1) (fun i x H H' hi p y => ?_) (fun H p => hd H p.1 p.2)
  refine hs i x H H' _ _ hi p.1 y (fun v H4 q1 q2 => ⟨_, q2 _ _ p.2, ?_, fun a o e => ?_, ?_⟩) (fun H3 q1 q2 => ⟨p.1.trans q2, ?_⟩)
  · refine Nat.lt_of_le_of_lt (Nat.le_trans (List.length_filterMap_le _ _) ?_) (Nat.lt_of_lt_of_le hi hn)
    rw [List.length_range]
    exact Nat.le_refl _
  · rw [upd_ne (ne_of_none e hD)]
    exact q2 _ _ (p.1 a o e)
  · rw [upd_same, range_succ_filterMap, q1]
    rfl
  · rw [range_succ_filterMap, q1]
    exact (q2 _ _ p.2).trans (by rw [Option.toList_none, List.append_nil])
end
end My
set_option Elab.async false
set_option linter.all false
set_option maxRecDepth 100000
set_option maxHeartbeats 4000000
namespace My
open PySem PySem.Spec PyProof.Rows L2
theorem range_bind {α : Type} (g : α → Option V) : ∀ xs : List α, (List.range xs.length).filterMap (fun i => (xs[i]?).bind g) = xs.filterMap g
  | [] => rfl
  | x :: xs => by
    have ih := range_bind g xs
    rw [List.length_cons, List.range_succ_eq_map, List.filterMap_cons, List.filterMap_map]
    have e : ((fun i => ((x :: xs)[i]?).bind g) ∘ Nat.succ) = fun i => (xs[i]?).bind g := by
      funext i
      simp
    rw [e, ih]
    simp [List.filterMap_cons]
theorem range_map {α : Type} (g : α → V) (xs : List α) : (List.range xs.length).filterMap (fun i => (xs[i]?).map g) = xs.map g := by
  have h := range_bind (fun x => some (g x)) xs
  rw [List.filterMap_eq_map'] at h
  rw [← h]
  congr 1
  funext i
  cases xs[i]? <;> rfl
theorem Dxs.length {K : PySem.W.Frag} {H : Hp} : ∀ {vs : List V} {ds : List PyData}, Dxs K H vs ds → vs.length = ds.length
  | _, _, .nil => rfl
  | _, _, .cons _ t => congrArg Nat.succ (Dxs.length t)
theorem Dxs.get {K : PySem.W.Frag} {H : Hp} : ∀ {vs : List V} {ds : List PyData} {i : Nat} {v : V}, Dxs K H vs ds → vs[i]? = some v → ∃ d, ds[i]? = some d ∧ Dx K H v d
  | _, _, _, _, .nil, e => by simp at e
  | _, _, 0, _, .cons h _, e => by
    simp at e
    subst e
    exact ⟨_, rfl, h⟩
  | _, _, i + 1, v, .cons _ t, e => by
    obtain ⟨d, h1, h2⟩ := Dxs.get (i := i) (v := v) t (by simpa using e)
    exact ⟨d, by simpa using h1, h2⟩
theorem weight_mem {d : PyData} : ∀ {ds : List PyData}, d ∈ ds → d.weight ≤ PyData.weightAll ds
  | x :: r, h => by
    rw [PyData.weightAll]
    rcases List.mem_cons.mp h with rfl | h
    · omega
    · have := weight_mem h
      omega
theorem weight_len : ∀ ds : List PyData, ds.length ≤ PyData.weightAll ds
  | [] => Nat.le_refl _
  | x :: r => by
    rw [PyData.weightAll, List.length_cons]
    have := weight_len r
    omega
theorem line200 {n : Nat} (h : n ≤ 200000) : n ≤ sizeLine := Nat.le_trans h (by decide)
section
variable {K : PySem.W.Frag} {a b : Addr} {xs ys : List V}
theorem walk_zipT {n : Nat} (hn : n = min xs.length ys.length) : Walk (RZ.ItzT K a b) n (fun H => SqT K H a xs ∧ SqT K H b ys) (YPair (fun i => xs[i]?) (fun i => ys[i]?)) := by
  subst hn
  refine ⟨fun i _ hi q => ?_, fun _ q => ⟨xs, ys, q.1, q.2, by omega⟩, fun i H v H' _ q y => ?_⟩
  · have h1 : i < xs.length := by omega
    have h2 : i < ys.length := by omega
    exact ⟨xs, ys, xs[i], ys[i], q.1, q.2, List.getElem?_eq_getElem h1, List.getElem?_eq_getElem h2⟩
  · obtain ⟨T, x, y, h1, h2, h3, h4, h5⟩ := y
    exact ⟨T, x, y, h1, h2, h3, h4 xs q.1, h5 ys q.2⟩
theorem cut_from1 (xs : List V) : cutV xs (some 1) none = xs.drop 1 := by
  unfold cutV
  rw [show HT.sIx xs.length 0 (some 1) = min 1 xs.length from HT.sIx_nat xs.length 0 1, HT.sIx_none]
  cases xs with
  | nil => rfl
  | cons x r =>
    have e : min 1 (x :: r).length = 1 := by rw [List.length_cons]; omega
    rw [e, List.length_cons, Nat.add_sub_cancel]
    exact List.take_length
end
end My
set_option Elab.async false
set_option linter.all false
set_option maxRecDepth 100000
set_option maxHeartbeats 4000000
namespace My
open PySem PySem.Spec PyProof.Rows L2
/-- a text of at most n plain signs -/
def TxOk (n : Nat) (x : Str) : Prop := x.length ≤ n ∧ ∀ c ∈ x.cps.toList, c < 128
theorem TxOk.mono {n m : Nat} {x : Str} (h : TxOk n x) (k : n ≤ m) : TxOk m x := ⟨Nat.le_trans h.1 k, h.2⟩
theorem TxOk.app {n m : Nat} {x y : Str} (h : TxOk n x) (k : TxOk m y) : TxOk (n + m) (x ++ y) := by
  refine ⟨by rw [PySem.strLen_append]; exact Nat.add_le_add h.1 k.1, fun c hc => ?_⟩
  have e : (x ++ y).cps.toList = x.cps.toList ++ y.cps.toList := by
    show (x.cps ++ y.cps).toList = _
    exact Array.toList_append
  rw [e] at hc
  exact (List.mem_append.mp hc).elim (h.2 c) (k.2 c)
theorem TxOk.cut {n : Nat} {x : Str} (h : TxOk n x) (lo hi : Option Int) : TxOk n (cutS x lo hi) :=
  ⟨Nat.le_trans (cutS_length x lo hi) h.1, fun c hc => h.2 c (List.mem_of_mem_drop (List.mem_of_mem_take (show c ∈ (x.cps.toList.drop _).take _ from hc)))⟩
theorem TxOk.one {c : Nat} (h : c < 128) : TxOk 1 ⟨#[c]⟩ := ⟨Nat.le_refl _, fun d hd => by
  have e : d = c := by simpa using hd
  rw [e]
  exact h⟩
theorem TxOk.join : ∀ {ys : List Str}, (∀ y ∈ ys, TxOk 1 y) → TxOk ys.length (Txt.join "" ys)
  | ys, h => by
    rw [TL.join_eq]
    induction ys with
    | nil => exact ⟨Nat.le_refl _, fun c hc => absurd hc (by decide +kernel +revert)⟩
    | cons x r ih =>
      cases r with
      | nil => exact h x List.mem_cons_self
      | cons y r =>
        have h1 := ih fun z hz => h z (List.mem_cons_of_mem _ hz)
        have h2 : TxOk 1 (x ++ ("" : Str)) := by
          have := (h x List.mem_cons_self).app (y := ("" : Str)) (m := 0) ⟨Nat.le_refl _, fun c hc => absurd hc (by decide +kernel +revert)⟩
          exact this
        have h3 := h2.app h1
        rw [Nat.add_comm] at h3
        exact h3
theorem atI_ex {α : Type} {l : List α} {v : Int} (h0 : 0 ≤ v) (h1 : v < l.length) : ∃ c, atI l v = some c ∧ c ∈ l := by
  have h2 : v.toNat < l.length := by omega
  refine ⟨l[v.toNat], ?_, List.getElem_mem h2⟩
  have := atI_nat (List.getElem?_eq_getElem h2)
  rwa [Int.toNat_of_nonneg h0] at this
theorem sumlen_le {ys : List Str} {n : Nat} (h : ∀ y ∈ ys, TxOk n y) : (ys.map (·.length)).sum ≤ ys.length * n := by
  induction ys with
  | nil => exact Nat.zero_le _
  | cons x r ih =>
    have h1 := ih fun z hz => h z (List.mem_cons_of_mem _ hz)
    have h2 := (h x List.mem_cons_self).1
    rw [List.map_cons, List.sum_cons, List.length_cons, Nat.succ_mul]
    omega
/-- _law_bag's promise -/
def spBag (K : PySem.W.Frag) : Sp := fun vs H Q _ => ∃ (a : Addr) (ns : List Int), vs = [.ref a] ∧ SqL K H a (ns.map V.int) ∧ ns.length ≤ 63 ∧
  ∀ (B : BI) (H' : Hp), Same H H' → H B.b = none → BagOk H' B → Q (.ref B.b) H'
theorem cut_ints (ns : List Int) (lo hi : Option Int) : ∃ ms : List Int, cutV (ns.map V.int) lo hi = ms.map V.int := by
  refine ⟨(ns.drop (HT.sIx (ns.map V.int).length 0 lo)).take (HT.sIx (ns.map V.int).length (ns.map V.int).length hi - HT.sIx (ns.map V.int).length 0 lo), ?_⟩
  unfold cutV
  rw [List.map_take, List.map_drop]
end My
set_option Elab.async false
set_option linter.all false
set_option maxRecDepth 100000
set_option maxHeartbeats 4000000
namespace My
open PySem PySem.Spec PyProof.Rows L2
/-! t * k, k great -/
def rRepW (K : PySem.W.Frag) : R2 := fun x y H Q => ∃ l k xs, x = .ref l ∧ y = .int k ∧ SqT K H l xs ∧ xs ≠ [] ∧ 2 ≤ k ∧ k ≤ 100000 ∧ xs.length ≤ 10 ∧
  ∀ p, H p = none → Q (.ref p) (upd H p (.tup (List.replicate k.toNat xs).flatten))
theorem op_repW {X : Cx} : OpR X (binaryOp .Mult) (rRepW X.K) := by
  intro pins s σ H x y v u Q I rx ry h
  obtain ⟨l, k, xs, rfl, rfl, hT, hne, h1, h2, hz, q⟩ := h
  cases rx
  obtain ⟨t, rfl⟩ := ry
  obtain ⟨its, r, ⟨⟨cls, dd, data, sl⟩, ho, hc, n, hd⟩, hs⟩ := I.tuple hT
  simp only at hc hd
  subst hc hd
  have hle : its.length = xs.length := r.length.symm
  have hi : its.toArray.isEmpty = false := by
    cases r with
    | nil => exact absurd rfl hne
    | cons a b => rfl
  have hsz0 : its.toArray.size = xs.length := by rw [List.size_toArray, hle]
  have hm : ((its.toArray.size : Nat) : Int) * k ≤ 1000000 := by
    rw [hsz0]
    have a1 : ((xs.length : Nat) : Int) * k ≤ 10 * k := Int.mul_le_mul_of_nonneg_right (by omega) (by omega)
    omega
  have hb : k.toNat * xs.length ≤ 100000 * 10 := Nat.mul_le_mul (by omega) hz
  have flen : (List.replicate k.toNat its).flatten.length ≤ sizeLine := by
    rw [PyProof.Rows.lm_len_rep_flat, hle, sizeLine_eq]
    omega
  have c0 : (decide (k < -(2 ^ 63)) || decide (k ≥ 2 ^ 63)) = false := by
    rw [decide_eq_false (by omega), decide_eq_false (by omega)]
    rfl
  have c1 : (its.toArray.isEmpty || k == 1) = false := by
    rw [hi, Bool.false_or]
    exact beq_eq_false_iff_ne.mpr (by omega)
  have c2 : (decide (k ≤ 0) || its.toArray.isEmpty) = false := by
    rw [hi, Bool.or_false]
    exact decide_eq_false (by omega)
  have c4 : Builtin.Tuple.tupleTooMany (((its.toArray.size : Nat) : Int) * k) = false := by
    unfold Builtin.Tuple.tupleTooMany
    rw [sizeLine_eq]
    exact decide_eq_false (by omega)
  have M := tuple_mulW l its.toArray n dd sl k t c0 c1 c2 (by omega) c4 (by rw [size_rep, List.size_toArray]; exact flen)
  refine wpAny_binaryOp_repeat_ref (T := "tuple") (U := "int") (by decide) ⟨_, ho, rfl⟩ (fun s' => typeIs_int s' k t)
    noFill_tuple_mul F.fills_int_mul F.slot_int_rmul repeat_tuple F.slot_int_index.lookup
    (call_meets F.slot_int_rmul (typeIs_int s k t) F.entry_int_rmul (F.args_int_rmul_2 _ _) (int_rmul_tuple k t l its.toArray n dd sl)
      ⟨ho, rfl, ⟨_, ho, rfl⟩, call_meets F.slot_tuple_mul ⟨_, ho, rfl⟩ F.entry_tuple_mul (F.args_tuple_mul_2 _ _) M ⟨ho, ?_⟩⟩)
  rw [size_rep]
  have hlen : (List.replicate k.toNat xs).flatten.length ≤ sizeLine := by
    rw [PyProof.Rows.lm_len_rep_flat, sizeLine_eq]
    omega
  exact ⟨.ref s.heap.objs.size, _, I.laid (t' := s.toks) (o := .tup (List.replicate k.toNat xs).flatten) (fun b ob q => Heap.get?_push_of_some _ q) (Nat.le_refl _)
    ⟨hlen, _, r.rep k.toNat, IsTup.new _ _⟩, rfl, q _ (I.hok.fresh (Nat.le_refl _))⟩

/-! ### expressions that make data, the bag of B standing by -/
/-- what is new since Hs -/
def vis (Hs H : Hp) : Hp := fun a => if (Hs a).isSome then none else H a
theorem vis_get {Hs H : Hp} {p : Addr} {o : HO} (n : Hs p = none) (h : H p = some o) : vis Hs H p = some o := by
  unfold vis
  rw [n]
  exact h
theorem vis_of {Hs H : Hp} {p : Addr} {o : HO} (h : vis Hs H p = some o) : Hs p = none ∧ H p = some o := by
  unfold vis at h
  cases q : Hs p with
  | none =>
    rw [q] at h
    exact ⟨rfl, h⟩
  | some u =>
    rw [q] at h
    cases h
theorem vis_same {Hs H : Hp} : Same (vis Hs H) H := fun a o h => (vis_of h).2
theorem vis_hid {Hs H : Hp} {B : BI} (hs : BagOk Hs B) : Same (vis Hs H) (hid B.b H) := fun a o h => by
  have n : a ≠ B.b := fun e => hs.some (e ▸ (vis_of h).1)
  rw [hid_ne n]
  exact (vis_of h).2
theorem vis_keep {Hs H H' : Hp} {B : BI} (hs : BagOk Hs B) (k : Keep B.b H H') : Same (vis Hs H) (vis Hs H') := fun a o h =>
  vis_get (vis_of h).1 (k.get (vis_of h).2 (fun e => hs.some (e ▸ (vis_of h).1)))
theorem Keep.fresh {H H' : Hp} {B : BI} {p : Addr} (k : Keep B.b H H') (hB : BagOk H' B) (h : H' p = none) : H p = none := by
  cases q : H p with
  | none => rfl
  | some o =>
    rw [k.get q (hB.ne h)] at h
    cases h
/-- te gives data d, new since Hs; nothing but the bag is changed -/
def Db (K : PySem.W.Frag) (B : BI) (Hs : Hp) (te : TE) (σ : L2.St) (H0 : Hp) (d : PyData) : Prop := ∀ H, Keep B.b Hs H → Keep B.b H0 H → BagOk H B → ∀ Q : VK,
  (∀ v H', Keep B.b H H' → BagOk H' B → Dx K (vis Hs H') v d → Q v H') → te σ H Q
def Dbs (K : PySem.W.Frag) (B : BI) (Hs : Hp) (ta : TA) (σ : L2.St) (H0 : Hp) (ds : List PyData) : Prop := ∀ H, Keep B.b Hs H → Keep B.b H0 H → BagOk H B → ∀ Q : List V → Hp → Prop,
  (∀ vs H', Keep B.b H H' → BagOk H' B → Dxs K (vis Hs H') vs ds → Q vs H') → ta σ H Q
section
variable {K : PySem.W.Frag} {B : BI} {σ : L2.St} {Hs H0 : Hp} {te : TE} {ta : TA} {d : PyData} {ds : List PyData}
theorem db_c {v : V} (h : ∀ H, Dx K H v d) : Db K B Hs (tC v) σ H0 d := fun H _ _ hB Q q => q _ H Keep.refl hB (h _)
theorem db_none : Db K B Hs (tC .non) σ H0 .none := db_c fun _ => .non
theorem db_bl {b : Bool} : Db K B Hs (tC (.bl b)) σ H0 (.bool b) := db_c fun _ => .bl b
theorem db_int {i : Int} : Db K B Hs (tC (.int i)) σ H0 (.int i) := db_c fun _ => .int i
theorem db_str {x : Str} : Db K B Hs (tC (.str x)) σ H0 (.str x) := db_c fun _ => .str x
theorem db_var {i : Nat} {v : V} (h : σ[i]? = some (some v)) (hs : BagOk Hs B) (hd : Dx K (vis Hs H0) v d) : Db K B Hs (tVar i) σ H0 d := fun H ss s hB Q q => ⟨v, h, q _ H Keep.refl hB (hd.same (vis_keep hs s))⟩
theorem db_neg {i : Int} : Db K B Hs (tUn (rU fun i => .int (-i)) (tC (.int i))) σ H0 (.int (-i)) := fun H _ _ hB Q q => ⟨i, rfl, q _ H Keep.refl hB (.int _)⟩
theorem db_pow {i j : Int} (h : CPow i j) : Db K B Hs (tOp (rI CPow fun i j => .int (i ^ j.toNat)) (tC (.int i)) (tC (.int j))) σ H0 (.int (i ^ j.toNat)) :=
  fun H _ _ hB Q q => ⟨i, j, rfl, rfl, h, q _ H Keep.refl hB (.int _)⟩
theorem db_negpow {i j : Int} (h : CPow i j) : Db K B Hs (tUn (rU fun i => .int (-i)) (tOp (rI CPow fun i j => .int (i ^ j.toNat)) (tC (.int i)) (tC (.int j)))) σ H0 (.int (-(i ^ j.toNat))) :=
  fun H _ _ hB Q q => ⟨i, j, rfl, rfl, h, _, rfl, q _ H Keep.refl hB (.int _)⟩
theorem dbs_nil : Dbs K B Hs tNil σ H0 [] := fun H _ _ hB Q q => q [] H Keep.refl hB .nil
theorem dbs_cons (hs : BagOk Hs B) (h : Db K B Hs te σ H0 d) (t : Dbs K B Hs ta σ H0 ds) : Dbs K B Hs (tCons te ta) σ H0 (d :: ds) := fun H ss s hB Q q =>
  h H ss s hB _ fun v H1 s1 hB1 hd => t H1 (ss.trans s1) (s.trans s1) hB1 _ fun vs H2 s2 hB2 hds => q _ H2 (s1.trans s2) hB2 (.cons (hd.same (vis_keep hs s2)) hds)
theorem hid_get {b p : Addr} {H : Hp} {o : HO} (n : p ≠ b) (h : H p = some o) : hid b H p = some o := by rw [hid_ne n]; exact h
theorem db_tup (hs : BagOk Hs B) (t : Dbs K B Hs ta σ H0 ds) (hl : ds.length ≤ sizeLine := by exact line200 (Nat.le_of_ble_eq_true rfl)) : Db K B Hs (tTup ta) σ H0 (.tuple ds) := fun H ss s hB Q q =>
  t H ss s hB _ fun vs H1 s1 hB1 hds => ⟨by rw [hds.length]; exact hl, fun p hp =>
    q _ _ (s1.new hp) (hB1.new hp) (.tup (SqT.of (vis_get ((ss.trans s1).fresh hB1 hp) upd_same)) (hds.same (vis_keep hs (Keep.refl.new hp))))⟩
theorem db_lst (hs : BagOk Hs B) (t : Dbs K B Hs ta σ H0 ds) (hl : ds.length ≤ sizeLine := by exact line200 (Nat.le_of_ble_eq_true rfl)) : Db K B Hs (tLst ta) σ H0 (.list ds) := fun H ss s hB Q q =>
  t H ss s hB _ fun vs H1 s1 hB1 hds => ⟨by rw [hds.length]; exact hl, fun p hp =>
    q _ _ (s1.new hp) (hB1.new hp) (.lst (SqL.of (vis_get ((ss.trans s1).fresh hB1 hp) upd_same)) (hds.same (vis_keep hs (Keep.refl.new hp))))⟩
theorem db_dnew : Db K B Hs tDNewK σ H0 (.dict []) := fun H ss s hB Q q p hp => q _ _ (Keep.refl.new hp) (hB.new hp) (.dic (.inl (vis_get (ss.fresh hB hp) upd_same)) rfl .nil)
theorem db_disp1 {x : Str} {i : Int} : Db K B Hs (tDisp [(tC (.str x), tC (.int i))]) σ H0 (.dict [(.str x, .int i)]) := fun H ss s hB Q q p hp =>
  ⟨upd_same, [(Sum.inr x, .int i)], rfl, Nat.le_of_ble_eq_true rfl, q _ _ ((Keep.refl.new hp).mut hp) ((hB.new hp).mut (hB.ne hp) (hB.neL hp))
    (.dic (kvs := [(Sum.inr x, .int i)]) (.inl (vis_get (ss.fresh hB hp) upd_same)) rfl (.cons (.int i) .nil))⟩
theorem dxs_rep {v : V} (h : Dx K H0 v d) : ∀ n : Nat, Dxs K H0 (List.replicate n [v]).flatten (List.replicate n d)
  | 0 => .nil
  | n + 1 => by
    rw [List.replicate_succ, List.flatten_cons, List.replicate_succ]
    exact .cons h (dxs_rep h n)
theorem db_rep {k : Int} (hs : BagOk Hs B) (h : Db K B Hs te σ H0 (.tuple [d])) (h2 : 2 ≤ k) (h3 : k ≤ 100000) : Db K B Hs (tOp (rRepW K) te (tC (.int k))) σ H0 (.tuple (List.replicate k.toNat d)) := fun H ss s hB Q q =>
  h H ss s hB _ fun v H1 s1 hB1 hd => by
    cases hd with
    | @tup a xs _ hq ht =>
      cases ht with
      | @cons v vs _ _ hv hr =>
        cases hr
        exact ⟨a, k, [v], rfl, rfl, sqT_same vis_same hq, by simp, h2, h3, Nat.le_of_ble_eq_true rfl, fun p hp =>
          q _ _ (s1.new hp) (hB1.new hp) (.tup (SqT.of (vis_get ((ss.trans s1).fresh hB1 hp) upd_same)) (dxs_rep (hv.same (vis_keep hs (Keep.refl.new hp))) _))⟩
end
/-! ### one layer of a reading off -/
theorem p_seq {t u : TS} {D : Ends} {σ : L2.St} {H : Hp} (h : t { D with nx := u D } σ H) : tSeq t u D σ H := h
theorem p_set {te : TE} {i : Nat} {D : Ends} {σ : L2.St} {H : Hp} (h : te σ H fun v H1 => D.nx (σ.set i (some v)) H1) : tAsg te (gName i) D σ H := h
theorem p_lst {ta : TA} {σ : L2.St} {H : Hp} {Q : VK} (h : ta σ H fun xs H1 => xs.length ≤ sizeLine ∧ ∀ p, H1 p = none → Q (.ref p) (upd H1 p (.lst xs))) : tLst ta σ H Q := h
theorem p_tup {ta : TA} {σ : L2.St} {H : Hp} {Q : VK} (h : ta σ H fun xs H1 => xs.length ≤ sizeLine ∧ ∀ p, H1 p = none → Q (.ref p) (upd H1 p (.tup xs))) : tTup ta σ H Q := h
theorem p_op {r : R2} {ta tb : TE} {σ : L2.St} {H : Hp} {Q : VK} (h : ta σ H fun x H1 => tb σ H1 fun y H2 => r x y H2 Q) : tOp r ta tb σ H Q := h
theorem p_var {i : Nat} {σ : L2.St} {H : Hp} {Q : VK} {v : V} (e : σ[i]? = some (some v)) (h : Q v H) : tVar i σ H Q := ⟨v, e, h⟩
theorem p_cons {te : TE} {ta : TA} {σ : L2.St} {H : Hp} {Q : List V → Hp → Prop} (h : te σ H fun x H1 => ta σ H1 fun xs H2 => Q (x :: xs) H2) : tCons te ta σ H Q := h
theorem p_ret {te : TE} {D : Ends} {σ : L2.St} {H : Hp} (h : te σ H D.rt) : tRet te D σ H := h
/-- what the law's values are like -/
structure Fine (n m : Nat) (d : PyData) : Prop where
  able : d.showable = true
  short : d.leavesShort 50 = true
  wt : d.weight ≤ n
  dp : d.depth ≤ m
theorem Fine.mono {n m n' m' : Nat} {d : PyData} (h : Fine n m d) (h1 : n ≤ n') (h2 : m ≤ m') : Fine n' m' d := ⟨h.able, h.short, Nat.le_trans h.wt h1, Nat.le_trans h.dp h2⟩
theorem Fine.shows {n m : Nat} {d : PyData} (h : Fine n m d) (h1 : n ≤ 200000) (h2 : m ≤ 100) : Shows d := by
  refine ⟨h.able, ?_, Nat.le_trans h.dp h2⟩
  have h3 := PyData.shown_le 50 (by decide) d h.short
  have h4 := h.wt
  rw [sizeLine_eq]
  omega
theorem Fine.str {x : Str} {n : Nat} (h : TxOk n x) : Fine n 0 (.str x) := by
  refine ⟨rfl, ?_, h.1, Nat.le_refl _⟩
  simp only [PyData.leavesShort, List.all_eq_true, decide_eq_true_eq]
  intro c hc
  exact Nat.lt_of_lt_of_le (h.2 c hc) (by decide)
end My
set_option Elab.async false
set_option linter.all false
set_option maxRecDepth 100000
set_option maxHeartbeats 4000000
namespace My
open PySem PySem.Spec PyProof.Rows L2
def topS (i : Nat) : Stmt := PySem.Challenge.pw_deadrows_k11_kinds_known.main.body.getD i (.Pass ⟨0, 0, 0, 0⟩)
abbrev sTake : Stmt := topS 9
theorem scTake : FnScope ["_law_bag_here", "_law_many", "_law_cell", "_law_mixed", "_law_value", "_law_begin", "_law_second"] ["_law_bag_here", "_law_many"] (defScope sTake) :=
  ⟨rfl, rfl, rfl, by decide +kernel, rfl, by decide +kernel, by decide +kernel⟩
section
variable {P : Program} {w : World} {K : PySem.W.Frag} {mg : Str → Option Value} {base : Heap}
theorem ok_take' {f : Addr} {fd : FuncData} (F : Fun K "_law_take" "_law_take" sTake f fd) (ml : mg "len" = none) (mi : mg "int" = none) :
    FnOk P w K mg base CX0 1 f fd ["_law_bag_here", "_law_many"] spTake := by
  refine F.ok scTake (fun vs H Q E h => ?_) (fun cdv A outer s H vs Q E hr h => ?_)
  · obtain ⟨b, many, rfl, _⟩ := h
    rfl
  · obtain ⟨⟨b, L, cs⟩, many, rfl, ⟨x, y, z, B⟩, hm0, hm1, k⟩ := h
    replace B : Bag H b x y z L cs := B
    have nd := scTake.nd
    refine ⟨_, C8.pss_cut (ps_if (pt_cmpR op_eq (pe_ix ix_list (pv 0) pe_int (fun _ _ => rfl)) pe_int (nomark _))
        (pss_cons (ps_set (i := 2) nd rfl (.inl rfl) pe_int)
        (C8.pss_cut (ps_if (pt_cmpR op_lt (pe_ix ix_list (pv 0) pe_int (fun _ _ => rfl)) (pe_callB call_len_seq (by rfl) ml PySem.boot_len (pa_cons (pe_ix ix_list (pv 0) pe_int (fun _ _ => rfl)) pa_nil)) (nomark _))
          (pss_one (ps_set (i := 2) nd rfl (.inl rfl) (pe_ix ix_list (pe_ix ix_list (pv 0) pe_int (fun _ _ => rfl)) (pe_ix ix_list (pv 0) pe_int (fun _ _ => rfl)) (fun _ _ => rfl)))) pss_nil)
        (pss_cons (ps_augS (pv 0) pe_int get_list pe_int ip_add set_list)
        (C8.pss_cut (ps_if (pt_cmpR op_ge (pv 2) pe_int (nomark _)) (pss_one (ps_asg (pv 2) (pg_sub (pv 0) pe_int set_list))) pss_nil)
        (pss_cons (ps_set (i := 3) nd rfl (.inl rfl) (pe_op op_add (pe_op op_add (pe_op op_mul (pe_ix ix_list (pv 0) pe_int (fun _ _ => rfl)) pe_int)
            (pe_op op_mod (pe_callTy call_int1 (by rfl) mi (by decide +kernel) (pa_cons (pv 2) pa_nil)) pe_int)) (pe_op op_mul pe_int (pe_ix ix_list (pv 0) pe_int (fun _ _ => rfl)))))
        (pss_one (ps_asg (pe_op op_mod (pe_callTy call_int1 (by rfl) mi (by decide +kernel) (pa_cons (pv 3) pa_nil)) pe_int) (pg_sub (pv 0) pe_int set_list)))))))) pss_nil)
      (pss_cons (ps_if (pt_cmpR op_gt (pe_ix ix_list (pv 0) pe_int (fun _ _ => rfl)) pe_int (nomark _))
        (pss_cons (ps_set (i := 4) nd rfl (.inl rfl) (pe_op op_mod (pe_callTy call_int1 (by rfl) mi (by decide +kernel) (pa_cons (pe_ix ix_list (pv 0) pe_int (fun _ _ => rfl)) pa_nil)) (pv 1)))
        (pss_cons (ps_asg (pe_op op_fdivW (pe_ix ix_list (pv 0) pe_int (fun _ _ => rfl)) (pv 1)) (pg_sub (pv 0) pe_int set_list))
        (pss_one (ps_ret (pv 4))))) pss_nil)
      (pss_cons (ps_set (i := 5) nd rfl (.inl rfl) (pe_op op_mod (pe_callTy call_int1 (by rfl) mi (by decide +kernel) (pa_cons (pe_op op_mul (pe_op op_add (pe_ix ix_list (pv 0) pe_int (fun _ _ => rfl)) pe_int) pe_int) pa_nil)) pe_int))
      (pss_cons (ps_set (i := 6) nd rfl (.inl rfl) (pe_op op_mod (pe_callTy call_int1 (by rfl) mi (by decide +kernel) (pa_cons (pe_op op_mul (pe_op op_mod (pe_callTy call_int1 (by rfl) mi (by decide +kernel) (pa_cons (pe_op op_mul (pv 5) (pv 5)) pa_nil)) pe_int) pe_int) pa_nil)) pe_int))
      (pss_cons (ps_if (pt_cmpR op_gt (pv 1) pe_int (nomark _)) (pss_one (ps_ret (pe_op op_mod (pe_callTy call_int1 (by rfl) mi (by decide +kernel) (pa_cons (pe_op op_add (pe_op op_mul (pv 6) pe_int) (pv 5)) pa_nil)) (pv 1)))) pss_nil)
      (pss_one (ps_ret (pe_op op_mod (pe_callTy call_int1 (by rfl) mi (by decide +kernel) (pa_cons (pe_op op_fdiv (pv 6) pe_int) pa_nil)) (pv 1)))))))), ?_⟩
    refine ⟨fun σ' H' => ∃ x' y' z' v2 v3, σ' = [some (.ref b), some (.int many), v2, v3, none, none, none] ∧ 0 ≤ x' ∧ 0 ≤ z' ∧ H' = upd H b (.lst [.int x', .int y', .int z', .ref L]), ?_, ?_⟩
    · refine ⟨_, rfl, b, _, 0, _, rfl, rfl, SqL.of B.at_, rfl, rfl, _, rfl, ite2 (fun e => ?_) (fun e => ?_)⟩
      · -- the bag's first number is 0
        have hz : (decide (z < (cs.map V.int).length) = true) ∨ (decide (z < (cs.map V.int).length) = false) := by
          cases decide (z < (cs.map V.int).length) <;> simp
        refine ⟨fun σ' H' => ∃ c : Int, 0 ≤ c ∧ σ' = [some (.ref b), some (.int many), some (.int c), none, none, none, none] ∧ H' = H, ?_, ?_⟩
        · refine ⟨_, rfl, b, _, 2, _, rfl, rfl, SqL.of B.at_, rfl, _, rfl, b, _, 3, _, rfl, rfl, SqL.of B.at_, rfl, L, _, rfl, .inl (SqL.of B.cells), _, _, rfl, rfl, _, rfl, ite2 (fun e2 => ?_) (fun e2 => ?_)⟩
          · have e3 : z < (cs.map V.int).length := of_decide_eq_true e2
            rw [List.length_map] at e3
            have e4 : z.toNat < cs.length := by have := B.z0; omega
            have e5 : (cs.map V.int)[z.toNat]? = some (.int cs[z.toNat]) := by
              rw [List.getElem?_map, List.getElem?_eq_getElem e4]
              rfl
            have e6 : atI (cs.map V.int) z = some (.int cs[z.toNat]) := by
              have := atI_nat e5
              rwa [Int.toNat_of_nonneg B.z0] at this
            exact ⟨_, rfl, b, _, 3, _, rfl, rfl, SqL.of B.at_, rfl, _, rfl, b, _, 2, _, rfl, rfl, SqL.of B.at_, rfl, L, _, z, _, rfl, rfl, SqL.of B.cells, e6, _, B.c0 _ (List.getElem_mem e4), rfl, rfl⟩
          · exact ⟨0, Int.le_refl 0, rfl, rfl⟩
        · rintro σ' H' ⟨c, hc, rfl, rfl⟩
          refine ⟨_, rfl, b, _, 2, _, rfl, rfl, SqL.of B.at_, rfl, z, 1, rfl, rfl, b, _, 2, 2, rfl, rfl, B.at_, rfl, ?_⟩
          have hb1 : ∀ o, (upd H' b o) b = some o := fun o => upd_same
          refine ⟨fun σ' H2 => ∃ x', 0 ≤ x' ∧ σ' = [some (.ref b), some (.int many), some (.int c), none, none, none, none] ∧ H2 = upd H' b (.lst [.int x', .int y, .int (z + 1), .ref L]), ?_, ?_⟩
          · refine ⟨_, rfl, _, _, rfl, rfl, _, rfl, ite2 (fun e2 => ?_) (fun e2 => ?_)⟩
            · exact ⟨_, rfl, _, rfl, b, _, 0, 0, rfl, rfl, upd_same, rfl, c, hc, rfl, by rw [upd_upd] <;> rfl⟩
            · exact ⟨x, B.x0, rfl, rfl⟩
          · rintro σ' H2 ⟨x', hx', rfl, rfl⟩
            refine ⟨_, rfl, b, _, 1, _, rfl, rfl, SqL.of upd_same, rfl, y, _, rfl, rfl, .inr ⟨by decide, by decide⟩, _, rfl, .inl ⟨c, rfl, _, _, rfl, rfl, (by show (0 : Int) < 2147483647; decide), _, _, rfl, rfl, _, rfl, b, _, 2, _, rfl, rfl, SqL.of upd_same, rfl, _, _, rfl, rfl, .inl ⟨by decide, by decide⟩, _, _, rfl, rfl, ?_⟩⟩
            refine ⟨_, rfl, .inl ⟨_, rfl, _, _, rfl, rfl, (by show (0 : Int) < 2147483647; decide), _, rfl, b, _, 1, 1, rfl, rfl, upd_same, rfl, x', _, z + 1, _, _, rfl, hx', by have := B.z0; omega, by rw [upd_upd] <;> rfl⟩⟩
      · refine ⟨x, y, z, none, none, rfl, B.x0, B.z0, ?_⟩
        funext a
        by_cases ha : a = b
        · subst ha
          rw [upd_same]
          exact B.at_
        · rw [upd_ne ha]
    · rintro σ' H' ⟨x', y', z', v2, v3, rfl, hx', hz', rfl⟩
      have hB := B.put (y' := y') hx' hz'
      refine ⟨_, rfl, b, _, 0, _, rfl, rfl, SqL.of upd_same, rfl, x', 0, rfl, rfl, _, rfl, ite2 (fun e => ?_) (fun e => ?_)⟩
      · have e1 : 0 < x' := of_decide_eq_true e
        refine ⟨_, rfl, b, _, 0, _, rfl, rfl, SqL.of upd_same, rfl, .inl ⟨x', rfl, _, rfl, x', many, rfl, rfl, hm0, ?_⟩⟩
        refine ⟨_, rfl, b, _, 0, _, rfl, rfl, SqL.of upd_same, rfl, _, rfl, x', many, rfl, rfl, wide_div hm0 (b := 60) (by omega) (by decide) (by decide), _, rfl, b, _, 0, 0, rfl, rfl, upd_same, rfl, ?_⟩
        refine ⟨_, rfl, ?_⟩
        rw [upd_upd]
        refine k _ _ (Int.emod_nonneg _ (by omega)) (Int.emod_lt_of_pos _ hm0) ?_
        exact ⟨_, _, _, B.put (x' := x' / many) (y' := y') (Int.ediv_nonneg hx' (by omega)) hz'⟩
      · refine ⟨_, rfl, b, _, 1, _, rfl, rfl, SqL.of upd_same, rfl, y', 1, rfl, rfl, y' + 1, _, rfl, rfl, .inr ⟨by decide, by decide⟩, .inl ⟨_, rfl, _, _, rfl, rfl, (by show (0 : Int) < 1000000007; decide), ?_⟩⟩
        have h1 := Int.emod_nonneg ((y' + 1) * 39373) (show (1000000007 : Int) ≠ 0 by decide)
        have h2 := Int.emod_lt_of_pos ((y' + 1) * 39373) (show (0 : Int) < 1000000007 by decide)
        refine ⟨_, rfl, _, rfl, _, _, rfl, rfl, .inl ⟨by omega, by omega⟩, .inl ⟨_, rfl, _, _, rfl, rfl, (by show (0 : Int) < 998244353; decide), _, _, rfl, rfl, .inr ⟨by decide, by decide⟩, .inl ⟨_, rfl, _, _, rfl, rfl, (by show (0 : Int) < 998244353; decide), ?_⟩⟩⟩
        refine ⟨_, rfl, _, _, rfl, rfl, _, rfl, ite2 (fun e2 => ?_) (fun e2 => ?_)⟩
        · refine ⟨_, rfl, _, _, rfl, rfl, .inr ⟨by decide, by decide⟩, _, rfl, _, _, rfl, rfl, .inl ⟨_, rfl, _, rfl, _, many, rfl, rfl, hm0, ?_⟩⟩
          exact k _ _ (Int.emod_nonneg _ (by omega)) (Int.emod_lt_of_pos _ hm0) ⟨_, _, _, hB⟩
        · refine ⟨_, rfl, _, _, rfl, rfl, ⟨by decide, by decide⟩, .inl ⟨_, rfl, _, rfl, _, many, rfl, rfl, hm0, ?_⟩⟩
          exact k _ _ (Int.emod_nonneg _ (by omega)) (Int.emod_lt_of_pos _ hm0) ⟨_, _, _, hB⟩
end
end My
set_option Elab.async false
set_option linter.all false
set_option maxRecDepth 100000
set_option maxHeartbeats 4000000
namespace My
open PySem PySem.Spec PyProof.Rows L2
/-! what the checks are -/
def isInteger : PyData → Bool
  | .int _ => true
  | _ => false
def lettersS : Str := "abcdefghijklmnopqrstuvwxyz"
def low (c : Nat) : Bool := decide (c ∈ lettersS.cps.toList)
def isNameS (x : Str) : Bool := decide (1 ≤ (x.length : Int)) && decide ((x.length : Int) ≤ 8) && x.cps.toList.all low
def isName : PyData → Bool
  | .str x => isNameS x
  | _ => false
def isRow : PyData → Bool
  | .tuple xs => xs.all isInteger
  | _ => false
theorem int_and (d : PyData) : (isIntT d && !isBoolT d) = isInteger d := by cases d <;> rfl
def spChk (K : PySem.W.Frag) (f : PyData → Bool) : Sp := fun vs H Q _ => ∃ v d, vs = [v] ∧ Dx K H v d ∧ d.weight ≤ 200000 ∧ ∀ H', Same H H' → Q (.bl (f d)) H'
/-- the built-in names are what they are -/
structure Free (mg : Str → Option Value) : Prop where
  isi : mg "isinstance" = none
  int : mg "int" = none
  bool : mg "bool" = none
  str : mg "str" = none
  tuple : mg "tuple" = none
  list : mg "list" = none
  len : mg "len" = none
  all : mg "all" = none
  zip : mg "zip" = none
  range : mg "range" = none
  repr : mg "repr" = none
  abs : mg "abs" = none
theorem boot_isi : bootBuiltins "isinstance" = some (.builtin "isinstance") := by decide +kernel
theorem boot_int : bootBuiltins "int" = some (.type "int") := by decide +kernel
theorem boot_bool : bootBuiltins "bool" = some (.type "bool") := by decide +kernel
theorem boot_str : bootBuiltins "str" = some (.type "str") := by decide +kernel
theorem boot_tuple : bootBuiltins "tuple" = some (.type "tuple") := by decide +kernel
theorem boot_list : bootBuiltins "list" = some (.type "list") := by decide +kernel
theorem boot_all : bootBuiltins "all" = some (.builtin "all") := by decide +kernel
theorem boot_repr : bootBuiltins "repr" = some (.builtin "repr") := by decide +kernel
theorem boot_abs : bootBuiltins "abs" = some (.builtin "abs") := by decide +kernel
section
variable {P : Program} {w : World} {K : PySem.W.Frag} {mg : Str → Option Value} {base : Heap} {f : Addr} {fd : FuncData}
abbrev sIsInteger : Stmt := topS 3
theorem scIsInteger : FnScope ["thing"] ["thing"] (defScope sIsInteger) := ⟨rfl, rfl, rfl, by decide +kernel, rfl, by decide +kernel, by decide +kernel⟩
theorem ok_is_integer (F : Fun K "is_integer" "is_integer" sIsInteger f fd) (T : Free mg) : FnOk P w K mg base CX0 1 f fd ["thing"] (spChk K isInteger) := by
  refine F.ok scIsInteger (fun vs H Q E h => ?_) (fun cdv A outer s H vs Q E hr h => ?_)
  · obtain ⟨v, d, rfl, _⟩ := h
    rfl
  · obtain ⟨v, d, rfl, hd, hw, k⟩ := h
    refine ⟨_, pss_one (ps_ret (pe_and (pe_callB call_isi (by rfl) T.isi boot_isi (pa_cons (pv 0) (pa_cons (pe_bltn (v := .ty "int") (by rfl) T.int boot_int rfl) pa_nil)))
      (pe_one (pe_not (pe_callB call_isi (by rfl) T.isi boot_isi (pa_cons (pv 0) (pa_cons (pe_bltn (v := .ty "bool") (by rfl) T.bool boot_bool rfl) pa_nil))))))), ?_⟩
    refine ⟨_, rfl, _, .ty "int", _, _, _, rfl, .ty "int", hd.ty, kit_ty (kit_int d), _, rfl, ?_⟩
    have e := int_and d
    cases h1 : isIntT d with
    | true =>
      refine iteT ⟨_, rfl, _, .ty "bool", _, _, _, rfl, .ty "bool", hd.ty, kit_ty (kit_bool d), _, rfl, ?_⟩
      rw [h1, Bool.true_and] at e
      rw [e]
      exact k H (Same.refl H)
    | false =>
      rw [h1, Bool.false_and] at e
      refine iteF ?_
      rw [e]
      exact k H (Same.refl H)
abbrev sIsName : Stmt := topS 4
theorem scIsName : FnScope ["thing", "sign"] ["thing"] (defScope sIsName) := ⟨rfl, rfl, rfl, by decide +kernel, rfl, by decide +kernel, by decide +kernel⟩
theorem ok_is_name (F : Fun K "is_name" "is_name" sIsName f fd) (T : Free mg) {t1 t2 : Tok} (gL : mg "LETTERS" = some (.str lettersS t1)) (gM : mg "MOST_LETTERS" = some (.int 8 t2)) :
    FnOk P w K mg base CX0 1 f fd ["thing"] (spChk K isName) := by
  refine F.ok scIsName (fun vs H Q E h => ?_) (fun cdv A outer s H vs Q E hr h => ?_)
  · obtain ⟨v, d, rfl, _⟩ := h
    rfl
  · obtain ⟨v, d, rfl, hd, hw, k⟩ := h
    refine ⟨_, pss_cons (ps_if (PW.pt (pw_or (pt_not (pt_val (pe_callB call_isi (by rfl) T.isi boot_isi (pa_cons (pv 0) (pa_cons (pe_bltn (v := .ty "str") (by rfl) T.str boot_str rfl) pa_nil)))))
        (pw_or1 (pt_not (pt_chain op_le op_le pe_int (pe_callB call_len_str (by rfl) T.len PySem.boot_len (pa_cons (pv 0) pa_nil)) (pe_glob (v := .int 8) (by rfl) gM ⟨_, rfl⟩))))))
        (pss_one (ps_ret pe_bl)) pss_nil)
      (pss_one (ps_ret (pe_callB (cr_all rfl) (by rfl) T.all boot_all (pa_cons (pe_lc (own := [("sign", 1)]) (g := gName 1) (by rfl) scIsName.nd (pi_str (pv 0))
        (blkOk_by (own := [("sign", 1)]) (N := ["thing", "sign"]) (sc := defScope sIsName) (by decide +kernel)) (fun _ _ _ _ _ => pg_name (i := 1) scIsName.nd rfl (Or.inl rfl)) (fun _ _ _ _ _ => pts_nil)
        (fun _ _ _ _ _ => pe_cmpR op_in_sign (pv 1) (pe_glob (v := .str lettersS) (by rfl) gL ⟨_, rfl⟩) (by rfl))) pa_nil)))), ?_⟩
    refine ⟨_, rfl, _, .ty "str", _, _, _, rfl, .ty "str", hd.ty, kit_ty (kit_str d), _, rfl, ?_⟩
    cases hd with
    | str x =>
      have hx : x.length ≤ sizeLine := Nat.le_trans (show x.cps.size ≤ 200000 from hw) (by decide)
      refine iteF ⟨_, rfl, x, rfl, hx, _, _, rfl, rfl, _, rfl, ?_⟩
      by_cases h1 : (1 : Int) ≤ x.length
      · rw [decide_eq_true h1]
        refine iteT ⟨_, _, rfl, rfl, _, rfl, ?_⟩
        by_cases h2 : (x.length : Int) ≤ 8
        · rw [decide_eq_true h2]
          refine iteF ?_
          refine ⟨_, rfl, x, rfl, fun D hD => ?_⟩
          refine lc_map walk_str (Nat.le_trans (show x.cps.size ≤ 200000 from hw) (by decide)) hD (fun _ _ => trivial) (fun i => (x.cps.toList[i]?).map fun c => V.bl (low c)) (fun i y H1 H2 R Rn hi sm hy h4 h5 => ?_) (fun H1 sm e => ?_)
          · obtain ⟨rfl, c, hc, rfl⟩ := hy
            refine ⟨rfl, _, rfl, c, _, rfl, rfl, h4 _ _ ?_ (Same.refl _)⟩
            rw [Array.getElem?_toList, hc]
            rfl
          · refine ⟨D, x.cps.toList.map low, rfl, .inl (.inl ?_), ?_⟩
            · rw [e, ← Array.length_toList, range_map (fun c => V.bl (low c)), List.map_map]
              rfl
            · have e2 : isName (.str x) = (x.cps.toList.map low).all id := by
                show (decide _ && decide _ && _) = _
                rw [decide_eq_true h1, decide_eq_true h2, List.all_map]
                rfl
              rw [← e2]
              exact k _ sm
        · rw [decide_eq_false h2]
          refine iteT ?_
          have e2 : isName (.str x) = false := by
            show (decide _ && decide _ && _) = _
            rw [decide_eq_false h2, Bool.and_false, Bool.false_and]
          rw [← e2]
          exact k H (Same.refl H)
      · rw [decide_eq_false h1]
        refine iteF ⟨_, rfl, iteT ?_⟩
        have e2 : isName (.str x) = false := by
          show (decide _ && decide _ && _) = _
          rw [decide_eq_false h1, Bool.false_and, Bool.false_and]
        rw [← e2]
        exact k H (Same.refl H)
    | _ => exact iteT (k H (Same.refl H))
end
end My
set_option Elab.async false
set_option linter.all false
set_option maxRecDepth 100000
set_option maxHeartbeats 4000000
namespace My
open PySem PySem.Spec PyProof.Rows L2
/-- neighbours that are equal, by place -/
def adjAt (ds : List PyData) (i : Nat) : Bool := match ds[i]?, ds[i + 1]? with
  | some (.str x), some (.str y) => decide (V.str x = V.str y)
  | _, _ => false
def isWay : PyData → Bool
  | .tuple ds => !ds.isEmpty && ds.all isName && (List.range (ds.length - 1)).all fun i => !adjAt ds i
  | _ => false
theorem name_str {d : PyData} (h : isName d = true) : ∃ x, d = .str x := by
  cases d with
  | str x => exact ⟨x, rfl⟩
  | _ => cases h
theorem names_at {ds : List PyData} (h : ds.all isName = true) {i : Nat} {d : PyData} (e : ds[i]? = some d) : ∃ x, d = .str x :=
  name_str (List.all_eq_true.mp h d (List.mem_of_getElem? e))
section
variable {P : Program} {w : World} {K : PySem.W.Frag} {mg : Str → Option Value} {base : Heap} {f fI fN : Addr} {fd fdI fdN : FuncData}
abbrev sIsRow : Stmt := topS 5
theorem scIsRow : FnScope ["thing", "part"] ["thing"] (defScope sIsRow) := ⟨rfl, rfl, rfl, by decide +kernel, rfl, by decide +kernel, by decide +kernel⟩
theorem ok_is_row (F : Fun K "is_row" "is_row" sIsRow f fd) (T : Free mg) (FI : Fun K "is_integer" "is_integer" sIsInteger fI fdI) (bI : Binds K fdI ["thing"] []) (gI : mg "is_integer" = some (.ref fI)) :
    FnOk P w K mg base CX0 2 f fd ["thing"] (spChk K isRow) := by
  have GI : FnOk P w K mg base CX0 1 fI fdI ["thing"] (spChk K isInteger) := ok_is_integer FI T
  refine F.ok scIsRow (fun vs H Q E h => ?_) (fun cdv A outer s H vs Q E hr h => ?_)
  · obtain ⟨v, d, rfl, _⟩ := h
    rfl
  · obtain ⟨v, d, rfl, hd, hw, k⟩ := h
    refine ⟨_, pss_one (ps_ret (pe_and (pe_callB call_isi (by rfl) T.isi boot_isi (pa_cons (pv 0) (pa_cons (pe_bltn (v := .ty "tuple") (by rfl) T.tuple boot_tuple rfl) pa_nil)))
      (pe_one (pe_callB (cr_all rfl) (by rfl) T.all boot_all (pa_cons (pe_lc (own := [("part", 1)]) (g := gName 1) (by rfl) scIsRow.nd (pi_tup (pv 0))
        (blkOk_by (own := [("part", 1)]) (N := ["thing", "part"]) (sc := defScope sIsRow) (by decide +kernel)) (fun _ _ _ _ _ => pg_name (i := 1) scIsRow.nd rfl (Or.inl rfl)) (fun _ _ _ _ _ => pts_nil)
        (fun _ _ _ _ _ => pe_call GI hr (by rfl) gI FI.kp bI .nil pass0 (pa_cons (pv 1) pa_nil))) pa_nil))))), ?_⟩
    refine ⟨_, rfl, _, .ty "tuple", _, _, _, rfl, .ty "tuple", hd.ty, kit_ty (kit_tuple d), _, rfl, ?_⟩
    cases hd with
    | @tup a xs ds hq ht =>
      have hw' : PyData.weightAll ds ≤ 200000 := hw
      have hlen := ht.length
      have hl2 := weight_len ds
      refine ⟨_, rfl, a, rfl, ⟨_, hq⟩, fun D hD => ?_⟩
      refine lc_map (walk_tup (xs := xs)) (line200 (by omega)) hD (fun H1 sm => sqT_same sm hq) (fun i => (ds[i]?).map fun d => V.bl (isInteger d)) (fun i y H1 H2 R Rn hi sm hy h4 h5 => ?_) (fun H1 sm e => ?_)
      · obtain ⟨rfl, hy⟩ := hy
        obtain ⟨d, e1, e2⟩ := ht.get hy
        refine ⟨rfl, _, rfl, y, d, rfl, e2.same sm, Nat.le_trans (weight_mem (List.mem_of_getElem? e1)) hw', fun H' s2 => h4 _ _ ?_ s2⟩
        rw [e1]
        rfl
      · refine ⟨D, ds.map isInteger, rfl, .inl (.inl ?_), ?_⟩
        · rw [e, hlen, range_map (fun d => V.bl (isInteger d)), List.map_map]
          rfl
        · rw [show (ds.map isInteger).all id = isRow (.tuple ds) by rw [List.all_map]; rfl]
          exact k _ sm
    | _ => exact k H (Same.refl H)
abbrev sIsWay : Stmt := topS 6
theorem scIsWay : FnScope ["thing", "part", "one", "other"] ["thing"] (defScope sIsWay) := ⟨rfl, rfl, rfl, by decide +kernel, rfl, by decide +kernel, by decide +kernel⟩
theorem ok_is_way (F : Fun K "is_way" "is_way" sIsWay f fd) (T : Free mg) (FN : Fun K "is_name" "is_name" sIsName fN fdN) (bN : Binds K fdN ["thing"] []) (gN : mg "is_name" = some (.ref fN))
    {t1 t2 : Tok} (gL : mg "LETTERS" = some (.str lettersS t1)) (gM : mg "MOST_LETTERS" = some (.int 8 t2)) :
    FnOk P w K mg base CX0 2 f fd ["thing"] (spChk K isWay) := by
  have GN : FnOk P w K mg base CX0 1 fN fdN ["thing"] (spChk K isName) := ok_is_name FN T gL gM
  refine F.ok scIsWay (fun vs H Q E h => ?_) (fun cdv A outer s H vs Q E hr h => ?_)
  · obtain ⟨v, d, rfl, _⟩ := h
    rfl
  · obtain ⟨v, d, rfl, hd, hw, k⟩ := h
    refine ⟨_, pss_cons (ps_if (PW.pt (pw_or (pt_not (pt_val (pe_callB call_isi (by rfl) T.isi boot_isi (pa_cons (pv 0) (pa_cons (pe_bltn (v := .ty "tuple") (by rfl) T.tuple boot_tuple rfl) pa_nil)))))
        (pw_or (pt_cmpR (op_eqNilT hr.units0) (pv 0) (pe_tup pa_nil) (nomark _))
        (pw_or1 (pt_not (pt_val (pe_callB (cr_all rfl) (by rfl) T.all boot_all (pa_cons (pe_lc (own := [("part", 1)]) (g := gName 1) (by rfl) scIsWay.nd (pi_tup (pv 0))
          (blkOk_by (own := [("part", 1)]) (N := ["thing", "part", "one", "other"]) (sc := defScope sIsWay) (by decide +kernel)) (fun _ _ _ _ _ => pg_name (i := 1) scIsWay.nd rfl (Or.inl rfl)) (fun _ _ _ _ _ => pts_nil)
          (fun _ _ _ _ _ => pe_call GN hr (by rfl) gN FN.kp bN .nil pass0 (pa_cons (pv 1) pa_nil))) pa_nil)))))))) (pss_one (ps_ret pe_bl)) pss_nil)
      (pss_one (ps_ret (pe_callB (cr_all rfl) (by rfl) T.all boot_all (pa_cons (pe_lc (own := [("one", 2), ("other", 3)]) (g := gTup K 2 (gCons (gName 2) (gCons (gName 3) gNil))) (by rfl) scIsWay.nd (RZ.pi_zipA (by rfl) T.zip (pa_cons (pv 0) (pa_cons (pe_slice sl_tup (pv 0) (po_some pe_int) po_none) pa_nil)))
          (blkOk_by (own := [("one", 2), ("other", 3)]) (N := ["thing", "part", "one", "other"]) (sc := defScope sIsWay) (by decide +kernel))
          (fun _ _ _ _ _ => pg_tup rfl (pgs_cons (pg_name (i := 2) scIsWay.nd rfl (Or.inl rfl)) (pgs_cons (pg_name (i := 3) scIsWay.nd rfl (Or.inl rfl)) pgs_nil))) (fun _ _ _ _ _ => pts_nil)
          (fun _ _ _ _ _ => pe_cmpR op_ne (pv 2) (pv 3) (nomark _))) pa_nil)))), ?_⟩
    refine ⟨_, rfl, _, .ty "tuple", _, _, _, rfl, .ty "tuple", hd.ty, kit_ty (kit_tuple d), _, rfl, ?_⟩
    cases hd with
    | @tup a xs ds hq ht =>
      have hw' : PyData.weightAll ds ≤ 200000 := hw
      have hlen := ht.length
      have hl2 := weight_len ds
      refine ⟨_, rfl, Nat.zero_le _, fun T0 hT0 => ?_⟩
      have sm0 : Same H (upd H T0 (.tup [])) := same_new hT0
      refine ⟨a, T0, xs, rfl, rfl, sqT_same sm0 hq, SqT.of upd_same, _, rfl, ?_⟩
      cases xs with
      | nil =>
        have e0 : ds = [] := List.length_eq_zero_iff.mp hlen.symm
        subst e0
        exact k _ sm0
      | cons x0 xr =>
      refine ⟨_, rfl, a, rfl, ⟨_, sqT_same sm0 hq⟩, fun D hD => ?_⟩
      refine lc_map (walk_tup (xs := x0 :: xr)) (line200 (by omega)) hD (fun H1 sm => sqT_same (sm0.trans sm) hq) (fun i => (ds[i]?).map fun d => V.bl (isName d)) (fun i y H1 H2 R Rn hi sm hy h4 h5 => ?_) (fun H1 sm e => ?_)
      · obtain ⟨rfl, hy⟩ := hy
        obtain ⟨d, e1, e2⟩ := ht.get hy
        refine ⟨rfl, _, rfl, y, d, rfl, e2.same (sm0.trans sm), Nat.le_trans (weight_mem (List.mem_of_getElem? e1)) hw', fun H' s2 => h4 _ _ ?_ s2⟩
        rw [e1]
        rfl
      · have sm1 := sm0.trans sm
        refine ⟨D, ds.map isName, rfl, .inl (.inl ?_), _, rfl, ?_⟩
        · rw [e, hlen, range_map (fun d => V.bl (isName d)), List.map_map]
          rfl
        rw [show (ds.map isName).all id = ds.all isName by rw [List.all_map]; rfl]
        have hne : (!ds.isEmpty) = true := by
          cases ds with
          | nil => cases hlen
          | cons _ _ => rfl
        cases hn : ds.all isName with
        | false =>
          have e2 : isWay (.tuple ds) = false := by
            show (!ds.isEmpty && ds.all isName && _) = false
            rw [hn, Bool.and_false, Bool.false_and]
          refine iteT ?_
          rw [← e2]
          exact k _ sm1
        | true =>
          refine iteF ?_
          have hnw : ¬ (HT.sIx (x0 :: xr).length 0 (some 1) = 0 ∧ HT.sIx (x0 :: xr).length (x0 :: xr).length none = (x0 :: xr).length) := by
            rw [show HT.sIx (x0 :: xr).length 0 (some 1) = min 1 (x0 :: xr).length from HT.sIx_nat _ 0 1, List.length_cons]
            omega
          refine ⟨_, rfl, _, rfl, 1, rfl, a, x0 :: xr, rfl, sqT_same sm1 hq, hnw, fun c hc => ?_⟩
          rw [cut_from1]
          have sm2 : Same H (upd H1 c (.tup ((x0 :: xr).drop 1))) := sm1.trans (same_new hc)
          refine ⟨a, c, x0 :: xr, (x0 :: xr).drop 1, rfl, .inr ⟨sqT_same sm2 hq, SqT.of upd_same, fun D2 hD2 => ?_⟩⟩
          have hnn : ds.length - 1 = min (x0 :: xr).length ((x0 :: xr).drop 1).length := by
            rw [List.length_drop]
            omega
          refine lc_map (walk_zipT hnn) (line200 (by omega)) hD2 (fun H3 sm3 => ⟨sqT_same (sm2.trans sm3) hq, sqT_same sm3 (SqT.of upd_same)⟩) (fun i => some (V.bl (!adjAt ds i))) (fun i y H3 H4 R Rn hi sm3 hy h4 h5 => ?_) (fun H3 sm3 e3 => ?_)
          · obtain ⟨T2, y1, y2, rfl, hT2, rfl, hy1, hy2⟩ := hy
            replace hy1 : (x0 :: xr)[i]? = some y1 := hy1
            replace hy2 : ((x0 :: xr).drop 1)[i]? = some y2 := hy2
            rw [List.getElem?_drop, Nat.add_comm 1 i] at hy2
            obtain ⟨d1, f1, f2⟩ := ht.get hy1
            obtain ⟨d2, f3, f4⟩ := ht.get hy2
            obtain ⟨s1, rfl⟩ := names_at hn f1
            obtain ⟨s2, rfl⟩ := names_at hn f3
            cases f2
            cases f4
            refine ⟨T2, _, rfl, SqT.of upd_same, rfl, _, _, rfl, _, _, rfl, rfl, rfl, _, rfl, _, rfl, rfl, h4 _ _ ?_ (same_new hT2)⟩
            unfold adjAt
            rw [f1, f3]
          · refine ⟨D2, (List.range (ds.length - 1)).map fun i => !adjAt ds i, rfl, .inl (.inl ?_), ?_⟩
            · rw [e3, List.filterMap_eq_map', List.map_map]
              rfl
            · have e4 : isWay (.tuple ds) = ((List.range (ds.length - 1)).map fun i => !adjAt ds i).all id := by
                show (!ds.isEmpty && ds.all isName && _) = _
                rw [hne, hn, List.all_map]
                rfl
              rw [← e4]
              exact k _ (sm2.trans sm3)
    | _ => exact k H (Same.refl H)
end
end My
set_option Elab.async false
set_option linter.all false
set_option maxRecDepth 100000
set_option maxHeartbeats 4000000
namespace My
open PySem PySem.Spec PyProof.Rows L2
theorem filter_nil {α : Type} (p : α → Bool) (g : α → V) (xs : List α) : (xs.filterMap fun x => if p x then none else some (g x)).isEmpty = xs.all p := by
  induction xs with
  | nil => rfl
  | cons x r ih =>
    rw [List.filterMap_cons, List.all_cons]
    cases h : p x with
    | true =>
      rw [Bool.true_and, ← ih]
      simp [h]
    | false => simp [h]
section
variable {P : Program} {w : World} {K : PySem.W.Frag} {mg : Str → Option Value} {base : Heap} {f fI fN : Addr} {fd fdI fdN : FuncData}
abbrev sLInteger : Stmt := topS 14
theorem scLInteger : FnScope ["_law_thing"] ["_law_thing"] (defScope sLInteger) := ⟨rfl, rfl, rfl, by decide +kernel, rfl, by decide +kernel, by decide +kernel⟩
theorem ok_l_integer (F : Fun K "_law_is_integer" "_law_is_integer" sLInteger f fd) (T : Free mg) : FnOk P w K mg base CX0 1 f fd ["_law_thing"] (spChk K isInteger) := by
  refine F.ok scLInteger (fun vs H Q E h => ?_) (fun cdv A outer s H vs Q E hr h => ?_)
  · obtain ⟨v, d, rfl, _⟩ := h
    rfl
  · obtain ⟨v, d, rfl, hd, hw, k⟩ := h
    refine ⟨_, pss_one (ps_ret (pe_and (pe_callB call_isi (by rfl) T.isi boot_isi (pa_cons (pv 0) (pa_cons (pe_bltn (v := .ty "int") (by rfl) T.int boot_int rfl) pa_nil)))
      (pe_one (pe_not (pe_callB call_isi (by rfl) T.isi boot_isi (pa_cons (pv 0) (pa_cons (pe_bltn (v := .ty "bool") (by rfl) T.bool boot_bool rfl) pa_nil))))))), ?_⟩
    refine ⟨_, rfl, _, .ty "int", _, _, _, rfl, .ty "int", hd.ty, kit_ty (kit_int d), _, rfl, ?_⟩
    have e := int_and d
    cases h1 : isIntT d with
    | true =>
      refine iteT ⟨_, rfl, _, .ty "bool", _, _, _, rfl, .ty "bool", hd.ty, kit_ty (kit_bool d), _, rfl, ?_⟩
      rw [h1, Bool.true_and] at e
      rw [e]
      exact k H (Same.refl H)
    | false =>
      rw [h1, Bool.false_and] at e
      refine iteF ?_
      rw [e]
      exact k H (Same.refl H)
abbrev sLName : Stmt := topS 11
theorem scLName : FnScope ["_law_thing", "_law_sign"] ["_law_thing"] (defScope sLName) := ⟨rfl, rfl, rfl, by decide +kernel, rfl, by decide +kernel, by decide +kernel⟩
theorem ok_l_name (F : Fun K "_law_is_name" "_law_is_name" sLName f fd) (T : Free mg) :
    FnOk P w K mg base CX0 1 f fd ["_law_thing"] (spChk K isName) := by
  refine F.ok scLName (fun vs H Q E h => ?_) (fun cdv A outer s H vs Q E hr h => ?_)
  · obtain ⟨v, d, rfl, _⟩ := h
    rfl
  · obtain ⟨v, d, rfl, hd, hw, k⟩ := h
    refine ⟨_, pss_cons (ps_if (PW.pt (pw_or (pt_not (pt_val (pe_callB call_isi (by rfl) T.isi boot_isi (pa_cons (pv 0) (pa_cons (pe_bltn (v := .ty "str") (by rfl) T.str boot_str rfl) pa_nil)))))
        (pw_or (pt_cmpR op_lt (pe_callB call_len_str (by rfl) T.len PySem.boot_len (pa_cons (pv 0) pa_nil)) pe_int (nomark _))
        (pw_or1 (pt_cmpR op_gt (pe_callB call_len_str (by rfl) T.len PySem.boot_len (pa_cons (pv 0) pa_nil)) pe_int (nomark _))))))
        (pss_one (ps_ret pe_bl)) pss_nil)
      (pss_one (ps_ret (pe_cmpR (op_eqNil hr.units0) (pe_lc (own := [("_law_sign", 1)]) (g := gName 1) (by rfl) scLName.nd (pi_str (pv 0))
        (blkOk_by (own := [("_law_sign", 1)]) (N := ["_law_thing", "_law_sign"]) (sc := defScope sLName) (by decide +kernel)) (fun _ _ _ _ _ => pg_name (i := 1) scLName.nd rfl (Or.inl rfl))
        (fun _ _ _ _ _ => pts_one (pt_cmpR op_notIn_sign (pv 1) pe_str (by rfl)))
        (fun _ _ _ _ _ => pv 1)) (pe_lst pa_nil) (nomark _)))), ?_⟩
    refine ⟨_, rfl, _, .ty "str", _, _, _, rfl, .ty "str", hd.ty, kit_ty (kit_str d), _, rfl, ?_⟩
    cases hd with
    | str x =>
      have hx : x.length ≤ sizeLine := Nat.le_trans (show x.cps.size ≤ 200000 from hw) (by decide)
      refine iteF ⟨_, rfl, x, rfl, hx, _, _, rfl, rfl, _, rfl, ?_⟩
      by_cases h1 : (x.length : Int) < 1
      · rw [decide_eq_true h1]
        refine iteT ?_
        have e2 : isName (.str x) = false := by
          show (decide _ && decide _ && _) = _
          rw [decide_eq_false (show ¬ (1 : Int) ≤ x.length by omega), Bool.false_and, Bool.false_and]
        rw [← e2]
        exact k H (Same.refl H)
      · rw [decide_eq_false h1]
        refine iteF ⟨_, rfl, x, rfl, hx, _, _, rfl, rfl, _, rfl, ?_⟩
        by_cases h2 : (8 : Int) < x.length
        · rw [decide_eq_true h2]
          refine iteT ?_
          have e2 : isName (.str x) = false := by
            show (decide _ && decide _ && _) = _
            rw [decide_eq_false (show ¬ (x.length : Int) ≤ 8 by omega), Bool.and_false, Bool.false_and]
          rw [← e2]
          exact k H (Same.refl H)
        · rw [decide_eq_false h2]
          refine iteF ⟨_, rfl, x, rfl, fun D hD => ?_⟩
          refine lc_map walk_str (Nat.le_trans (show x.cps.size ≤ 200000 from hw) (by decide)) hD (fun _ _ => trivial) (fun i => (x.cps.toList[i]?).bind fun c => if low c then none else some (V.str ⟨#[c]⟩)) (fun i y H1 H2 R Rn hi sm hy h4 h5 => ?_) (fun H1 sm e => ?_)
          · obtain ⟨rfl, c, hc, rfl⟩ := hy
            refine ⟨rfl, _, rfl, c, _, rfl, rfl, _, rfl, ?_⟩
            rw [← Array.getElem?_toList] at hc
            rw [hc] at h4 h5
            cases hl : low c with
            | true =>
              refine (show (if (!low c) = true then _ else _) from ?_)
              rw [hl]
              exact iteF (h5 _ (by show (if low c then _ else _) = _; rw [hl]; rfl) (Same.refl _))
            | false =>
              refine (show (if (!low c) = true then _ else _) from ?_)
              rw [hl]
              exact iteT ⟨_, rfl, h4 _ _ (by show (if low c then _ else _) = _; rw [hl]; rfl) (Same.refl _)⟩
          · refine ⟨Nat.zero_le _, fun T0 hT0 => ⟨D, T0, _, rfl, rfl, (same_new hT0).seq (SqL.of e), SqL.of upd_same, ?_⟩⟩
            rw [← Array.length_toList, range_bind, filter_nil]
            have e2 : isName (.str x) = x.cps.toList.all low := by
              show (decide _ && decide _ && _) = _
              rw [decide_eq_true (show (1 : Int) ≤ x.length by omega), decide_eq_true (show (x.length : Int) ≤ 8 by omega)]
              rfl
            have k' := k _ (sm.trans (same_new (o := .lst []) hT0))
            rw [e2] at k'
            exact k'
    | _ => exact iteT (k H (Same.refl H))
abbrev sLRow : Stmt := topS 15
theorem scLRow : FnScope ["_law_thing", "_law_part"] ["_law_thing"] (defScope sLRow) := ⟨rfl, rfl, rfl, by decide +kernel, rfl, by decide +kernel, by decide +kernel⟩
theorem ok_l_row (F : Fun K "_law_is_row" "_law_is_row" sLRow f fd) (T : Free mg) (FI : Fun K "_law_is_integer" "_law_is_integer" sLInteger fI fdI) (bI : Binds K fdI ["_law_thing"] []) (gI : mg "_law_is_integer" = some (.ref fI)) :
    FnOk P w K mg base CX0 2 f fd ["_law_thing"] (spChk K isRow) := by
  have GI : FnOk P w K mg base CX0 1 fI fdI ["_law_thing"] (spChk K isInteger) := ok_l_integer FI T
  refine F.ok scLRow (fun vs H Q E h => ?_) (fun cdv A outer s H vs Q E hr h => ?_)
  · obtain ⟨v, d, rfl, _⟩ := h
    rfl
  · obtain ⟨v, d, rfl, hd, hw, k⟩ := h
    refine ⟨_, pss_one (ps_ret (pe_and (pe_callB call_isi (by rfl) T.isi boot_isi (pa_cons (pv 0) (pa_cons (pe_bltn (v := .ty "tuple") (by rfl) T.tuple boot_tuple rfl) pa_nil)))
      (pe_one (pe_cmpR (op_eqNil hr.units0) (pe_lc (own := [("_law_part", 1)]) (g := gName 1) (by rfl) scLRow.nd (pi_list (pe_callTy call_list_of (by rfl) T.list boot_list (pa_cons (pv 0) pa_nil)))
        (blkOk_by (own := [("_law_part", 1)]) (N := ["_law_thing", "_law_part"]) (sc := defScope sLRow) (by decide +kernel)) (fun _ _ _ _ _ => pg_name (i := 1) scLRow.nd rfl (Or.inl rfl))
        (fun _ _ _ _ _ => pts_one (pt_not (pt_val (pe_call GI hr (by rfl) gI FI.kp bI .nil pass0 (pa_cons (pv 1) pa_nil)))))
        (fun _ _ _ _ _ => pv 1)) (pe_lst pa_nil) (nomark _))))), ?_⟩
    refine ⟨_, rfl, _, .ty "tuple", _, _, _, rfl, .ty "tuple", hd.ty, kit_ty (kit_tuple d), _, rfl, ?_⟩
    cases hd with
    | @tup a xs ds hq ht =>
      have hw' : PyData.weightAll ds ≤ 200000 := hw
      have hlen := ht.length
      have hl2 := weight_len ds
      refine ⟨_, rfl, a, xs, rfl, .inr hq, fun l hl => ⟨l, rfl, ⟨_, SqL.of upd_same⟩, fun D hD => ?_⟩⟩
      have sm0 : Same H (upd H l (.lst xs)) := same_new hl
      refine lc_map (walk_list (xs := xs)) (line200 (by omega)) hD (fun H1 sm => sm.seq (SqL.of upd_same)) (fun i => ((xs.zip ds)[i]?).bind fun p => if isInteger p.2 then none else some p.1) (fun i y H1 H2 R Rn hi sm hy h4 h5 => ?_) (fun H1 sm e => ?_)
      · obtain ⟨rfl, hy⟩ := hy
        obtain ⟨d, e1, e2⟩ := ht.get hy
        have ez : (xs.zip ds)[i]? = some (y, d) := by
          rw [List.getElem?_zip_eq_some]
          exact ⟨hy, e1⟩
        rw [ez] at h4 h5
        refine ⟨rfl, _, rfl, y, d, rfl, e2.same (sm0.trans sm), Nat.le_trans (weight_mem (List.mem_of_getElem? e1)) hw', fun H' s2 => ⟨_, rfl, ?_⟩⟩
        cases hl : isInteger d with
        | true => exact iteF (h5 _ (by show (if isInteger d then _ else _) = _; rw [hl]; rfl) s2)
        | false => exact iteT ⟨_, rfl, h4 _ _ (by show (if isInteger d then _ else _) = _; rw [hl]; rfl) s2⟩
      · refine ⟨Nat.zero_le _, fun T0 hT0 => ⟨D, T0, _, rfl, rfl, (same_new hT0).seq (SqL.of e), SqL.of upd_same, ?_⟩⟩
        have ez : xs.length = (xs.zip ds).length := by rw [List.length_zip]; omega
        rw [ez, range_bind, filter_nil (fun p : V × PyData => isInteger p.2) (fun p => p.1)]
        have k' := k _ (sm0.trans (sm.trans (same_new (o := .lst []) hT0)))
        have e3 : (xs.zip ds).all (fun p => isInteger p.2) = isRow (.tuple ds) := by
          show _ = ds.all isInteger
          rw [show ds = (xs.zip ds).map Prod.snd from (List.map_snd_zip (by omega)).symm, List.all_map]
          rw [← show ds = (xs.zip ds).map Prod.snd from (List.map_snd_zip (by omega)).symm]
          rfl
        rw [← e3] at k'
        exact k'
    | _ => exact k H (Same.refl H)
end
end My
set_option Elab.async false
set_option linter.all false
set_option maxRecDepth 100000
set_option maxHeartbeats 4000000
namespace My
open PySem PySem.Spec PyProof.Rows L2
section
variable {P : Program} {w : World} {K : PySem.W.Frag} {mg : Str → Option Value} {base : Heap} {f fI fN : Addr} {fd fdI fdN : FuncData}
abbrev sLWay : Stmt := topS 16
theorem scLWay : FnScope ["_law_thing", "_law_part", "_law_at"] ["_law_thing"] (defScope sLWay) := ⟨rfl, rfl, rfl, by decide +kernel, rfl, by decide +kernel, by decide +kernel⟩
theorem ok_l_way (F : Fun K "_law_is_way" "_law_is_way" sLWay f fd) (T : Free mg) (FN : Fun K "_law_is_name" "_law_is_name" sLName fN fdN) (bN : Binds K fdN ["_law_thing"] []) (gN : mg "_law_is_name" = some (.ref fN)) :
    FnOk P w K mg base CX0 2 f fd ["_law_thing"] (spChk K isWay) := by
  have GN : FnOk P w K mg base CX0 1 fN fdN ["_law_thing"] (spChk K isName) := ok_l_name FN T
  refine F.ok scLWay (fun vs H Q E h => ?_) (fun cdv A outer s H vs Q E hr h => ?_)
  · obtain ⟨v, d, rfl, _⟩ := h
    rfl
  · obtain ⟨v, d, rfl, hd, hw, k⟩ := h
    refine ⟨_, pss_cons (ps_if (PW.pt (pw_or (pt_not (pt_val (pe_callB call_isi (by rfl) T.isi boot_isi (pa_cons (pv 0) (pa_cons (pe_bltn (v := .ty "tuple") (by rfl) T.tuple boot_tuple rfl) pa_nil)))))
        (pw_or (pt_cmpR (op_eqNilT hr.units0) (pv 0) (pe_tup pa_nil) (nomark _))
        (pw_or1 (pt_cmpR (op_neNil hr.units0) (pe_lc (own := [("_law_part", 1)]) (g := gName 1) (by rfl) scLWay.nd (pi_list (pe_callTy call_list_of (by rfl) T.list boot_list (pa_cons (pv 0) pa_nil)))
          (blkOk_by (own := [("_law_part", 1)]) (N := ["_law_thing", "_law_part", "_law_at"]) (sc := defScope sLWay) (by decide +kernel)) (fun _ _ _ _ _ => pg_name (i := 1) scLWay.nd rfl (Or.inl rfl))
          (fun _ _ _ _ _ => pts_one (pt_not (pt_val (pe_call GN hr (by rfl) gN FN.kp bN .nil pass0 (pa_cons (pv 1) pa_nil)))))
          (fun _ _ _ _ _ => pv 1)) (pe_lst pa_nil) (nomark _)))))) (pss_one (ps_ret pe_bl)) pss_nil)
      (pss_one (ps_ret (pe_cmpR (op_eqNil hr.units0) (pe_lc (own := [("_law_at", 2)]) (g := gName 2) (by rfl) scLWay.nd (pi_range1 rfl T.range (pa_cons (pe_op op_sub (pe_callB call_len_seq (by rfl) T.len PySem.boot_len (pa_cons (pv 0) pa_nil)) pe_int) pa_nil))
          (blkOk_by (own := [("_law_at", 2)]) (N := ["_law_thing", "_law_part", "_law_at"]) (sc := defScope sLWay) (by decide +kernel)) (fun _ _ _ _ _ => pg_name (i := 2) scLWay.nd rfl (Or.inl rfl))
          (fun _ _ _ _ _ => pts_one (pt_cmpR op_eq (pe_ix (r := rIxT K) ix_tup (pv 0) (pv 2) (fun _ _ => rfl)) (pe_ix (r := rIxT K) ix_tup (pv 0) (pe_op op_add (pv 2) pe_int) (fun _ _ => rfl)) (nomark _)))
          (fun _ _ _ _ _ => pv 2)) (pe_lst pa_nil) (nomark _)))), ?_⟩
    refine ⟨_, rfl, _, .ty "tuple", _, _, _, rfl, .ty "tuple", hd.ty, kit_ty (kit_tuple d), _, rfl, ?_⟩
    cases hd with
    | @tup a xs ds hq ht =>
      have hw' : PyData.weightAll ds ≤ 200000 := hw
      have hlen := ht.length
      have hl2 := weight_len ds
      refine ⟨_, rfl, Nat.zero_le _, fun T0 hT0 => ?_⟩
      have sm0 : Same H (upd H T0 (.tup [])) := same_new hT0
      refine ⟨a, T0, xs, rfl, rfl, sqT_same sm0 hq, SqT.of upd_same, _, rfl, ?_⟩
      cases xs with
      | nil =>
        have e0 : ds = [] := List.length_eq_zero_iff.mp hlen.symm
        subst e0
        exact k _ sm0
      | cons x0 xr =>
      refine ⟨_, rfl, a, _, rfl, .inr (sqT_same sm0 hq), fun l hl => ⟨l, rfl, ⟨_, SqL.of upd_same⟩, fun D hD => ?_⟩⟩
      have sml := sm0.trans (same_new (o := .lst (x0 :: xr)) hl)
      refine lc_map (walk_list (xs := x0 :: xr)) (line200 (by omega)) hD (fun H1 sm => sm.seq (SqL.of upd_same)) (fun i => (((x0 :: xr).zip ds)[i]?).bind fun p => if isName p.2 then none else some p.1) (fun i y H1 H2 R Rn hi sm hy h4 h5 => ?_) (fun H1 sm e => ?_)
      · obtain ⟨rfl, hy⟩ := hy
        obtain ⟨d, e1, e2⟩ := ht.get hy
        have ez : ((x0 :: xr).zip ds)[i]? = some (y, d) := by
          rw [List.getElem?_zip_eq_some]
          exact ⟨hy, e1⟩
        rw [ez] at h4 h5
        refine ⟨rfl, _, rfl, y, d, rfl, e2.same (sml.trans sm), Nat.le_trans (weight_mem (List.mem_of_getElem? e1)) hw', fun H' s2 => ⟨_, rfl, ?_⟩⟩
        cases hl : isName d with
        | true => exact iteF (h5 _ (by show (if isName d then _ else _) = _; rw [hl]; rfl) s2)
        | false => exact iteT ⟨_, rfl, h4 _ _ (by show (if isName d then _ else _) = _; rw [hl]; rfl) s2⟩
      · refine ⟨Nat.zero_le _, fun T1 hT1 => ⟨D, T1, _, rfl, rfl, (same_new hT1).seq (SqL.of e), SqL.of upd_same, _, rfl, ?_⟩⟩
        have sm1 := sml.trans (sm.trans (same_new (o := .lst []) hT1))
        have ez : (x0 :: xr).length = ((x0 :: xr).zip ds).length := by rw [List.length_zip]; omega
        rw [ez, range_bind, filter_nil (fun p : V × PyData => isName p.2) (fun p => p.1)]
        have e3 : ((x0 :: xr).zip ds).all (fun p => isName p.2) = ds.all isName := by
          rw [show ds = ((x0 :: xr).zip ds).map Prod.snd from (List.map_snd_zip (by omega)).symm, List.all_map]
          rw [← show ds = ((x0 :: xr).zip ds).map Prod.snd from (List.map_snd_zip (by omega)).symm]
          rfl
        rw [e3]
        have hne : (!ds.isEmpty) = true := by
          cases ds with
          | nil => cases hlen
          | cons _ _ => rfl
        cases hn : ds.all isName with
        | false =>
          have e2 : isWay (.tuple ds) = false := by
            show (!ds.isEmpty && ds.all isName && _) = false
            rw [hn, Bool.and_false, Bool.false_and]
          refine iteT ?_
          rw [← e2]
          exact k _ sm1
        | true =>
          refine iteF ?_
          have hlI : ((x0 :: xr).length : Int) = ds.length := by rw [hlen]
          have hl1 : 1 ≤ ds.length := by rw [← hlen, List.length_cons]; omega
          refine ⟨_, rfl, a, _, rfl, .inr (sqT_same sm1 hq), _, _, rfl, rfl, _, rfl, ?_, ?_, fun D2 hD2 => ?_⟩
          · rw [hlI]
            omega
          · rw [hlI]
            omega
          have en : (((x0 :: xr).length : Int) - 1).toNat = ds.length - 1 := by
            rw [hlI]
            omega
          refine lc_map walk_range (line200 (by rw [hlI]; omega)) hD2 (fun _ _ => trivial) (fun i => if !adjAt ds i then none else some (V.int (0 + (i : Int)))) (fun i y H3 H4 R Rn hi sm3 hy h4 h5 => ?_) (fun H3 sm3 e3 => ?_)
          · obtain ⟨rfl, rfl⟩ := hy
            have hi' : i < ds.length - 1 := by omega
            have g1 : i < (x0 :: xr).length := by omega
            have g2 : i + 1 < (x0 :: xr).length := by omega
            obtain ⟨y1, hy1⟩ : ∃ y, (x0 :: xr)[i]? = some y := ⟨_, List.getElem?_eq_getElem g1⟩
            obtain ⟨y2, hy2⟩ : ∃ y, (x0 :: xr)[i + 1]? = some y := ⟨_, List.getElem?_eq_getElem g2⟩
            obtain ⟨d1, f1, f2⟩ := ht.get hy1
            obtain ⟨d2, f3, f4⟩ := ht.get hy2
            obtain ⟨s1, rfl⟩ := names_at hn f1
            obtain ⟨s2, rfl⟩ := names_at hn f3
            have v1 : (x0 :: xr)[i]? = some (.str s1) := by cases f2; exact hy1
            have v2 : (x0 :: xr)[i + 1]? = some (.str s2) := by cases f4; exact hy2
            have w1 : atI (x0 :: xr) (0 + (i : Int)) = some (.str s1) := by
              rw [Int.zero_add]
              exact atI_nat v1
            have w2 : atI (x0 :: xr) (0 + (i : Int) + 1) = some (.str s2) := by
              rw [Int.zero_add]
              exact atI_nat (j := i + 1) v2
            have ea : adjAt ds i = decide (V.str s1 = V.str s2) := by
              unfold adjAt
              rw [f1, f3]
            refine ⟨rfl, _, rfl, _, rfl, a, _, _, _, rfl, rfl, sqT_same (sm1.trans sm3) hq, w1, _, rfl, _, rfl, _, _, rfl, rfl, a, _, _, _, rfl, rfl, sqT_same (sm1.trans sm3) hq, w2, rfl, _, rfl, ?_⟩
            rw [← ea]
            cases hl : adjAt ds i with
            | false => exact iteF (h5 _ (by rw [hl]; rfl) (Same.refl _))
            | true => exact iteT ⟨_, rfl, h4 _ _ (by rw [hl]; rfl) (Same.refl _)⟩
          · refine ⟨Nat.zero_le _, fun T2 hT2 => ⟨D2, T2, _, rfl, rfl, (same_new hT2).seq (SqL.of e3), SqL.of upd_same, ?_⟩⟩
            rw [en, filter_nil (fun i => !adjAt ds i) (fun i => V.int (0 + (i : Int)))]
            have e4 : isWay (.tuple ds) = (List.range (ds.length - 1)).all fun i => !adjAt ds i := by
              show (!ds.isEmpty && ds.all isName && _) = _
              rw [hne, hn]
              rfl
            have k' := k _ (sm1.trans (sm3.trans (same_new (o := .lst []) hT2)))
            rw [e4] at k'
            exact k'
    | _ => exact k H (Same.refl H)
end
end My
set_option Elab.async false
set_option linter.all false
set_option maxRecDepth 100000
set_option maxHeartbeats 4000000
namespace My
open PySem PySem.Spec PyProof.Rows L2
def spNear : Sp := fun vs H Q _ => ∃ B : BI, vs = [.ref B.b] ∧ BagOk H B ∧ ∀ (x : Str) (H' : Hp), TxOk 30 x → Keep B.b H H' → BagOk H' B → Q (.str x) H'
section
variable {P : Program} {w : World} {K : PySem.W.Frag} {mg : Str → Option Value} {base : Heap} {f fT : Addr} {fd fdT : FuncData}
abbrev sBag : Stmt := topS 8
theorem scBag : FnScope ["_law_script", "_law_cell"] ["_law_script"] (defScope sBag) := ⟨rfl, rfl, rfl, by decide +kernel, rfl, by decide +kernel, by decide +kernel⟩
theorem ok_bag (F : Fun K "_law_bag" "_law_bag" sBag f fd) (T : Free mg) : FnOk P w K mg base CX0 1 f fd ["_law_script"] (spBag K) := by
  refine F.ok scBag (fun vs H Q E h => ?_) (fun cdv A outer s H vs Q E hr h => ?_)
  · obtain ⟨a, ns, rfl, _⟩ := h
    rfl
  · obtain ⟨a, ns, rfl, hS, hlen, k⟩ := h
    refine ⟨_, pss_one (ps_ret (pe_lst (pa_cons pe_int (pa_cons pe_int (pa_cons pe_int (pa_cons (pe_lc (own := [("_law_cell", 1)]) (g := gName 1) (by rfl) scBag.nd (pi_list (pe_slice sl_list (pv 0) po_none (po_some pe_int)))
      (blkOk_by (own := [("_law_cell", 1)]) (N := ["_law_script", "_law_cell"]) (sc := defScope sBag) (by decide +kernel)) (fun _ _ _ _ _ => pg_name (i := 1) scBag.nd rfl (Or.inl rfl)) (fun _ _ _ _ _ => pts_nil)
      (fun _ _ _ _ _ => pe_callB call_abs (by rfl) T.abs boot_abs (pa_cons (pv 1) pa_nil))) pa_nil)))))), ?_⟩
    obtain ⟨ms, hms⟩ := cut_ints ns none (some 63)
    have hml : ms.length ≤ 63 := by
      have h1 := congrArg List.length hms
      have h2 := cutV_length (ns.map V.int) none (some 63)
      rw [h1, List.length_map, List.length_map] at h2
      omega
    refine ⟨_, rfl, 63, rfl, a, _, rfl, hS, fun c hc => ⟨c, rfl, ⟨_, SqL.of upd_same⟩, fun D hD => ?_⟩⟩
    rw [hms] at hD ⊢
    have sm0 : Same H (upd H c (.lst (ms.map V.int))) := same_new hc
    refine lc_map (walk_list (xs := ms.map V.int)) (line200 (by rw [List.length_map]; omega)) hD (fun H1 sm => sm.seq (SqL.of upd_same)) (fun i => (ms[i]?).map fun z => V.int (if z < 0 then -z else z)) (fun i y H1 H2 R Rn hi sm hy h4 h5 => ?_) (fun H1 sm e => ?_)
    · obtain ⟨rfl, hy⟩ := hy
      rw [List.getElem?_map] at hy
      cases q : ms[i]? with
      | none => rw [q] at hy; cases hy
      | some z =>
        rw [q] at hy
        cases hy
        refine ⟨rfl, _, rfl, z, rfl, h4 _ _ ?_ (Same.refl _)⟩
        rw [q]
        rfl
    · refine ⟨by show 4 ≤ sizeLine; decide, fun b hb => ?_⟩
      have smb : Same H1 (upd H1 b (.lst [.int 0, .int 1234567891, .int 0, .ref D])) := same_new hb
      refine k ⟨b, D, ms.map fun z => if z < 0 then -z else z⟩ _ (sm0.trans (sm.trans smb)) ((sm0.trans sm).free hb) ⟨0, 1234567891, 0, upd_same, ?_, Int.le_refl 0, Int.le_refl 0, fun z hz => ?_⟩
      · rw [upd_ne (ne_of_none e hb), e, List.length_map, range_map (fun z => V.int (if z < 0 then -z else z)), List.map_map]
        rfl
      · obtain ⟨y, _, rfl⟩ := List.mem_map.mp hz
        split <;> omega
abbrev sNear : Stmt := topS 12
theorem scNear : FnScope ["_law_bag_here", "_law_signs", "_law_text", "_law_at", "_law_sign", "_law_k"] ["_law_bag_here"] (defScope sNear) := ⟨rfl, rfl, rfl, by decide +kernel, rfl, by decide +kernel, by decide +kernel⟩
theorem ok_near (F : Fun K "_law_name_near" "_law_name_near" sNear f fd) (T : Free mg) (FT : Fun K "_law_take" "_law_take" sTake fT fdT) (bT : Binds K fdT ["_law_bag_here", "_law_many"] []) (gT : mg "_law_take" = some (.ref fT)) :
    FnOk P w K mg base CX0 2 f fd ["_law_bag_here"] spNear := by
  have GT : FnOk P w K mg base CX0 1 fT fdT ["_law_bag_here", "_law_many"] spTake := ok_take' FT T.len T.int
  have nd := scNear.nd
  refine F.ok scNear (fun vs H Q E h => ?_) (fun cdv A outer s H vs Q E hr h => ?_)
  · obtain ⟨B, rfl, _⟩ := h
    rfl
  · obtain ⟨B, rfl, hB, k⟩ := h
    refine ⟨_, pss_cons (ps_set (i := 1) nd rfl (.inl rfl) pe_str)
      (pss_cons (ps_set (i := 2) nd rfl (.inl rfl) (pe_join pe_str (pe_lc (own := [("_law_k", 5)]) (g := gName 5) (by rfl) nd (pi_range1 rfl T.range (pa_cons (pe_call GT hr (by rfl) gT FT.kp bT .nil pass0 (pa_cons (pv 0) (pa_cons pe_int pa_nil))) pa_nil))
        (blkOk_by (own := [("_law_k", 5)]) (N := ["_law_bag_here", "_law_signs", "_law_text", "_law_at", "_law_sign", "_law_k"]) (sc := defScope sNear) (by decide +kernel)) (fun _ _ _ _ _ => pg_name (i := 5) nd rfl (Or.inl rfl)) (fun _ _ _ _ _ => pts_nil)
        (fun _ _ _ _ _ => pe_ix ix_str pe_str (pe_call GT hr (by rfl) gT FT.kp bT .nil pass0 (pa_cons (pv 0) (pa_cons pe_int pa_nil))) (fun _ _ => rfl)))))
      (pss_cons (ps_par (i := 3) (j := 4) (by rfl) nd rfl rfl (by decide) rfl rfl (pa_cons (pe_call GT hr (by rfl) gT FT.kp bT .nil pass0 (pa_cons (pv 0) (pa_cons (pe_op op_add (pe_callB call_len_str (by rfl) T.len PySem.boot_len (pa_cons (pv 2) pa_nil)) pe_int) pa_nil)))
        (pa_cons (pe_ix ix_str (pv 1) (pe_call GT hr (by rfl) gT FT.kp bT .nil pass0 (pa_cons (pv 0) (pa_cons pe_int pa_nil))) (fun _ _ => rfl)) pa_nil)) (by rfl))
      (pss_one (ps_ret (pe_ix ix_list (pe_lst (pa_cons (pv 2)
        (pa_cons (pe_op op_add_str (pe_op op_add_str (pe_slice sl_str (pv 2) po_none (po_some (pv 3))) (pv 4)) (pe_slice sl_str (pv 2) (po_some (pv 3)) po_none))
        (pa_cons (pe_op op_add_str (pe_op op_add_str (pe_slice sl_str (pv 2) po_none (po_some (pv 3))) (pv 4)) (pe_slice sl_str (pv 2) (po_some (pe_op op_add (pv 3) pe_int)) po_none)) pa_nil))))
        (pe_call GT hr (by rfl) gT FT.kp bT .nil pass0 (pa_cons (pv 0) (pa_cons pe_int pa_nil))) (fun _ _ => rfl)))))), ?_⟩
    refine ⟨⟨_, rfl⟩, _, rfl, B, 11, rfl, hB, by decide, by decide, fun n o1 h0 h1 hB1 => ⟨n, rfl, by omega, by omega, fun D hD => ?_⟩⟩
    have k1 : Keep B.b H (upd H B.b o1) := Keep.bag
    refine lc_bag (B := B) walk_range (line200 (by omega)) hD hB1 (fun _ _ => trivial) (fun i acc _ => ∃ ys : List Str, acc = ys.map V.str ∧ ys.length = i ∧ ∀ y ∈ ys, TxOk 1 y) ⟨[], rfl, rfl, fun y h => nomatch h⟩ (fun i x H1 H2 acc R Rn hi kk hBi hDi ha hy h4 h5 => ?_) (fun H1 acc kk hB2 hD2 hl ha => ?_)
    · obtain ⟨rfl, rfl⟩ := hy
      obtain ⟨ys, rfl, hyl, hys⟩ := ha
      refine ⟨rfl, _, rfl, B, 2, rfl, hBi, by decide, by decide, fun v o2 g0 g1 hB3 => ?_⟩
      obtain ⟨c, e1, e2⟩ := atI_ex (l := ("az" : Str).cps.toList) g0 g1
      refine ⟨_, v, c, rfl, rfl, by decide +kernel, e1, h4 _ _ Keep.bag hB3 ⟨ys ++ [⟨#[c]⟩], ?_, ?_, ?_⟩⟩
      · rw [List.map_append]
        rfl
      · rw [List.length_append, hyl]
        rfl
      · intro y hy
        rcases List.mem_append.mp hy with hy | hy
        · exact hys y hy
        · obtain rfl := List.mem_singleton.mp hy
          have hc : ∀ c ∈ ("az" : Str).cps.toList, c < 128 := by decide +kernel
          exact TxOk.one (hc c e2)
    · obtain ⟨ys, rfl, hyl, hys⟩ := ha
      have ht := TxOk.join hys
      have hsum := sumlen_le hys
      refine ⟨_, D, ys, rfl, rfl, .inl (SqL.of hD2), by show _ + _ * 0 ≤ _; omega, ?_⟩
      have hT11 : TxOk 11 (Txt.join "" ys) := ht.mono (by omega)
      generalize Txt.join "" ys = z at hT11
      have hz := hT11.1
      -- at, sign
      refine ⟨_, rfl, _, rfl, z, rfl, line200 (by omega), _, _, rfl, rfl, B, _, rfl, hB2, by omega, by omega, fun v o2 g0 g1 hB3 => ?_⟩
      refine ⟨_, rfl, _, rfl, B, 17, rfl, hB3, by decide, by decide, fun v2 o3 g2 g3 hB4 => ?_⟩
      obtain ⟨c, e1, e2⟩ := atI_ex (l := ("abmyz`{@AZ 0_-.\n~" : Str).cps.toList) g2 g3
      have hc : ∀ c ∈ ("abmyz`{@AZ 0_-.\n~" : Str).cps.toList, c < 128 := by decide +kernel
      have hs := TxOk.one (hc c e2)
      refine ⟨_, v2, c, rfl, rfl, by decide +kernel, e1, _, _, rfl, ?_⟩
      -- the list of three
      have hz2 : z.length ≤ sizeLine := line200 (by omega)
      have c1 := hT11.cut none (some v)
      have c2 := hT11.cut (some v) none
      have c3 := hT11.cut (some (v + 1)) none
      have d1 := (c1.app hs).app c2
      have d2 := (c1.app hs).app c3
      have q1 := (c1.app hs).1
      rw [PySem.strLen_append] at q1
      have q2 := d1.1
      have q3 := d2.1
      rw [PySem.strLen_append] at q2 q3
      refine ⟨_, rfl, _, rfl, _, rfl, v, rfl, z, rfl, hz2, _, rfl, _, _, rfl, rfl, line200 (by omega), _, rfl, _, rfl, v, rfl, z, rfl, hz2, _, _, rfl, rfl, line200 (by omega), ?_⟩
      refine ⟨_, rfl, _, rfl, v, rfl, z, rfl, hz2, _, rfl, _, _, rfl, rfl, line200 (by omega), _, rfl, _, rfl, _, _, rfl, rfl, v + 1, rfl, z, rfl, hz2, _, _, rfl, rfl, line200 (by omega), ?_⟩
      refine ⟨by show 3 ≤ sizeLine; decide, fun p hp => ?_⟩
      have hB5 := hB4.new (o := .lst [.str z, .str (cutS z none (some v) ++ ⟨#[c]⟩ ++ cutS z (some v) none), .str (cutS z none (some v) ++ ⟨#[c]⟩ ++ cutS z (some (v + 1)) none)]) hp
      refine ⟨_, rfl, B, 3, rfl, hB5, by decide, by decide, fun v3 o4 g4 g5 hB6 => ?_⟩
      have np : p ≠ B.b := hB4.ne hp
      obtain ⟨u, e5, e6⟩ := atI_ex (l := [V.str z, .str (cutS z none (some v) ++ ⟨#[c]⟩ ++ cutS z (some v) none), .str (cutS z none (some v) ++ ⟨#[c]⟩ ++ cutS z (some (v + 1)) none)]) g4 g5
      refine ⟨p, _, v3, u, rfl, rfl, SqL.of (by rw [upd_ne np, upd_same]), e5, ?_⟩
      have kf : ∀ o : HO, Keep B.b H (upd (upd (upd (upd H1 B.b o2) B.b o3) p o) B.b o4) := fun o => k1.trans (kk.trans (Keep.bag.trans (Keep.bag.trans ((Keep.of (same_new hp)).trans Keep.bag))))
      rcases List.mem_cons.mp e6 with rfl | e6
      · exact k _ _ (hT11.mono (by decide)) (kf _) hB6
      rcases List.mem_cons.mp e6 with rfl | e6
      · exact k _ _ (d1.mono (by decide)) (kf _) hB6
      · obtain rfl := List.mem_singleton.mp e6
        exact k _ _ (d2.mono (by decide)) (kf _) hB6
end
end My
set_option Elab.async false
set_option linter.all false
set_option maxRecDepth 100000
set_option maxHeartbeats 4000000
namespace My
open PySem PySem.Spec PyProof.Rows L2
def spOdd (K : PySem.W.Frag) : Sp := fun vs H Q _ => ∃ B : BI, vs = [.ref B.b] ∧ BagOk H B ∧ ∀ (v : V) (d : PyData) (H' : Hp), Fine 9000 30 d → Dx K (vis H H') v d → Keep B.b H H' → BagOk H' B → Q v H'
theorem Fine.list1 {n m : Nat} {d : PyData} (h : Fine n m d) : Fine (n + 1) (m + 1) (.list [d]) :=
  ⟨by simp [PyData.showable, PyData.showableAll, h.able], by simp [PyData.leavesShort, PyData.leavesShortAll, h.short],
    by simp only [PyData.weight, PyData.weightAll]; have := h.wt; omega, by simp only [PyData.depth, PyData.depthAll]; have := h.dp; omega⟩
theorem Fine.tuple1 {n m : Nat} {d : PyData} (h : Fine n m d) : Fine (n + 1) (m + 1) (.tuple [d]) :=
  ⟨by simp [PyData.showable, PyData.showableAll, h.able], by simp [PyData.leavesShort, PyData.leavesShortAll, h.short],
    by simp only [PyData.weight, PyData.weightAll]; have := h.wt; omega, by simp only [PyData.depth, PyData.depthAll]; have := h.dp; omega⟩
theorem rep_zero (n : Nat) : Fine n 1 (.tuple (List.replicate n (.int 0))) := by
  have h1 : ∀ n : Nat, PyData.showableAll (List.replicate n (.int 0)) = true := fun n => by
    induction n with
    | zero => rfl
    | succ n ih => rw [List.replicate_succ, PyData.showableAll, ih]; decide
  have h2 : ∀ n : Nat, PyData.leavesShortAll 50 (List.replicate n (.int 0)) = true := fun n => by
    induction n with
    | zero => rfl
    | succ n ih => rw [List.replicate_succ, PyData.leavesShortAll, ih]; decide +kernel
  have h3 : ∀ n : Nat, PyData.weightAll (List.replicate n (.int 0)) = n := fun n => by
    induction n with
    | zero => rfl
    | succ n ih => rw [List.replicate_succ, PyData.weightAll, ih]; show 0 + 1 + n = n + 1; omega
  have h4 : ∀ n : Nat, PyData.depthAll (List.replicate n (.int 0)) = 0 := fun n => by
    induction n with
    | zero => rfl
    | succ n ih => rw [List.replicate_succ, PyData.depthAll, ih]; rfl
  exact ⟨h1 n, h2 n, Nat.le_of_eq (h3 n), by show PyData.depthAll _ + 1 ≤ 1; rw [h4]; exact Nat.le_refl _⟩
/-- the odd values -/
def odd1 : List PyData := [.none, .bool true, .bool false, .int (-1), .int 0, .int 1, .int (10 ^ (39 : Int).toNat), .int (-(10 ^ (39 : Int).toNat)), .str "", .str "a", .str "ab", .str "A", .tuple [], .tuple [.str "a"], .tuple [.str "a", .str "a"], .list [.str "a"], .list [.int 0]]
def odd2 : List PyData := [.tuple [.int 0], .tuple [.bool true], .tuple [.int 0, .int (-1)], .tuple [.none], .dict [], .dict [(.str "a", .int 1)]]
def odd3 : List PyData := [.tuple [.str "a", .int 1], .tuple [.tuple [.str "a"]], .list []]
def odd4 : PyData := .tuple (List.replicate (9000 : Int).toNat (.int 0))
def odd5 : PyData := .tuple [.str "a", .str "b"]
def fineB (d : PyData) : Bool := d.showable && d.leavesShort 50 && decide (d.weight ≤ 9000) && decide (d.depth ≤ 30)
theorem fine_of {d : PyData} (h : fineB d = true) : Fine 9000 30 d := by
  unfold fineB at h
  simp only [Bool.and_eq_true, decide_eq_true_eq] at h
  exact ⟨h.1.1.1, h.1.1.2, h.1.2, h.2⟩
theorem fine_all {ds : List PyData} (h : ds.all fineB = true) : ∀ d ∈ ds, Fine 9000 30 d := fun d hd => fine_of (List.all_eq_true.mp h d hd)
theorem fine1 : ∀ d ∈ odd1, Fine 9000 30 d := fine_all (by decide +kernel)
theorem fine2 : ∀ d ∈ odd2, Fine 9000 30 d := fine_all (by decide +kernel)
theorem fine3 : ∀ d ∈ odd3, Fine 9000 30 d := fine_all (by decide +kernel)
theorem fine4 : Fine 9000 30 odd4 := (rep_zero _).mono (by decide) (by decide)
theorem fine5 : Fine 9000 30 odd5 := fine_of (by decide +kernel)
theorem fine_odds {deep d : PyData} (h : Fine 9000 30 deep) (hd : d ∈ odd1 ++ (odd2 ++ deep :: (odd3 ++ [odd4])) ++ [odd5]) : Fine 9000 30 d := by
  rcases List.mem_append.mp hd with hd | hd
  · rcases List.mem_append.mp hd with hd | hd
    · exact fine1 d hd
    · rcases List.mem_append.mp hd with hd | hd
      · exact fine2 d hd
      · rcases List.mem_cons.mp hd with rfl | hd
        · exact h
        · rcases List.mem_append.mp hd with hd | hd
          · exact fine3 d hd
          · rw [List.mem_singleton.mp hd]
            exact fine4
  · rw [List.mem_singleton.mp hd]
    exact fine5
theorem Dxs.append {K : PySem.W.Frag} {H : Hp} : ∀ {vs ws : List V} {ds es : List PyData}, Dxs K H vs ds → Dxs K H ws es → Dxs K H (vs ++ ws) (ds ++ es)
  | _, _, _, _, .nil, t => t
  | _, _, _, _, .cons a b, t => .cons a (Dxs.append b t)
end My
set_option Elab.async false
set_option linter.all false
set_option maxRecDepth 100000
set_option maxHeartbeats 4000000
namespace My
open PySem PySem.Spec PyProof.Rows L2
section
variable {P : Program} {w : World} {K : PySem.W.Frag} {mg : Str → Option Value} {base : Heap} {f fT : Addr} {fd fdT : FuncData}
abbrev sOdd : Stmt := topS 13
theorem scOdd : FnScope ["_law_bag_here", "_law_deep", "_law_k", "_law_some"] ["_law_bag_here"] (defScope sOdd) := ⟨rfl, rfl, rfl, by decide +kernel, rfl, by decide +kernel, by decide +kernel⟩
theorem ok_odd (F : Fun K "_law_odd" "_law_odd" sOdd f fd) (T : Free mg) (FT : Fun K "_law_take" "_law_take" sTake fT fdT) (bT : Binds K fdT ["_law_bag_here", "_law_many"] []) (gT : mg "_law_take" = some (.ref fT)) :
    FnOk P w K mg base CX0 2 f fd ["_law_bag_here"] (spOdd K) := by
  have GT : FnOk P w K mg base CX0 1 fT fdT ["_law_bag_here", "_law_many"] spTake := ok_take' FT T.len T.int
  have nd := scOdd.nd
  refine F.ok scOdd (fun vs H Q E h => ?_) (fun cdv A outer s H vs Q E hr h => ?_)
  · obtain ⟨B, rfl, _⟩ := h
    rfl
  · obtain ⟨B, rfl, hB, k⟩ := h
    refine ⟨_, pss_cons (ps_set (i := 1) nd rfl (.inl rfl) (pe_lst pa_nil))
      (pss_cons (ps_for PassesOwn.never rfl (pi_range1 rfl T.range (pa_cons pe_int pa_nil)) (pg_name (i := 2) nd rfl (Or.inl rfl))
        (pss_one (ps_set (i := 1) nd rfl (.inl rfl) (pe_ix ix_list (pe_lst (pa_cons (pe_lst (pa_cons (pv 1) pa_nil)) (pa_cons (pe_tup (pa_cons (pv 1) pa_nil)) pa_nil)))
          (pe_callTy call_int1 (by rfl) T.int boot_int (pa_cons (pe_cmpR op_gt (pv 2) pe_int (nomark _)) pa_nil)) (fun _ _ => rfl)))))
      (pss_cons (ps_set (i := 3) nd rfl (.inl rfl) (pe_lst (pa_cons pe_non (pa_cons pe_bl (pa_cons pe_bl (pa_cons (pe_un un_neg pe_int) (pa_cons pe_int (pa_cons pe_int (pa_cons (pe_op op_pow pe_int pe_int) (pa_cons (pe_un un_neg (pe_op op_pow pe_int pe_int))
        (pa_cons pe_str (pa_cons pe_str (pa_cons pe_str (pa_cons pe_str (pa_cons (pe_tup pa_nil) (pa_cons (pe_tup (pa_cons pe_str pa_nil)) (pa_cons (pe_tup (pa_cons pe_str (pa_cons pe_str pa_nil))) (pa_cons (pe_lst (pa_cons pe_str pa_nil)) (pa_cons (pe_lst (pa_cons pe_int pa_nil)) pa_nil)))))))))))))))))))
      (pss_cons (ps_set (i := 3) nd rfl (.inl rfl) (pe_op op_cat (pv 3) (pe_lst (pa_cons (pe_tup (pa_cons pe_int pa_nil)) (pa_cons (pe_tup (pa_cons pe_bl pa_nil)) (pa_cons (pe_tup (pa_cons pe_int (pa_cons (pe_un un_neg pe_int) pa_nil))) (pa_cons (pe_tup (pa_cons pe_non pa_nil))
        (pa_cons pe_dnewK (pa_cons (pe_disp (pps_cons pe_str pe_int pps_nil) (by rfl) (by rfl) (fun z => by cases z) (by decide)) (pa_cons (pv 1) (pa_cons (pe_tup (pa_cons pe_str (pa_cons pe_int pa_nil))) (pa_cons (pe_tup (pa_cons (pe_tup (pa_cons pe_str pa_nil)) pa_nil)) (pa_cons (pe_lst pa_nil)
        (pa_cons (pe_op op_repW (pe_tup (pa_cons pe_int pa_nil)) pe_int) pa_nil))))))))))))))
      (pss_cons (ps_expr (pe_bm PySem.F.plainAttrs_list PySem.F.slot_list_append PySem.F.type_list_append mt_append (pv 3) (pa_cons (pe_tup (pa_cons pe_str (pa_cons pe_str pa_nil))) pa_nil)))
      (pss_one (ps_ret (pe_ix ix_list (pv 3) (pe_call GT hr (by rfl) gT FT.kp bT .nil pass0 (pa_cons (pv 0) (pa_cons pe_int pa_nil))) (fun _ _ => rfl)))))))), ?_⟩
    refine ⟨Nat.zero_le _, fun p0 hp0 => ?_⟩
    refine ⟨27, rfl, by decide, by decide, for_it (n := 27) walk_range (fun i σ H1 => ∃ v d k2, σ = [some (.ref B.b), some v, k2, none] ∧ Keep B.b H H1 ∧ BagOk H1 B ∧ Dx K (vis H H1) v d ∧ Fine i (i + 1) d)
      ⟨_, .list [], none, rfl, Keep.refl.new hp0, hB.new hp0, .lst (SqL.of (vis_get hp0 upd_same)) .nil, ⟨rfl, rfl, Nat.le_refl _, Nat.le_refl _⟩⟩ (fun _ _ _ _ _ => trivial) ?_ ?_⟩
    · rintro i x σ H1 H2 hi ⟨v, d, k2, rfl, k1, hB1, hd, hf⟩ ⟨rfl, rfl⟩
      refine p_set ?_
      refine p_op ?_
      refine p_lst ?_
      refine (dbs_cons hB (db_lst hB (dbs_cons hB (db_var (i := 1) rfl hB hd) dbs_nil)) (dbs_cons hB (db_tup hB (dbs_cons hB (db_var (i := 1) rfl hB hd) dbs_nil)) dbs_nil)) _ k1 Keep.refl hB1 _ fun vs H3 s2 hB2 hds => ?_
      cases hds with
      | cons hx hr2 =>
      cases hr2 with
      | cons hy hn =>
      cases hn
      rename_i x y
      refine ⟨by show 2 ≤ sizeLine; decide, fun p hp => ⟨_, rfl, _, _, rfl, rfl, .inr ⟨_, rfl, ?_⟩⟩⟩
      have kf : Keep B.b H (upd H3 p (.lst [x, y])) := (k1.trans s2).new hp
      have sx : Same (vis H H3) (vis H (upd H3 p (.lst [x, y]))) := vis_keep hB (Keep.refl.new hp)
      cases decide ((6 : Int) < 0 + (i : Int)) with
      | true => exact ⟨p, _, 1, y, rfl, rfl, SqL.of upd_same, rfl, _, _, _, rfl, kf, hB2.new hp, hy.same sx, hf.tuple1⟩
      | false => exact ⟨p, _, 0, x, rfl, rfl, SqL.of upd_same, rfl, _, _, _, rfl, kf, hB2.new hp, hx.same sx, hf.list1⟩
    · rintro σ H1 ⟨v, d, k2, rfl, k1, hB1, hd, hf⟩
      have hcp : CPow 10 39 := ⟨by decide, by decide, by decide⟩
      try dsimp only
      refine p_seq ?_
      refine p_set ?_
      try dsimp only
      refine p_lst ?_
      refine (show Dbs K B H _ _ _ odd1 from dbs_cons hB db_none (dbs_cons hB db_bl (dbs_cons hB db_bl (dbs_cons hB db_neg (dbs_cons hB db_int (dbs_cons hB db_int (dbs_cons hB (db_pow hcp) (dbs_cons hB (db_negpow hcp) (dbs_cons hB db_str (dbs_cons hB db_str (dbs_cons hB db_str (dbs_cons hB db_str (dbs_cons hB (db_tup hB dbs_nil) (dbs_cons hB (db_tup hB (dbs_cons hB db_str dbs_nil))
        (dbs_cons hB (db_tup hB (dbs_cons hB db_str (dbs_cons hB db_str dbs_nil))) (dbs_cons hB (db_lst hB (dbs_cons hB db_str dbs_nil)) (dbs_cons hB (db_lst hB (dbs_cons hB db_int dbs_nil)) dbs_nil))))))))))))))))) H1 k1 Keep.refl hB1 _ fun vs H2 s2 hB2 hds => ?_
      have hl1 := hds.length
      refine ⟨by rw [hl1]; exact line200 (Nat.le_of_ble_eq_true rfl), fun p hp => ?_⟩
      have s3 : Keep B.b H1 (upd H2 p (.lst vs)) := s2.new hp
      have hB3 := hB2.new (o := .lst vs) hp
      try dsimp only
      refine p_seq ?_
      refine p_set ?_
      try dsimp only
      refine p_op ?_
      refine p_var rfl ?_
      refine p_lst ?_
      refine (show Dbs K B H _ _ _ (odd2 ++ d :: (odd3 ++ [odd4])) from dbs_cons hB (db_tup hB (dbs_cons hB db_int dbs_nil)) (dbs_cons hB (db_tup hB (dbs_cons hB db_bl dbs_nil)) (dbs_cons hB (db_tup hB (dbs_cons hB db_int (dbs_cons hB db_neg dbs_nil))) (dbs_cons hB (db_tup hB (dbs_cons hB db_none dbs_nil)) (dbs_cons hB db_dnew (dbs_cons hB db_disp1 (dbs_cons hB (db_var (i := 1) rfl hB (hd.same (vis_keep hB s3)))
        (dbs_cons hB (db_tup hB (dbs_cons hB db_str (dbs_cons hB db_int dbs_nil))) (dbs_cons hB (db_tup hB (dbs_cons hB (db_tup hB (dbs_cons hB db_str dbs_nil)) dbs_nil)) (dbs_cons hB (db_lst hB dbs_nil) (dbs_cons hB (db_rep hB (db_tup hB (dbs_cons hB db_int dbs_nil)) (by decide) (by decide)) dbs_nil))))))))))) _ (k1.trans s3) Keep.refl hB3 _ fun vs2 H4 s4 hB4 hds2 => ?_
      have hl2 := hds2.length
      refine ⟨by rw [hl2]; exact line200 (Nat.le_of_ble_eq_true rfl), fun p2 hp2 => ?_⟩
      have np : p ≠ B.b := hB2.ne hp
      have hpl : (upd H4 p2 (.lst vs2)) p = some (.lst vs) := (Keep.of (same_new hp2)).get (s4.get upd_same np) np
      refine ⟨p, p2, vs, vs2, rfl, rfl, hpl, upd_same, by rw [hl1, hl2]; exact line200 (Nat.le_of_ble_eq_true rfl), fun p3 hp3 => ?_⟩
      have hB5 := hB4.new (o := .lst vs2) hp2
      have np3 : p3 ≠ B.b := hB5.ne hp3
      -- append
      refine ⟨_, rfl, .inl ⟨rfl, _, SqL.of upd_same⟩, Nat.le_of_ble_eq_true rfl, fun t ht => ⟨p3, vs ++ vs2, .ref t, rfl, rfl, ?_, ?_, ?_⟩⟩
      · exact ((same_new ht) _ _ upd_same)
      · rw [List.length_append, hl1, hl2]
        exact Nat.lt_of_lt_of_le (show 28 < 200000 by decide) (by decide)
      have hB6 := hB5.new (o := .lst (vs ++ vs2)) hp3
      have hB7 := (hB6.new (o := .tup [.str "a", .str "b"]) ht).mut (o := .lst (vs ++ vs2 ++ [.ref t])) np3 (hB5.neL hp3)
      -- the draw
      refine ⟨_, rfl, _, rfl, B, 29, rfl, hB7, by decide, by decide, fun n o g0 g1 hB8 => ?_⟩
      have hlen : (vs ++ vs2 ++ [V.ref t]).length = 29 := by rw [List.length_append, List.length_append, hl1, hl2]; rfl
      obtain ⟨u, e5, e6⟩ := atI_ex (l := vs ++ vs2 ++ [V.ref t]) g0 (by rw [hlen]; exact g1)
      have hL : (upd (upd (upd (upd (upd H4 p2 (.lst vs2)) p3 (.lst (vs ++ vs2))) t (.tup [.str "a", .str "b"])) p3 (.lst (vs ++ vs2 ++ [.ref t]))) B.b o) p3 = some (.lst (vs ++ vs2 ++ [.ref t])) := by
        rw [upd_ne np3, upd_same]
      refine ⟨p3, _, n, u, rfl, rfl, SqL.of hL, e5, ?_⟩
      -- what stood ahead of the last list stands
      have nt3 : t ≠ p3 := fun e => by
        rw [e, upd_same] at ht
        cases ht
      have k5 : Keep B.b H4 (upd H4 p2 (.lst vs2)) := Keep.refl.new hp2
      have k6 : Keep B.b (upd H4 p2 (.lst vs2)) (upd (upd (upd (upd H4 p2 (.lst vs2)) p3 (.lst (vs ++ vs2))) t (.tup [.str "a", .str "b"])) p3 (.lst (vs ++ vs2 ++ [.ref t]))) := ((Keep.refl.new hp3).new ht).mut hp3
      have k7 := k6.trans (Keep.bag (o := o))
      have nt : t ≠ B.b := hB6.ne ht
      have dt : Dx K (vis H (upd (upd (upd (upd (upd H4 p2 (.lst vs2)) p3 (.lst (vs ++ vs2))) t (.tup [.str "a", .str "b"])) p3 (.lst (vs ++ vs2 ++ [.ref t]))) B.b o)) (.ref t) odd5 := by
        refine .tup (SqT.of (vis_get ((k1.trans (s3.trans (s4.trans (k5.trans (Keep.refl.new hp3))))).fresh hB6 ht) ?_)) (.cons (.str _) (.cons (.str _) .nil))
        rw [upd_ne nt, upd_ne nt3, upd_same]
      have all := Dxs.append (Dxs.append (hds.same (vis_keep hB ((Keep.of (same_new hp)).trans (s4.trans (k5.trans k7))))) (hds2.same (vis_keep hB (k5.trans k7)))) (.cons dt .nil)
      have hn : (vs ++ vs2 ++ [V.ref t])[n.toNat]? = some u := by
        obtain ⟨j, e8, e9, _⟩ := atI_get e5
        rw [seqIndex_of g0 (by rw [hlen]; exact g1)] at e8
        rw [Option.some.inj e8]
        exact e9
      obtain ⟨du, f1, f2⟩ := all.get hn
      exact k u du _ (fine_odds (hf.mono (by decide) (by decide)) (List.mem_of_getElem? f1)) f2 (k1.trans (s3.trans (s4.trans (k5.trans k7)))) hB8
end
end My
set_option Elab.async false
set_option linter.all false
set_option maxRecDepth 100000
set_option maxHeartbeats 4000000
namespace My
open PySem PySem.Spec PyProof.Rows L2
def spParts (K : PySem.W.Frag) : Sp := fun vs H Q _ => ∃ B : BI, vs = [.ref B.b] ∧ BagOk H B ∧ ∀ (p : Addr) (xs : List V) (ds : List PyData) (H' : Hp), H p = none → H' p = some (.lst xs) →
  Dxs K (hid B.b H') xs ds → ds.length ≤ 6 → (∀ d ∈ ds, Fine 9000 30 d) → Keep B.b H H' → BagOk H' B → Q (.ref p) H'
theorem Dxs.set {K : PySem.W.Frag} {H : Hp} {v : V} {d : PyData} (h : Dx K H v d) : ∀ {vs : List V} {ds : List PyData} (i : Nat), Dxs K H vs ds → Dxs K H (vs.set i v) (ds.set i d)
  | _, _, _, .nil => .nil
  | _, _, 0, .cons _ t => .cons h t
  | _, _, i + 1, .cons a t => .cons a (Dxs.set h i t)
theorem vis_mut {Hs H : Hp} {p : Addr} {o : HO} (h : Hs p ≠ none) : Same (vis Hs H) (vis Hs (upd H p o)) := fun a u e => by
  have n : a ≠ p := fun q => h (q ▸ (vis_of e).1)
  exact vis_get (vis_of e).1 (by rw [upd_ne n]; exact (vis_of e).2)
/-- data without objects -/
def flat0 : Hp := fun _ => none
theorem flat_same {H : Hp} : Same flat0 H := fun _ _ e => nomatch e
def ints7 : List PyData := [.int (-2), .int (-1), .int 0, .int 1, .int 2, .int (10 ^ (39 : Int).toNat), .int (-(10 ^ (39 : Int).toNat))]
def strs4 : List PyData := [.str "a", .str "b", .str "ab", .str "zzzzzzzz"]
theorem fine7 : ∀ d ∈ ints7, Fine 9000 30 d := fine_all (by decide +kernel)
theorem fineS : ∀ d ∈ strs4, Fine 9000 30 d := fine_all (by decide +kernel)
/-- the items so far: flat and fine -/
def FlatI (K : PySem.W.Frag) (i : Nat) (acc : List V) : Prop := ∃ ds, Dxs K flat0 acc ds ∧ acc.length = i ∧ ∀ d ∈ ds, Fine 9000 30 d
theorem FlatI.add {K : PySem.W.Frag} {i : Nat} {acc : List V} {v : V} {d : PyData} (h : FlatI K i acc) (hd : Dx K flat0 v d) (hf : Fine 9000 30 d) : FlatI K (i + 1) (acc ++ [v]) := by
  obtain ⟨ds, h1, h2, h3⟩ := h
  refine ⟨ds ++ [d], Dxs.append h1 (.cons hd .nil), by rw [List.length_append, h2]; rfl, fun e he => ?_⟩
  rcases List.mem_append.mp he with he | he
  · exact h3 e he
  · rw [List.mem_singleton.mp he]
    exact hf
section
variable {P : Program} {w : World} {K : PySem.W.Frag} {mg : Str → Option Value} {base : Heap} {f fT fO fN : Addr} {fd fdT fdO fdN : FuncData}
abbrev sParts : Stmt := topS 17
theorem scParts : FnScope ["_law_bag_here", "_law_way", "_law_many", "_law_found", "_law_k"] ["_law_bag_here"] (defScope sParts) := ⟨rfl, rfl, rfl, by decide +kernel, rfl, by decide +kernel, by decide +kernel⟩
theorem ok_parts (F : Fun K "_law_parts" "_law_parts" sParts f fd) (T : Free mg) (FT : Fun K "_law_take" "_law_take" sTake fT fdT) (bT : Binds K fdT ["_law_bag_here", "_law_many"] []) (gT : mg "_law_take" = some (.ref fT))
    (FO : Fun K "_law_odd" "_law_odd" sOdd fO fdO) (bO : Binds K fdO ["_law_bag_here"] []) (gO : mg "_law_odd" = some (.ref fO))
    (FN : Fun K "_law_name_near" "_law_name_near" sNear fN fdN) (bN : Binds K fdN ["_law_bag_here"] []) (gN : mg "_law_name_near" = some (.ref fN)) :
    FnOk P w K mg base CX0 3 f fd ["_law_bag_here"] (spParts K) := by
  have GT : FnOk P w K mg base CX0 2 fT fdT ["_law_bag_here", "_law_many"] spTake := (ok_take' FT T.len T.int).mono (by decide)
  have GO : FnOk P w K mg base CX0 2 fO fdO ["_law_bag_here"] (spOdd K) := ok_odd FO T FT bT gT
  have GN : FnOk P w K mg base CX0 2 fN fdN ["_law_bag_here"] spNear := ok_near FN T FT bT gT
  have nd := scParts.nd
  refine F.ok scParts (fun vs H Q E h => ?_) (fun cdv A outer s H vs Q E hr h => ?_)
  · obtain ⟨B, rfl, _⟩ := h
    rfl
  · obtain ⟨B, rfl, hB, k⟩ := h
    refine ⟨_, pss_cons (ps_par (i := 1) (j := 2) (by rfl) nd rfl rfl (by decide) rfl rfl (pa_cons (pe_call GT hr (by rfl) gT FT.kp bT .nil pass0 (pa_cons (pv 0) (pa_cons pe_int pa_nil)))
        (pa_cons (pe_call GT hr (by rfl) gT FT.kp bT .nil pass0 (pa_cons (pv 0) (pa_cons pe_int pa_nil))) pa_nil)) (by rfl))
      (C8.pss_cut (ps_if (pt_cmpR op_eq (pv 1) pe_int (nomark _))
        (pss_one (ps_setLc (i := 3) (own := [("_law_k", 4)]) (g := gName 4) (by rfl) nd rfl rfl (sw_true rfl rfl rfl (by decide +kernel)) (pi_range1 rfl T.range (pa_cons (pv 2) pa_nil))
          (blkOk_by (own := [("_law_k", 4)]) (N := ["_law_bag_here", "_law_way", "_law_many", "_law_found", "_law_k"]) (sc := defScope sParts) (by decide +kernel)) (fun _ _ _ _ _ => pg_name (i := 4) nd rfl (Or.inl rfl)) (fun _ _ _ _ _ => pts_nil)
          (fun _ _ _ _ _ => pe_ix (r := rIxL K) ix_list (pe_lst (pa_cons (pe_un un_neg pe_int) (pa_cons (pe_un un_neg pe_int) (pa_cons pe_int (pa_cons pe_int (pa_cons pe_int (pa_cons (pe_op op_pow pe_int pe_int) (pa_cons (pe_un un_neg (pe_op op_pow pe_int pe_int)) pa_nil))))))))
            (pe_call GT hr (by rfl) gT FT.kp bT .nil pass0 (pa_cons (pv 0) (pa_cons pe_int pa_nil))) (fun _ _ => rfl))))
        (pss_one (ps_setLc (i := 3) (own := [("_law_k", 4)]) (g := gName 4) (by rfl) nd rfl rfl (sw_true rfl rfl rfl (by decide +kernel)) (pi_range1 rfl T.range (pa_cons (pv 2) pa_nil))
          (blkOk_by (own := [("_law_k", 4)]) (N := ["_law_bag_here", "_law_way", "_law_many", "_law_found", "_law_k"]) (sc := defScope sParts) (by decide +kernel)) (fun _ _ _ _ _ => pg_name (i := 4) nd rfl (Or.inl rfl)) (fun _ _ _ _ _ => pts_nil)
          (fun _ _ _ _ _ => pe_ix (r := rIxL K) ix_list (pe_lst (pa_cons pe_str (pa_cons pe_str (pa_cons pe_str (pa_cons pe_str pa_nil)))))
            (pe_call GT hr (by rfl) gT FT.kp bT .nil pass0 (pa_cons (pv 0) (pa_cons pe_int pa_nil))) (fun _ _ => rfl)))))
      (C8.pss_cut (ps_if (PW.pt (pw_and (pt_cmpR (op_neNil hr.units0) (pv 3) (pe_lst pa_nil) (nomark _)) (pw_and1 (pt_cmpR op_eq (pe_call GT hr (by rfl) gT FT.kp bT .nil pass0 (pa_cons (pv 0) (pa_cons pe_int pa_nil))) pe_int (nomark _)))))
        (pss_one (ps_asg (pe_ix ix_list (pe_lst (pa_cons (pe_call GO hr (by rfl) gO FO.kp bO .nil pass0 (pa_cons (pv 0) pa_nil)) (pa_cons (pe_call GN hr (by rfl) gN FN.kp bN .nil pass0 (pa_cons (pv 0) pa_nil)) pa_nil)))
            (pe_call GT hr (by rfl) gT FT.kp bT .nil pass0 (pa_cons (pv 0) (pa_cons pe_int pa_nil))) (fun _ _ => rfl))
          (pg_sub (pv 3) (pe_call GT hr (by rfl) gT FT.kp bT .nil pass0 (pa_cons (pv 0) (pa_cons (pe_callB call_len_seq (by rfl) T.len PySem.boot_len (pa_cons (pv 3) pa_nil)) pa_nil))) set_list))) pss_nil)
      (pss_one (ps_ret (pv 3))))), ?_⟩
    -- way, many
    refine ⟨_, rfl, B, 2, rfl, hB, by decide, by decide, fun way o1 _ _ hB1 => ⟨_, rfl, B, 7, rfl, hB1, by decide, by decide, fun many o2 g0 g1 hB2 => ⟨_, _, rfl, ?_⟩⟩⟩
    have k2 : Keep B.b H (upd (upd H B.b o1) B.b o2) := Keep.bag.trans Keep.bag
    refine ⟨fun σ' H' => ∃ D acc, σ' = [some (.ref B.b), some (.int way), some (.int many), some (.ref D), none] ∧ H D = none ∧ Keep B.b H H' ∧ BagOk H' B ∧ H' D = some (.lst acc) ∧ acc.length ≤ 6 ∧ ∃ ds, Dxs K flat0 acc ds ∧ ∀ d ∈ ds, Fine 9000 30 d, ?_, ?_⟩
    · have hcp : CPow 10 39 := ⟨by decide, by decide, by decide⟩
      refine ⟨_, rfl, rfl, _, rfl, ite2 (fun _ => ?_) (fun _ => ?_)⟩
      · refine ⟨_, rfl, many, rfl, by omega, by omega, fun D hD => ?_⟩
        refine lc_bag (B := B) walk_range (line200 (by omega)) hD hB2 (fun _ _ => trivial) (fun i acc _ => FlatI K i acc) ⟨[], .nil, rfl, fun _ h => nomatch h⟩ (fun i x H1 H2 acc R Rn hi kk hBi hDi ha hy h4 h5 => ?_) (fun H1 acc kk hB3 hD3 hl ha => ?_)
        · obtain ⟨rfl, rfl⟩ := hy
          refine ⟨rfl, _, rfl, _, rfl, _, _, rfl, rfl, hcp, _, _, rfl, rfl, hcp, _, rfl, Nat.le_of_ble_eq_true rfl, fun p hp => ⟨_, rfl, B, 7, rfl, hBi.new hp, by decide, by decide, fun n o3 q0 q1 hB4 => ?_⟩⟩
          obtain ⟨u, e5, e6⟩ := atI_ex (l := [V.int (-2), .int (-1), .int 0, .int 1, .int 2, .int (10 ^ (39 : Int).toNat), .int (-(10 ^ (39 : Int).toNat))]) q0 q1
          have hn : p ≠ B.b := hBi.ne hp
          refine ⟨p, _, n, u, rfl, rfl, SqL.of (by rw [upd_ne hn, upd_same]), e5, h4 _ _ ((Keep.refl.new hp).trans Keep.bag) hB4 ?_⟩
          obtain ⟨z, rfl, hz⟩ : ∃ z : Int, u = .int z ∧ PyData.int z ∈ ints7 := by
            unfold ints7
            simp only [List.mem_cons, List.not_mem_nil, or_false] at e6 ⊢
            rcases e6 with rfl | rfl | rfl | rfl | rfl | rfl | rfl <;> exact ⟨_, rfl, by simp⟩
          exact ha.add (.int z) (fine7 _ hz)
        · obtain ⟨ds, a1, a2, a3⟩ := ha
          exact ⟨D, acc, rfl, k2.fresh hB2 hD, k2.trans kk, hB3, hD3, by omega, ds, a1, a3⟩
      · refine ⟨_, rfl, many, rfl, by omega, by omega, fun D hD => ?_⟩
        refine lc_bag (B := B) walk_range (line200 (by omega)) hD hB2 (fun _ _ => trivial) (fun i acc _ => FlatI K i acc) ⟨[], .nil, rfl, fun _ h => nomatch h⟩ (fun i x H1 H2 acc R Rn hi kk hBi hDi ha hy h4 h5 => ?_) (fun H1 acc kk hB3 hD3 hl ha => ?_)
        · obtain ⟨rfl, rfl⟩ := hy
          refine ⟨rfl, Nat.le_of_ble_eq_true rfl, fun p hp => ⟨_, rfl, B, 4, rfl, hBi.new hp, by decide, by decide, fun n o3 q0 q1 hB4 => ?_⟩⟩
          obtain ⟨u, e5, e6⟩ := atI_ex (l := [V.str "a", .str "b", .str "ab", .str "zzzzzzzz"]) q0 q1
          have hn : p ≠ B.b := hBi.ne hp
          refine ⟨p, _, n, u, rfl, rfl, SqL.of (by rw [upd_ne hn, upd_same]), e5, h4 _ _ ((Keep.refl.new hp).trans Keep.bag) hB4 ?_⟩
          obtain ⟨z, rfl, hz⟩ : ∃ z : Str, u = .str z ∧ PyData.str z ∈ strs4 := by
            unfold strs4
            simp only [List.mem_cons, List.not_mem_nil, or_false] at e6 ⊢
            rcases e6 with rfl | rfl | rfl | rfl <;> exact ⟨_, rfl, by simp⟩
          exact ha.add (.str z) (fineS _ hz)
        · obtain ⟨ds, a1, a2, a3⟩ := ha
          exact ⟨D, acc, rfl, k2.fresh hB2 hD, k2.trans kk, hB3, hD3, by omega, ds, a1, a3⟩
    · rintro σ H1 ⟨D, acc, rfl, hD, kk, hB3, hD3, hl, ds, a1, a3⟩
      have nD : D ≠ B.b := hB.ne hD
      have nDL : D ≠ B.L := hB.neL hD
      have fin : ∀ H2, Keep B.b H1 H2 → BagOk H2 B → ∃ p xs ds, (V.ref D = .ref p) ∧ H p = none ∧ H2 p = some (.lst xs) ∧ Dxs K (hid B.b H2) xs ds ∧ ds.length ≤ 6 ∧ (∀ d ∈ ds, Fine 9000 30 d) ∧ Keep B.b H H2 ∧ BagOk H2 B := fun H2 k3 hB4 =>
        ⟨D, acc, ds, rfl, hD, k3.get hD3 nD, a1.same flat_same, by rw [← a1.length]; exact hl, a3, kk.trans k3, hB4⟩
      refine ⟨fun σ' H' => σ'[3]? = some (some (.ref D)) ∧ ∃ p xs ds, (V.ref D = .ref p) ∧ H p = none ∧ H' p = some (.lst xs) ∧ Dxs K (hid B.b H') xs ds ∧ ds.length ≤ 6 ∧ (∀ d ∈ ds, Fine 9000 30 d) ∧ Keep B.b H H' ∧ BagOk H' B, ?_, ?_⟩
      · refine ⟨_, rfl, Nat.zero_le _, fun T0 hT0 => ?_⟩
        have s0 := same_new (o := .lst []) hT0
        refine ⟨D, T0, acc, rfl, rfl, SqL.of (s0 _ _ hD3), SqL.of upd_same, _, rfl, ?_⟩
        cases hne : acc.isEmpty with
        | true => exact iteF (iteF ⟨rfl, fin _ (Keep.of s0) (hB3.same s0)⟩)
        | false =>
          refine iteT ⟨_, rfl, B, 3, rfl, hB3.same s0, by decide, by decide, fun n o3 q0 q1 hB4 => ⟨rfl, _, rfl, ite2 (fun _ => ?_) (fun _ => ?_)⟩⟩
          · -- one part otherwise
            have k4 : Keep B.b H1 (upd (upd H1 T0 (.lst [])) B.b o3) := (Keep.of s0).trans Keep.bag
            refine ⟨_, rfl, B, rfl, hB4, fun v d H5 hf hd k5 hB5 => ⟨_, rfl, B, rfl, hB5, fun x H6 hx k6 hB6 => ⟨Nat.le_of_ble_eq_true rfl, fun p hp => ?_⟩⟩⟩
            refine ⟨_, rfl, B, 2, rfl, hB6.new hp, by decide, by decide, fun n2 o4 q2 q3 hB7 => ?_⟩
            obtain ⟨u, e5, e6⟩ := atI_ex (l := [v, V.str x]) q2 q3
            have np : p ≠ B.b := hB6.ne hp
            refine ⟨p, _, n2, u, rfl, rfl, SqL.of (by rw [upd_ne np, upd_same]), e5, ?_⟩
            have k7 : Keep B.b H5 (upd (upd H6 p (.lst [v, .str x])) B.b o4) := (k6.new hp).trans Keep.bag
            have k8 := k4.trans (k5.trans k7)
            have hD8 := k8.get hD3 nD
            have hlen : 0 < acc.length := by
              cases acc with
              | nil => cases hne
              | cons _ _ => exact Nat.succ_pos _
            refine ⟨_, rfl, _, rfl, _, rfl, D, acc, rfl, .inl (SqL.of hD8), B, _, rfl, hB7, by omega, by omega, fun n3 o5 q4 q5 hB8 => ?_⟩
            have k9 := k7.trans (Keep.bag (o := o5))
            have hD9 := (k4.trans (k5.trans k9)).get hD3 nD
            have hix : ixN acc.length n3 = some n3.toNat := by
              unfold ixN
              rw [if_pos q4, if_pos q5]
            refine ⟨D, acc, n3, n3.toNat, rfl, rfl, hD9, hix, rfl, D, acc.set n3.toNat u, ?_⟩
            obtain ⟨du, hfu, hdu⟩ : ∃ du, Fine 9000 30 du ∧ Dx K (vis (upd (upd H1 T0 (.lst [])) B.b o3) (upd (upd (upd H6 p (.lst [v, .str x])) B.b o4) B.b o5)) u du := by
              rcases List.mem_cons.mp e6 with rfl | e6
              · exact ⟨d, hf, hd.same (vis_keep hB4 k9)⟩
              · rw [List.mem_singleton.mp e6]
                exact ⟨.str x, (Fine.str hx).mono (by decide) (by decide), .str x⟩
            have hDn : (upd (upd H1 T0 (.lst [])) B.b o3) D ≠ none := by
              rw [k4.get hD3 nD]
              exact fun z => nomatch z
            refine ⟨ds.set n3.toNat du, rfl, hD, upd_same, Dxs.set (hdu.same ((vis_mut hDn).trans (vis_hid hB4))) _ (a1.same flat_same), ?_, fun e he => ?_, ?_, hB8.mut nD nDL⟩
            · rw [List.length_set, ← a1.length]
              exact hl
            · rcases List.mem_or_eq_of_mem_set he with he | rfl
              · exact a3 e he
              · exact hfu
            · exact (kk.trans (k4.trans (k5.trans k9))).mut hD
          · exact ⟨rfl, fin _ ((Keep.of s0).trans Keep.bag) hB4⟩
      · rintro σ' H2 ⟨e, p, xs, ds', e1, h1, h2, h3, h4, h5, h6, h7⟩
        cases e1
        exact ⟨_, e, k D xs ds' H2 h1 h2 h3 h4 h5 h6 h7⟩
end
end My
set_option Elab.async false
set_option linter.all false
set_option maxRecDepth 100000
set_option maxHeartbeats 4000000
namespace My
open PySem PySem.Spec PyProof.Rows L2
def spAlike (K : PySem.W.Frag) : Sp := fun vs H Q _ => ∃ x y d, vs = [x, y] ∧ Dp K H x d ∧ Dp K H y d ∧ SeqAt.shaped d = true ∧ Shows d ∧ Q (.bl true) H
section
variable {P : Program} {w : World} {K : PySem.W.Frag} {mg : Str → Option Value} {base : Heap} {f fT fO fN fP : Addr} {fd fdT fdO fdN fdP : FuncData}
abbrev sAlike : Stmt := topS 10
theorem scAlike : FnScope ["_law_found", "_law_due"] ["_law_found", "_law_due"] (defScope sAlike) := ⟨rfl, rfl, rfl, by decide +kernel, rfl, by decide +kernel, by decide +kernel⟩
theorem ok_alike (F : Fun K "_law_alike" "_law_alike" sAlike f fd) (T : Free mg) (hsy : ∃ mm, base.Ns sysModules mm) :
    FnG P w K mg base CX0 1 f fd ["_law_found", "_law_due"] (spAlike K) := by
  refine okG F scAlike (fun vs H Q E h => ?_) (fun cdv A outer s H vs Q E hr hg h => ?_)
  · obtain ⟨x, y, d, rfl, _⟩ := h
    rfl
  · obtain ⟨x, y, d, rfl, hx, hy, hsh, hz, k⟩ := h
    have hu : (A.deeper (envOfC "_law_alike" (defScope sAlike) s.heap.objs.size f cdv)).units + 200 < cLine := by have := hr.un; omega
    refine ⟨_, pss_one (ps_ret (pe_and (pe_cmpR (op_eqD hr.units) (pv 0) (pv 1) (nomark _))
      (pe_one (pe_cmpR op_eq (pe_callB (call_reprX hg hu hsy) (by rfl) T.repr boot_repr (pa_cons (pv 0) pa_nil)) (pe_callB (call_reprX hg hu hsy) (by rfl) T.repr boot_repr (pa_cons (pv 1) pa_nil)) (nomark _))))), ?_⟩
    refine ⟨_, rfl, _, rfl, d, d, hx, hy, hsh, hsh, _, rfl, ?_⟩
    rw [SeqAt.eqv_refl d (SeqAt.canLay_of_shaped hsh)]
    refine iteT ⟨_, rfl, _, d, rfl, Dx.ofDp hx, hz, _, rfl, _, d, rfl, Dx.ofDp hy, hz, rfl, ?_⟩
    rw [decide_eq_true rfl]
    exact k
end
end My
set_option Elab.async false
set_option linter.all false
set_option maxRecDepth 100000
set_option maxHeartbeats 4000000
namespace My
open PySem PySem.Spec PyProof.Rows L2
def spLaw (K : PySem.W.Frag) : Sp := fun vs H Q _ => ∃ (a : Addr) (ns : List Int), vs = [.ref a] ∧ SqL K H a (ns.map V.int) ∧ ns.length ≤ 63 ∧ ∀ H', Q (.bl true) H'
theorem fine_seq {ds : List PyData} (hl : ds.length ≤ 6) (h : ∀ d ∈ ds, Fine 9000 30 d) : Fine 60000 40 (.tuple ds) ∧ Fine 60000 40 (.list ds) := by
  have h1 : PyData.showableAll ds = true := by
    clear hl
    induction ds with
    | nil => rfl
    | cons x r ih => simp only [PyData.showableAll, (h x List.mem_cons_self).able, ih fun d hd => h d (List.mem_cons_of_mem _ hd), Bool.and_self]
  have h2 : PyData.leavesShortAll 50 ds = true := by
    clear hl h1
    induction ds with
    | nil => rfl
    | cons x r ih => simp only [PyData.leavesShortAll, (h x List.mem_cons_self).short, ih fun d hd => h d (List.mem_cons_of_mem _ hd), Bool.and_self]
  have h3 : PyData.weightAll ds ≤ ds.length * 9001 := by
    clear hl h1 h2
    induction ds with
    | nil => exact Nat.le_refl _
    | cons x r ih =>
      have a := (h x List.mem_cons_self).wt
      have b := ih fun d hd => h d (List.mem_cons_of_mem _ hd)
      rw [PyData.weightAll, List.length_cons, Nat.succ_mul]
      omega
  have h4 : PyData.depthAll ds ≤ 30 := by
    clear hl h1 h2 h3
    induction ds with
    | nil => exact Nat.zero_le _
    | cons x r ih =>
      have a := (h x List.mem_cons_self).dp
      have b := ih fun d hd => h d (List.mem_cons_of_mem _ hd)
      rw [PyData.depthAll]
      omega
  have h5 : ds.length * 9001 ≤ 6 * 9001 := Nat.mul_le_mul_right _ hl
  constructor
  · exact ⟨by simpa [PyData.showable] using h1, by simpa [PyData.leavesShort] using h2, by show PyData.weightAll ds ≤ _; omega, by show PyData.depthAll ds + 1 ≤ _; omega⟩
  · exact ⟨by simpa [PyData.showable] using h1, by simpa [PyData.leavesShort] using h2, by show PyData.weightAll ds ≤ _; omega, by show PyData.depthAll ds + 1 ≤ _; omega⟩
/-- the four answers of one kind of checks -/
def four (d : PyData) : List Bool := [isInteger d, isName d, isRow d, isWay d]
def fourD (d : PyData) : PyData := .list ((four d).map .bool)
theorem four_ok (d : PyData) : SeqAt.shaped (fourD d) = true ∧ Shows (fourD d) := by
  unfold fourD four
  cases isInteger d <;> cases isName d <;> cases isRow d <;> cases isWay d <;> exact ⟨by decide +kernel, by decide +kernel, by decide +kernel, by decide +kernel⟩
theorem four_dp {K : PySem.W.Frag} {H : Hp} {p : Addr} {d : PyData} (h : H p = some (.lst [.bl (isInteger d), .bl (isName d), .bl (isRow d), .bl (isWay d)])) : Dp K H (.ref p) (fourD d) :=
  .lst (SqL.of h) (.cons (.bl _) (.cons (.bl _) (.cons (.bl _) (.cons (.bl _) .nil))))
section
variable {P : Program} {w : World} {K : PySem.W.Frag} {mg : Str → Option Value} {base : Heap}
/-- a def with its place and its binding -/
structure Def1 (K : PySem.W.Frag) (mg : Str → Option Value) (x : Str) (st : Stmt) (ps : List Str) (f : Addr) (fd : FuncData) : Prop where
  F : Fun K x x st f fd
  b : Binds K fd ps []
  g : mg x = some (.ref f)
abbrev sLaw : Stmt := topS 18
abbrev NL : List Str := ["_law_script", "_law_bag_here", "_law_turn", "_law_parts_here", "_law_thing", "_law_shown", "_law_again", "_law_found", "_law_due"]
theorem scLaw : FnScope NL ["_law_script"] (defScope sLaw) := ⟨rfl, rfl, rfl, by decide +kernel, rfl, by decide +kernel, by decide +kernel⟩
theorem ok_law {f f3 f4 f5 f6 f8 f9 f10 f11 f12 f13 f14 f15 f16 f17 : Addr} {fd d3 d4 d5 d6 d8 d9 d10 d11 d12 d13 d14 d15 d16 d17 : FuncData} (F : Fun K "law" "law" sLaw f fd) (T : Free mg) (hsy : ∃ mm, base.Ns sysModules mm)
    {t1 t2 : Tok} (gL : mg "LETTERS" = some (.str lettersS t1)) (gM : mg "MOST_LETTERS" = some (.int 8 t2))
    (E3 : Def1 K mg "is_integer" sIsInteger ["thing"] f3 d3) (E4 : Def1 K mg "is_name" sIsName ["thing"] f4 d4) (E5 : Def1 K mg "is_row" sIsRow ["thing"] f5 d5) (E6 : Def1 K mg "is_way" sIsWay ["thing"] f6 d6)
    (E8 : Def1 K mg "_law_bag" sBag ["_law_script"] f8 d8) (E9 : Def1 K mg "_law_take" sTake ["_law_bag_here", "_law_many"] f9 d9) (E10 : Def1 K mg "_law_alike" sAlike ["_law_found", "_law_due"] f10 d10)
    (E11 : Def1 K mg "_law_is_name" sLName ["_law_thing"] f11 d11) (E12 : Def1 K mg "_law_name_near" sNear ["_law_bag_here"] f12 d12) (E13 : Def1 K mg "_law_odd" sOdd ["_law_bag_here"] f13 d13)
    (E14 : Def1 K mg "_law_is_integer" sLInteger ["_law_thing"] f14 d14) (E15 : Def1 K mg "_law_is_row" sLRow ["_law_thing"] f15 d15) (E16 : Def1 K mg "_law_is_way" sLWay ["_law_thing"] f16 d16) (E17 : Def1 K mg "_law_parts" sParts ["_law_bag_here"] f17 d17) :
    FnG P w K mg base CX0 4 f fd ["_law_script"] (spLaw K) := by
  have G3 : FnOk P w K mg base CX0 3 f3 d3 ["thing"] (spChk K isInteger) := (ok_is_integer E3.F T).mono (by decide)
  have G4 : FnOk P w K mg base CX0 3 f4 d4 ["thing"] (spChk K isName) := (ok_is_name E4.F T gL gM).mono (by decide)
  have G5 : FnOk P w K mg base CX0 3 f5 d5 ["thing"] (spChk K isRow) := (ok_is_row E5.F T E3.F E3.b E3.g).mono (by decide)
  have G6 : FnOk P w K mg base CX0 3 f6 d6 ["thing"] (spChk K isWay) := (ok_is_way E6.F T E4.F E4.b E4.g gL gM).mono (by decide)
  have G8 : FnOk P w K mg base CX0 3 f8 d8 ["_law_script"] (spBag K) := (ok_bag E8.F T).mono (by decide)
  have G9 : FnOk P w K mg base CX0 3 f9 d9 ["_law_bag_here", "_law_many"] spTake := (ok_take' E9.F T.len T.int).mono (by decide)
  have G10 : FnG P w K mg base CX0 3 f10 d10 ["_law_found", "_law_due"] (spAlike K) := (ok_alike E10.F T hsy).mono (by decide)
  have G11 : FnOk P w K mg base CX0 3 f11 d11 ["_law_thing"] (spChk K isName) := (ok_l_name E11.F T).mono (by decide)
  have G12 : FnOk P w K mg base CX0 3 f12 d12 ["_law_bag_here"] spNear := (ok_near E12.F T E9.F E9.b E9.g).mono (by decide)
  have G13 : FnOk P w K mg base CX0 3 f13 d13 ["_law_bag_here"] (spOdd K) := (ok_odd E13.F T E9.F E9.b E9.g).mono (by decide)
  have G14 : FnOk P w K mg base CX0 3 f14 d14 ["_law_thing"] (spChk K isInteger) := (ok_l_integer E14.F T).mono (by decide)
  have G15 : FnOk P w K mg base CX0 3 f15 d15 ["_law_thing"] (spChk K isRow) := (ok_l_row E15.F T E14.F E14.b E14.g).mono (by decide)
  have G16 : FnOk P w K mg base CX0 3 f16 d16 ["_law_thing"] (spChk K isWay) := (ok_l_way E16.F T E11.F E11.b E11.g).mono (by decide)
  have G17 : FnOk P w K mg base CX0 3 f17 d17 ["_law_bag_here"] (spParts K) := ok_parts E17.F T E9.F E9.b E9.g E13.F E13.b E13.g E12.F E12.b E12.g
  have nd := scLaw.nd
  refine okG F scLaw (fun vs H Q E h => ?_) (fun cdv A outer s H vs Q E hr hg h => ?_)
  · obtain ⟨a, ns, rfl, _⟩ := h
    rfl
  · obtain ⟨a, ns, rfl, hS, hlen, k⟩ := h
    have hu : (A.deeper (envOfC "law" (defScope sLaw) s.heap.objs.size f cdv)).units + 200 < cLine := by have := hr.un; omega
    refine ⟨_, pss_cons (ps_set (i := 1) nd rfl (.inl rfl) (pe_call G8 hr (by rfl) E8.g E8.F.kp E8.b .nil pass0 (pa_cons (pv 0) pa_nil)))
      (pss_cons (ps_for PassesOwn.never rfl (pi_range1 rfl T.range (pa_cons pe_int pa_nil)) (pg_name (i := 2) nd rfl (Or.inl rfl))
        (pss_cons (ps_set (i := 3) nd rfl (.inl rfl) (pe_call G17 hr (by rfl) E17.g E17.F.kp E17.b .nil pass0 (pa_cons (pv 1) pa_nil)))
        (pss_cons (ps_set (i := 4) nd rfl (.inl rfl) (pe_ix ix_list (pe_lst (pa_cons (pe_callTy call_tuple_of (by rfl) T.tuple boot_tuple (pa_cons (pv 3) pa_nil)) (pa_cons (pe_callTy call_tuple_of (by rfl) T.tuple boot_tuple (pa_cons (pv 3) pa_nil)) (pa_cons (pv 3)
          (pa_cons (pe_call G13 hr (by rfl) E13.g E13.F.kp E13.b .nil pass0 (pa_cons (pv 1) pa_nil)) (pa_cons (pe_call G12 hr (by rfl) E12.g E12.F.kp E12.b .nil pass0 (pa_cons (pv 1) pa_nil)) pa_nil))))))
          (pe_call G9 hr (by rfl) E9.g E9.F.kp E9.b .nil pass0 (pa_cons (pv 1) (pa_cons pe_int pa_nil))) (fun _ _ => rfl)))
        (pss_cons (ps_set (i := 5) nd rfl (.inl rfl) (pe_callB (call_reprX hg hu hsy) (by rfl) T.repr boot_repr (pa_cons (pv 4) pa_nil)))
        (pss_one (ps_for PassesOwn.never rfl (pi_range1 rfl T.range (pa_cons pe_int pa_nil)) (pg_name (i := 6) nd rfl (Or.inl rfl))
          (pss_cons (ps_set (i := 7) nd rfl (.inl rfl) (pe_lst (pa_cons (pe_call G3 hr (by rfl) E3.g E3.F.kp E3.b .nil pass0 (pa_cons (pv 4) pa_nil)) (pa_cons (pe_call G4 hr (by rfl) E4.g E4.F.kp E4.b .nil pass0 (pa_cons (pv 4) pa_nil))
            (pa_cons (pe_call G5 hr (by rfl) E5.g E5.F.kp E5.b .nil pass0 (pa_cons (pv 4) pa_nil)) (pa_cons (pe_call G6 hr (by rfl) E6.g E6.F.kp E6.b .nil pass0 (pa_cons (pv 4) pa_nil)) pa_nil))))))
          (pss_cons (ps_set (i := 8) nd rfl (.inl rfl) (pe_lst (pa_cons (pe_call G14 hr (by rfl) E14.g E14.F.kp E14.b .nil pass0 (pa_cons (pv 4) pa_nil)) (pa_cons (pe_call G11 hr (by rfl) E11.g E11.F.kp E11.b .nil pass0 (pa_cons (pv 4) pa_nil))
            (pa_cons (pe_call G15 hr (by rfl) E15.g E15.F.kp E15.b .nil pass0 (pa_cons (pv 4) pa_nil)) (pa_cons (pe_call G16 hr (by rfl) E16.g E16.F.kp E16.b .nil pass0 (pa_cons (pv 4) pa_nil)) pa_nil))))))
          (pss_one (ps_if (PW.pt (pw_or (pt_not (pt_val (pe_callG G10 hr hg (by rfl) E10.g E10.F.kp E10.b .nil pass0 (pa_cons (pv 7) (pa_cons (pv 8) pa_nil)))))
            (pw_or1 (pt_cmpR op_ne (pe_callB (call_reprX hg hu hsy) (by rfl) T.repr boot_repr (pa_cons (pv 4) pa_nil)) (pv 5) (nomark _))))) (pss_one (ps_ret pe_bl)) pss_nil))))))))))
      (pss_one (ps_ret pe_bl))), ?_⟩
    -- the bag
    refine ⟨_, rfl, a, ns, rfl, hS, hlen, fun B H1 sm hb hB => ?_⟩
    refine ⟨24, rfl, by decide, by decide, for_it (n := 24) walk_range (fun i σ H2 => (∃ x2 x3 x4 x5 x6 x7 x8, σ = [some (.ref a), some (.ref B.b), x2, x3, x4, x5, x6, x7, x8]) ∧ BagOk H2 B)
      ⟨⟨_, _, _, _, _, _, _, rfl⟩, hB⟩ (fun _ _ _ _ _ => trivial) ?_ (fun σ H2 _ => k H2)⟩
    rintro i x σ H2 H3 hi ⟨⟨x2, x3, x4, x5, x6, x7, x8, rfl⟩, hB2⟩ ⟨rfl, rfl⟩
    -- parts
    refine ⟨_, rfl, B, rfl, hB2, fun p xs ds H4 hp0 hp hds hl hfs k4 hB4 => ?_⟩
    have np : p ≠ B.b := hB2.ne hp0
    -- thing
    refine ⟨_, rfl, p, xs, rfl, .inl ⟨SqL.of hp, fun l1 hl1 => ?_⟩⟩
    have n1 : l1 ≠ B.b := hB4.ne hl1
    have hB5 := hB4.new (o := .tup xs) hl1
    have s5 : Same H4 (upd H4 l1 (.tup xs)) := same_new hl1
    refine ⟨_, rfl, p, xs, rfl, .inl ⟨SqL.of (s5 _ _ hp), fun l2 hl2 => ?_⟩⟩
    have n2 : l2 ≠ B.b := hB5.ne hl2
    have hB6 := hB5.new (o := .tup xs) hl2
    have s6 : Same (upd H4 l1 (.tup xs)) (upd (upd H4 l1 (.tup xs)) l2 (.tup xs)) := same_new hl2
    refine ⟨_, rfl, _, rfl, B, rfl, hB6, fun v d H7 hf hd k7 hB7 => ⟨_, rfl, B, rfl, hB7, fun z H8 hz k8 hB8 => ⟨Nat.le_of_ble_eq_true rfl, fun q hq => ?_⟩⟩⟩
    refine ⟨_, rfl, B, 5, rfl, hB8.new hq, by decide, by decide, fun n o g0 g1 hB9 => ?_⟩
    obtain ⟨u, e5, e6⟩ := atI_ex (l := [V.ref l1, .ref l2, .ref p, v, .str z]) g0 g1
    have nq : q ≠ B.b := hB8.ne hq
    refine ⟨q, _, n, u, rfl, rfl, SqL.of (by rw [upd_ne nq, upd_same]), e5, ?_⟩
    have k9 : Keep B.b H7 (upd (upd H8 q (.lst [.ref l1, .ref l2, .ref p, v, .str z])) B.b o) := (k8.new hq).trans Keep.bag
    have k69 := k7.trans k9
    have k59 := (Keep.of (b := B.b) s6).trans k69
    have k49 := (Keep.of (b := B.b) s5).trans k59
    obtain ⟨du, hfu, hdu⟩ : ∃ du, Fine 60000 40 du ∧ Dx K (upd (upd H8 q (.lst [.ref l1, .ref l2, .ref p, v, .str z])) B.b o) u du := by
      simp only [List.mem_cons, List.not_mem_nil, or_false] at e6
      rcases e6 with rfl | rfl | rfl | rfl | rfl
      · exact ⟨.tuple ds, (fine_seq hl hfs).1, .tup (SqT.of (k59.get upd_same n1)) (hds.same (Same.trans k49 hid_same))⟩
      · exact ⟨.tuple ds, (fine_seq hl hfs).1, .tup (SqT.of (k69.get upd_same n2)) (hds.same (Same.trans k49 hid_same))⟩
      · exact ⟨.list ds, (fine_seq hl hfs).2, .lst (SqL.of (k49.get hp np)) (hds.same (Same.trans k49 hid_same))⟩
      · exact ⟨d, hf.mono (by decide) (by decide), hd.same ((vis_keep hB6 k9).trans vis_same)⟩
      · exact ⟨.str z, (Fine.str hz).mono (by decide) (by decide), .str z⟩
    generalize upd (upd H8 q (.lst [.ref l1, .ref l2, .ref p, v, .str z])) B.b o = H9 at hB9 hdu
    have hsh : Shows du := hfu.shows (by decide) (by decide)
    have hw : du.weight ≤ 200000 := Nat.le_trans hfu.wt (by decide)
    -- shown
    refine ⟨_, rfl, u, du, rfl, hdu, hsh, ?_⟩
    refine ⟨2, rfl, by decide, by decide, for_it (n := 2) walk_range (fun j σ H2 => (∃ y2 x6 x7 x8, σ = [some (.ref a), some (.ref B.b), y2, some (.ref p), some u, some (.str du.shown), x6, x7, x8]) ∧ Same H9 H2)
      ⟨⟨_, _, _, _, rfl⟩, Same.refl _⟩ (fun _ _ _ _ _ => trivial) ?_ (fun σ H2 h2 => ?_)⟩
    · rintro j y σ Ha Hb hj ⟨⟨y2, z6, z7, z8, rfl⟩, sa⟩ ⟨rfl, rfl⟩
      refine ⟨_, rfl, u, du, rfl, hdu.same sa, hw, fun Hc sc => ?_⟩
      have s1 := sa.trans sc
      refine ⟨_, rfl, u, du, rfl, hdu.same s1, hw, fun Hd sd => ?_⟩
      have s2 := s1.trans sd
      refine ⟨_, rfl, u, du, rfl, hdu.same s2, hw, fun He se => ?_⟩
      have s3 := s2.trans se
      refine ⟨_, rfl, u, du, rfl, hdu.same s3, hw, fun Hf sf => ⟨Nat.le_of_ble_eq_true rfl, fun q1 hq1 => ?_⟩⟩
      have s4 := s3.trans (sf.trans (same_new (o := .lst [.bl (isInteger du), .bl (isName du), .bl (isRow du), .bl (isWay du)]) hq1))
      refine ⟨_, rfl, u, du, rfl, hdu.same s4, hw, fun Hc2 sc2 => ?_⟩
      have s5 := s4.trans sc2
      refine ⟨_, rfl, u, du, rfl, hdu.same s5, hw, fun Hd2 sd2 => ?_⟩
      have s6 := s5.trans sd2
      refine ⟨_, rfl, u, du, rfl, hdu.same s6, hw, fun He2 se2 => ?_⟩
      have s7 := s6.trans se2
      refine ⟨_, rfl, u, du, rfl, hdu.same s7, hw, fun Hf2 sf2 => ⟨Nat.le_of_ble_eq_true rfl, fun q2 hq2 => ?_⟩⟩
      have sn := same_new (o := .lst [.bl (isInteger du), .bl (isName du), .bl (isRow du), .bl (isWay du)]) hq2
      have s8 := s7.trans (sf2.trans sn)
      have hq1' := (sc2.trans (sd2.trans (se2.trans (sf2.trans sn)))) _ _ (upd_same (H := Hf) (a := q1) (o := .lst [.bl (isInteger du), .bl (isName du), .bl (isRow du), .bl (isWay du)]))
      refine ⟨_, rfl, _, rfl, .ref q1, .ref q2, fourD du, rfl, four_dp hq1', four_dp upd_same, (four_ok du).1, (four_ok du).2, _, rfl, ?_⟩
      refine iteF ⟨_, rfl, u, du, rfl, hdu.same s8, hsh, _, rfl, rfl, _, rfl, ?_⟩
      rw [decide_eq_true rfl]
      exact iteF ⟨⟨_, _, _, _, rfl⟩, s8⟩
    · obtain ⟨⟨y2, z6, z7, z8, rfl⟩, sa⟩ := h2
      exact ⟨⟨_, _, _, _, _, _, _, rfl⟩, hB9.same sa⟩
end
end My
set_option Elab.async false
set_option linter.all false
set_option maxRecDepth 100000
set_option maxHeartbeats 4000000
namespace My
open PySem PySem.Spec PyProof.Rows L2
/-- a def as the head's facts tell it -/
structure Told (K : PySem.W.Frag) (x : Str) (st : Stmt) (f : Addr) : Prop where
  ex : ∃ (oc : Value) (od an : Option Addr) (sl : Array (Option Value)) (kV dc pm cd ct : Value), K.lookup f = some ⟨oc, od, .func (PySem.W.fnOf x x (defArgs st) (defBody st) (defScope st) .none kV dc pm an cd ct), sl⟩ ∧ PySem.W.codeIn K cd x = true
  kp : PySem.W.keepIn K (.ref f) = true
  ns : PySem.W.nsIn K mainGlobals x = some (some (.ref f))
theorem told {K : PySem.W.Frag} {x : Str} {st : Stmt} {f : Addr} {oc : Value} {od an : Option Addr} {sl : Array (Option Value)} {kV dc pm cd ct : Value} (a : PySem.W.nsIn K mainGlobals x = some (some (.ref f)))
    (l : K.lookup f = some ⟨oc, od, .func (PySem.W.fnOf x x (defArgs st) (defBody st) (defScope st) .none kV dc pm an cd ct), sl⟩) (c : PySem.W.codeIn K cd x = true) (k : PySem.W.keepIn K (.ref f) = true) : Told K x st f :=
  ⟨⟨oc, od, an, sl, kV, dc, pm, cd, ct, l, c⟩, k, a⟩
theorem Told.def1 {K : PySem.W.Frag} {mg : Str → Option Value} {h : Heap} {x : Str} {st : Stmt} {f : Addr} {ps : List Str} (t : Told K x st f) (X : K.In h) (G : h.Ns mainGlobals mg)
    (hb : ∀ (kV doc pm : Value) (an : Option Addr) (cdv ct : Value) (us : List Value), us.length = ps.length → bindArgs (PySem.W.fnOf x x (defArgs st) (defBody st) (defScope st) .none kV doc pm an cdv ct) ⟨us, []⟩ = pure (ps.zip us)) :
    ∃ fd, Def1 K mg x st ps f fd := by
  obtain ⟨oc, od, an, sl, kV, dc, pm, cd, ct, l, c⟩ := t.ex
  have F := fun_mk (st := st) l c t.kp
  exact ⟨_, F, F.binds hb, PySem.W.mg_of X G t.ns⟩
theorem all_mk {w : World} {P : Program} {K : PySem.W.Frag} {h : Heap} {mg : Str → Option Value} {fa f3 f4 f5 f6 f8 f9 f10 f11 f12 f13 f14 f15 f16 f17 f18 : Addr} (X : K.In h) (G : h.Ns mainGlobals mg) (hfa : mg "law" = some (.ref fa))
    (e3 : Told K "is_integer" sIsInteger f3) (e4 : Told K "is_name" sIsName f4) (e5 : Told K "is_row" sIsRow f5) (e6 : Told K "is_way" sIsWay f6)
    (e8 : Told K "_law_bag" sBag f8) (e9 : Told K "_law_take" sTake f9) (e10 : Told K "_law_alike" sAlike f10) (e11 : Told K "_law_is_name" sLName f11) (e12 : Told K "_law_name_near" sNear f12) (e13 : Told K "_law_odd" sOdd f13)
    (e14 : Told K "_law_is_integer" sLInteger f14) (e15 : Told K "_law_is_row" sLRow f15) (e16 : Told K "_law_is_way" sLWay f16) (e17 : Told K "_law_parts" sParts f17) (e18 : Told K "law" sLaw f18)
    {t1 t2 : Tok} (cL : PySem.W.nsIn K mainGlobals "LETTERS" = some (some (.str lettersS t1))) (cM : PySem.W.nsIn K mainGlobals "MOST_LETTERS" = some (some (.int 8 t2)))
    (z1 : PySem.W.nsIn K mainGlobals "isinstance" = some none) (z2 : PySem.W.nsIn K mainGlobals "int" = some none) (z3 : PySem.W.nsIn K mainGlobals "bool" = some none) (z4 : PySem.W.nsIn K mainGlobals "str" = some none)
    (z5 : PySem.W.nsIn K mainGlobals "tuple" = some none) (z6 : PySem.W.nsIn K mainGlobals "list" = some none) (z7 : PySem.W.nsIn K mainGlobals "len" = some none) (z8 : PySem.W.nsIn K mainGlobals "all" = some none)
    (z9 : PySem.W.nsIn K mainGlobals "zip" = some none) (z10 : PySem.W.nsIn K mainGlobals "range" = some none) (z11 : PySem.W.nsIn K mainGlobals "repr" = some none) (z12 : PySem.W.nsIn K mainGlobals "abs" = some none) :
    ∃ fd : FuncData, (∀ (s : Shared) (v : Value), BindsTo s fd ⟨[v], []⟩ [("_law_script", v)]) ∧
      ∀ base : Heap, K.In base → base.Ns mainGlobals mg → (∃ mm, base.Ns sysModules mm) → FnG P w K mg base CX0 4 fa fd ["_law_script"] (spLaw K) := by
  have T : Free mg := ⟨PySem.W.mg_none_of X G z1, PySem.W.mg_none_of X G z2, PySem.W.mg_none_of X G z3, PySem.W.mg_none_of X G z4, PySem.W.mg_none_of X G z5, PySem.W.mg_none_of X G z6, PySem.W.mg_none_of X G z7,
    PySem.W.mg_none_of X G z8, PySem.W.mg_none_of X G z9, PySem.W.mg_none_of X G z10, PySem.W.mg_none_of X G z11, PySem.W.mg_none_of X G z12⟩
  obtain ⟨d3, E3⟩ := e3.def1 (ps := ["thing"]) X G fun _ _ _ _ _ _ us hl => match us, hl with | [_], _ => rfl
  obtain ⟨d4, E4⟩ := e4.def1 (ps := ["thing"]) X G fun _ _ _ _ _ _ us hl => match us, hl with | [_], _ => rfl
  obtain ⟨d5, E5⟩ := e5.def1 (ps := ["thing"]) X G fun _ _ _ _ _ _ us hl => match us, hl with | [_], _ => rfl
  obtain ⟨d6, E6⟩ := e6.def1 (ps := ["thing"]) X G fun _ _ _ _ _ _ us hl => match us, hl with | [_], _ => rfl
  obtain ⟨d8, E8⟩ := e8.def1 (ps := ["_law_script"]) X G fun _ _ _ _ _ _ us hl => match us, hl with | [_], _ => rfl
  obtain ⟨d9, E9⟩ := e9.def1 (ps := ["_law_bag_here", "_law_many"]) X G fun _ _ _ _ _ _ us hl => match us, hl with | [_, _], _ => rfl
  obtain ⟨d10, E10⟩ := e10.def1 (ps := ["_law_found", "_law_due"]) X G fun _ _ _ _ _ _ us hl => match us, hl with | [_, _], _ => rfl
  obtain ⟨d11, E11⟩ := e11.def1 (ps := ["_law_thing"]) X G fun _ _ _ _ _ _ us hl => match us, hl with | [_], _ => rfl
  obtain ⟨d12, E12⟩ := e12.def1 (ps := ["_law_bag_here"]) X G fun _ _ _ _ _ _ us hl => match us, hl with | [_], _ => rfl
  obtain ⟨d13, E13⟩ := e13.def1 (ps := ["_law_bag_here"]) X G fun _ _ _ _ _ _ us hl => match us, hl with | [_], _ => rfl
  obtain ⟨d14, E14⟩ := e14.def1 (ps := ["_law_thing"]) X G fun _ _ _ _ _ _ us hl => match us, hl with | [_], _ => rfl
  obtain ⟨d15, E15⟩ := e15.def1 (ps := ["_law_thing"]) X G fun _ _ _ _ _ _ us hl => match us, hl with | [_], _ => rfl
  obtain ⟨d16, E16⟩ := e16.def1 (ps := ["_law_thing"]) X G fun _ _ _ _ _ _ us hl => match us, hl with | [_], _ => rfl
  obtain ⟨d17, E17⟩ := e17.def1 (ps := ["_law_bag_here"]) X G fun _ _ _ _ _ _ us hl => match us, hl with | [_], _ => rfl
  obtain ⟨oc, od, an, sl, kV, dc, pm, cd, ct, l, c⟩ := e18.ex
  have FL := fun_mk (st := sLaw) l c e18.kp
  have e := hfa.symm.trans (PySem.W.mg_of X G e18.ns)
  cases e
  exact ⟨_, fun s v => .of_eq rfl, fun base _ _ hsy => ok_law FL T hsy (PySem.W.mg_of X G cL) (PySem.W.mg_of X G cM) E3 E4 E5 E6 E8 E9 E10 E11 E12 E13 E14 E15 E16 E17⟩
end My
open PySem PySem.W PyProof.Rows
set_option maxHeartbeats 0 in
theorem PySem.Challenge.cw_deadrows_k11_kinds_known_holds : PySem.Challenge.rw_deadrows_k11_kinds_known.Holds := by
  w_on; o_law; k_head; (case hw => w_witness2)
  k_fill
  refine My.walk_ofG (l := PySem.Challenge.rw_deadrows_k11_kinds_known) (n := 63) (k := 4) (x := "_law_script") (CX := L2.CX0) (sp := My.spLaw) rfl (by decide) rfl ⟨rfl, by decide, by decide⟩ (by first | rfl | decide +kernel) (fun w h Y => PySem.W.kIn_of Y) ?F
    (fun _ _ a ns hl _ hS => ⟨a, ns, rfl, hS, hl, fun _ => rfl⟩) (fun _ _ _ _ z => z)
  case F =>
    intro w mg fa h KX G hmg
    refine' My.all_mk KX G hmg (My.told ?a3 ?l3 ?c3 ?k3) (My.told ?a4 ?l4 ?c4 ?k4) (My.told ?a5 ?l5 ?c5 ?k5) (My.told ?a6 ?l6 ?c6 ?k6) (My.told ?a8 ?l8 ?c8 ?k8) (My.told ?a9 ?l9 ?c9 ?k9) (My.told ?a10 ?l10 ?c10 ?k10)
      (My.told ?a11 ?l11 ?c11 ?k11) (My.told ?a12 ?l12 ?c12 ?k12) (My.told ?a13 ?l13 ?c13 ?k13) (My.told ?a14 ?l14 ?c14 ?k14) (My.told ?a15 ?l15 ?c15 ?k15) (My.told ?a16 ?l16 ?c16 ?k16) (My.told ?a17 ?l17 ?c17 ?k17) (My.told ?a18 ?l18 ?c18 ?k18)
      ?cL ?cM ?z1 ?z2 ?z3 ?z4 ?z5 ?z6 ?z7 ?z8 ?z9 ?z10 ?z11 ?z12
    (case a3 => k_is); (case l3 => k_is); (case c3 => k_is); (case k3 => k_is)
    (case a4 => k_is); (case l4 => k_is); (case c4 => k_is); (case k4 => k_is)
    (case a5 => k_is); (case l5 => k_is); (case c5 => k_is); (case k5 => k_is)
    (case a6 => k_is); (case l6 => k_is); (case c6 => k_is); (case k6 => k_is)
    (case a8 => k_is); (case l8 => k_is); (case c8 => k_is); (case k8 => k_is)
    (case a9 => k_is); (case l9 => k_is); (case c9 => k_is); (case k9 => k_is)
    (case a10 => k_is); (case l10 => k_is); (case c10 => k_is); (case k10 => k_is)
    (case a11 => k_is); (case l11 => k_is); (case c11 => k_is); (case k11 => k_is)
    (case a12 => k_is); (case l12 => k_is); (case c12 => k_is); (case k12 => k_is)
    (case a13 => k_is); (case l13 => k_is); (case c13 => k_is); (case k13 => k_is)
    (case a14 => k_is); (case l14 => k_is); (case c14 => k_is); (case k14 => k_is)
    (case a15 => k_is); (case l15 => k_is); (case c15 => k_is); (case k15 => k_is)
    (case a16 => k_is); (case l16 => k_is); (case c16 => k_is); (case k16 => k_is)
    (case a17 => k_is); (case l17 => k_is); (case c17 => k_is); (case k17 => k_is)
    (case a18 => k_is); (case l18 => k_is); (case c18 => k_is); (case k18 => k_is)
    (case cL => k_is); (case cM => k_is)
    (case z1 => k_is); (case z2 => k_is); (case z3 => k_is); (case z4 => k_is); (case z5 => k_is); (case z6 => k_is); (case z7 => k_is); (case z8 => k_is); (case z9 => k_is); (case z10 => k_is); (case z11 => k_is); (case z12 => k_is)
