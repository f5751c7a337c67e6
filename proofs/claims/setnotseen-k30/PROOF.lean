import PyProof.Rows.All
import HandS.ForMost
import HandS.Wide
import HandS.Codes
import HandS.Conv
import KE.KDictKeyed
import KE.KDictDisplayH
import KE.SortData
import KE.DataCmp
import PyProof.Rows.SortWalk
import HandS.TupAny
import HandS.TupLe
import HandS.Deep
import HandS.IsInst
import HandS.Style
import PyProof.Rows.ReprR
import KE.GoesEnum
import HandS.Head0
import HandS.Head1
import HandS.Head2
import HandS.HeadEnd
import HandS.HeadHook1
import HandS.HeadHook2
import HandS.DictComp
import PySem.Challenge.RW_setnotseen_k30_whole_walks_turned_about
set_option Elab.async false
set_option linter.all false
set_option maxRecDepth 100000
/-! FL0: what a def promises where no repr is under way (for repr of lists and tuples) -/
namespace L2
open PySem PySem.Spec PyProof.Rows
structure RoomG (k : Nat) (A : Around) : Prop extends Room k A where
  gd : A.guards = some []
theorem RoomG.mono {j k : Nat} {A : Around} (r : RoomG k A) (h : j ≤ k) : RoomG j A := ⟨r.toRoom.mono h, r.gd⟩
theorem make_guards {A : Around} {C : Addr} {us : List Value} {kw : List (Str × Value)} : (A.under (.builtin "type.__call__" ⟨.ref C :: us, kw⟩)).guards = A.guards := by
  cases h : A.guards <;> simp [Around.under, Code.isGuard, guardIds, pushGuards, Code.guards, h]
theorem deeper_guards (A : Around) (env : Env) : (A.deeper env).guards = A.guards := by
  first | rfl | simp [Around.deeper]
structure FnG (P : Program) (w : World) (K : PySem.W.Frag) (mg : Str → Option Value) (base : Heap) (CX : CXT) (k : Nat) (f : Addr) (fd : FuncData) (ps : List Str) (sp : Sp) : Prop where
  len : ∀ vs H Q E, sp vs H Q E → vs.length = ps.length
  run : ∀ (A : Around) (outer : List Env) (s : Shared) (H : Hp) (args : Args) (us : List Value) (vs : List V) (Q : VK) (E : XK), Room k A → A.guards = some [] → Env0 P w K mg base A outer s H → BindsTo s fd args (ps.zip us) → Vals vs us → sp vs H Q E →
    codeAny (model P w) A (.call (.ref f) args) (CR CX outer P w H s Q E) s
theorem FnG.imp {P : Program} {w : World} {K : PySem.W.Frag} {mg : Str → Option Value} {base : Heap} {CX : CXT} {k : Nat} {f : Addr} {fd : FuncData} {ps : List Str} {sp sp' : Sp} (F : FnG P w K mg base CX k f fd ps sp)
    (h : ∀ vs H Q E, sp' vs H Q E → sp vs H Q E) : FnG P w K mg base CX k f fd ps sp' :=
  ⟨fun vs H Q E q => F.len vs H Q E (h _ _ _ _ q), fun A outer s H args us vs Q E hr hg he hb hv hs => F.run A outer s H args us vs Q E hr hg he hb hv (h _ _ _ _ hs)⟩
section
variable {X : Cx} {CX : CXT} {k : Nat} {f C : Addr} {fd : FuncData} {ps : List Str} {sp : Sp} {dvs : List V} {ds : List Value} {E : XK} {x m : Str} {p pos apos : Pos} {e o : Expr} {es : List Expr} {ta : TE} {t : TA}
theorem run_fnG {pins : List (Addr × Obj)} {σ : St} {H : Hp} {s : Shared} {Q : VK} {us : List Value} {vs : List V} (F : FnG X.prog X.w X.K X.mg X.base CX k f fd ps sp) (hr : RoomG k X.A) (hb : Binds X.K fd ps ds) (hd : Vals dvs ds) (hx : Passes CX X E)
    (I : Inv X pins σ H s) (r : Vals vs us) (h : sp (vs ++ dvs) H Q E) : wpAny (model X.prog X.w) X.A (call (.ref f) us) (EP X pins σ Q) X.xe s := by
  have r2 : Vals (vs ++ dvs) (us ++ ds) := r.append hd
  have hl : (us ++ ds).length = ps.length := by rw [← r2.length]; exact F.len _ _ _ _ h
  refine wpAny_call (codeAny_mono (F.run X.A X.stack s H ⟨us, []⟩ (us ++ ds) (vs ++ dvs) Q E hr.toRoom hr.gd I.env0 (hb s us I.kIn hl) r2 h) fun r s' hq => ?_)
  cases r with
  | error e => exact hx pins σ H s e s' I hq
  | ok fl =>
    cases fl with
    | ret u => exact I.after hq
    | next => exact False.elim hq
    | brk => exact False.elim hq
    | cont => exact False.elim hq
theorem pe_callG (F : FnG X.prog X.w X.K X.mg X.base CX k f fd ps sp) (hr : RoomG k X.A) (hg : Gl X x) (hm : X.mg x = some (.ref f)) (hk : PySem.W.keepIn X.K (.ref f) = true) (hb : Binds X.K fd ps ds) (hd : Vals dvs ds) (hx : Passes CX X E)
    (ha : PA X (e :: es) t) (hdb : (x == ("__debug__" : Str)) = false := by decide) (he : starEach (e :: es) X.env = (false, eval e X.env) :: starEach es X.env := by rfl) (hpl : (backTo pos (starEach es X.env)).any (·.1) = false := by rfl) :
    PE X (.Call (.Name x p) (e :: es) [] pos) (tCall sp dvs E t) := by
  refine ⟨fun pins s σ H Q I h => ?_⟩
  refine wpAny_Call_Name_kw (ld_glob I hg hm ?_ hdb)
  refine PySem.W.callWith_K (h₀ := X.base) I.ok.mod.kin hk (thn (ha.run pos pins s σ H _ I h) fun us s1 ⟨vs, H1, I1, r, q⟩ => ⟨I1.kIn, ?_⟩) he hpl
  exact run_fnG F hr hb hd hx I1 r q
theorem run_makeG {pins : List (Addr × Obj)} {σ : St} {H : Hp} {s : Shared} {Q : VK} {us : List Value} {vs : List V} (M : Mk X.K C f) (F : FnG X.prog X.w X.K X.mg X.base CX k f fd ps sp) (hr : RoomG (k + 1) X.A) (hb : Binds X.K fd ps ds) (hd : Vals dvs ds)
    (hx : Passes CX X E) (I : Inv X pins σ H s) (r : Vals vs us)
    (h : ∀ x dx, H x = none → H dx = none → dx ≠ x → sp (.ref x :: (vs ++ dvs)) (upd (upd H dx (.own x)) x (.ins C dx [])) (fun v H2 => v = .non ∧ Q (.ref x) H2) E) :
    wpAny (model X.prog X.w) X.A (call (.ref C) us) (EP X pins σ Q) X.xe s := by
  have hq := h (s.heap.objs.size + 1) s.heap.objs.size (I.hok.fresh (Nat.le_succ _)) (I.hok.fresh (Nat.le_refl _)) (Nat.ne_of_lt (Nat.lt_succ_self _))
  have I2 := Inv.made (C := C) I
  have r2 : Vals (V.ref (s.heap.objs.size + 1) :: (vs ++ dvs)) (Value.ref (s.heap.objs.size + 1) :: (us ++ ds)) := .cons rfl (r.append hd)
  have hl : (Value.ref (s.heap.objs.size + 1) :: us ++ ds).length = ps.length := by
    have e := r2.length
    rw [F.len _ _ _ _ hq] at e
    exact e.symm
  refine wpAny_call (make_map (f := f) I.kIn M.makes M.init (beq_iff_eq.mp M.fn) (codeAny_mono (F.run _ X.stack _ _ ⟨Value.ref (s.heap.objs.size + 1) :: us, []⟩ (Value.ref (s.heap.objs.size + 1) :: (us ++ ds)) _ _ E (hr.toRoom.make C us []) (make_guards.trans hr.gd)
    (I2.env0.make C us []) (hb _ (Value.ref (s.heap.objs.size + 1) :: us) I2.kIn hl) r2 hq) fun r s' hq' => ?_))
  cases r with
  | error e => exact hx pins σ _ _ e s' I2 hq'
  | ok fl =>
    cases fl with
    | ret u =>
      obtain ⟨v, H', I3, rv, ev, q3⟩ := I2.after hq'
      subst ev
      exact ⟨rv, ⟨V.ref (s.heap.objs.size + 1), H', I3, rfl, q3⟩⟩
    | next => exact False.elim hq'
    | brk => exact False.elim hq'
    | cont => exact False.elim hq'
theorem pe_makeG (M : Mk X.K C f) (F : FnG X.prog X.w X.K X.mg X.base CX k f fd ps sp) (hr : RoomG (k + 1) X.A) (hg : Gl X x) (hm : X.mg x = some (.ref C)) (hb : Binds X.K fd ps ds) (hd : Vals dvs ds) (hx : Passes CX X E)
    (ha : PA X (e :: es) t) (hdb : (x == ("__debug__" : Str)) = false := by decide) (he : starEach (e :: es) X.env = (false, eval e X.env) :: starEach es X.env := by rfl) (hpl : (backTo pos (starEach es X.env)).any (·.1) = false := by rfl) :
    PE X (.Call (.Name x p) (e :: es) [] pos) (tMake C sp dvs E t) := by
  refine ⟨fun pins s σ H Q I h => ?_⟩
  refine wpAny_Call_Name_kw (ld_glob I hg hm ?_ hdb)
  refine PySem.W.callWith_K (h₀ := X.base) I.ok.mod.kin M.kp (thn (ha.run pos pins s σ H _ I h) fun us s1 ⟨vs, H1, I1, r, q⟩ => ⟨I1.kIn, ?_⟩) he hpl
  exact run_makeG M F hr hb hd hx I1 r q
end
theorem fn_ofG {CX : CXT} {P : Program} {w : World} {K : PySem.W.Frag} {mg : Str → Option Value} {base : Heap} {k : Nat} {f : Addr} {name qual : Str} {params : Arguments} {body : List Stmt} {scope : Scope} {dV kV doc pm cdv ct oc : Value} {an od : Option Addr}
    {osl : Array (Option Value)} {N ps : List Str} {sp : Sp} (lk : K.lookup f = some ⟨oc, od, .func (PySem.W.fnOf name qual params body scope dV kV doc pm an cdv ct), osl⟩) (hcd : PySem.W.codeIn K cdv qual = true) (S : FnScope N ps scope)
    (len : ∀ vs H Q E, sp vs H Q E → vs.length = ps.length)
    (hbody : ∀ (A : Around) (outer : List Env) (s : Shared) (H : Hp) (vs : List V) (Q : VK) (E : XK), RoomG k (A.deeper (envOfC qual scope s.heap.objs.size f cdv)) → sp vs H Q E →
      ∃ t, PSs (cxOf CX P w K mg base N qual scope f cdv A outer s H E) body t ∧ t { nx := fun _ H' => Q .non H', rt := Q } (start N vs) H) :
    FnG P w K mg base CX (k + 1) f (PySem.W.fnOf name qual params body scope dV kV doc pm an cdv ct) ps sp := by
  refine ⟨len, fun A outer s H args us vs Q E hr hgd e0 hb r hsp => ?_⟩
  have hl := len _ _ _ _ hsp
  have KX : K.In s.heap := e0.mod.kin.keeps fun b o e => (e0.bs b o e).1
  have lim : s.heap.NoLimit := e0.mod.nolimit.keeps fun b o e => (e0.bs b o e).1
  have hkind : ∀ y ∈ ps.zip us, scope.names.lookup y.1 = some .local ∨ (scope.names.lookup y.1 = some .cell ∧ ((cellsFrom (s.heap.objs.size + 1) scope.names []).lookup y.1).isSome = true) := fun ⟨n, v⟩ hy => by
    rcases S.par n (List.of_mem_zip hy).1 with q | q
    · exact .inl q
    · exact .inr ⟨q, PySem.W.cellsFrom_some _ _ _ (.inl q)⟩
  refine codeAny_call_function hr.depth (KX _ _ lk) rfl S.co S.gen rfl (PySem.W.codeRec_of KX hcd) (hb _ _ _ _ ?_)
  refine wpAny_newFunctionEnv_cells S.kind hkind fun env he s1 x => ?_
  subst he
  refine ⟨lim.keeps x.toInCall.keep, codeAny_func ?_⟩
  obtain ⟨t, ht, hq⟩ := hbody A outer s H vs Q E ⟨hr.deeper _, (deeper_guards _ _).trans hgd⟩ hsp
  have I : Inv (cxOf CX P w K mg base N qual scope f cdv A outer s H E) [] (start N vs) H s1 := inv_start S hr.hd e0 hl r x
  refine wpAny_mono (ht.run [] s1 (start N vs) H _ I hq) (fun fl s' hs => ?_) fun e s' hs => hs
  have fin : ∀ {σ' : St} {H' : Hp} {v : V} {u : Value}, Inv (cxOf CX P w K mg base N qual scope f cdv A outer s H E) [] σ' H' s' → RelV v u → Q v H' → CE outer P w H s Q u s' :=
    fun {σ' H' v u} J rv q => ⟨v, H', J.os, J.bare, J.base, J.hok, rv, q⟩
  cases fl with
  | ret u =>
    obtain ⟨v, σ', H', J, rv, q⟩ := hs
    exact fin J rv q
  | next =>
    obtain ⟨σ', H', J, q⟩ := hs
    exact fin (v := V.non) (u := Value.none) J rfl q
  | brk =>
    obtain ⟨_, _, _, q⟩ := hs
    exact False.elim q
  | cont =>
    obtain ⟨_, _, _, q⟩ := hs
    exact False.elim q
theorem law_callG {P : Program} {w : World} {K : PySem.W.Frag} {mg mb : Str → Option Value} {CX : CXT} {k : Nat} {fa a : Addr} {fd : FuncData} {x : Str} {sp : Sp} {s₁ : Shared} {vs : List Value} {ns : List Int}
    (KX : K.In s₁.heap) (hns : s₁.heap.Ns mainGlobals mg) (hb : s₁.heap.Ns builtinsNs mb) (hbb : ∀ x : Str, x ≠ "__name__" → mb x = bootBuiltins x) (hlim : s₁.heap.NoLimit) (hg : s₁.gens = #[])
    (ha : s₁.heap.get? a = some { cls := .type "list", data := .seq vs.toArray }) (hi : IntsAre vs ns) (hl : ns.length ≤ sizeLine) (hr : Room k callerA)
    (F : ∀ base : Heap, K.In base → base.Ns mainGlobals mg → FnG P w K mg base CX k fa fd [x] sp) (hbind : ∀ (s : Shared) (u : Value), BindsTo s fd ⟨[u], []⟩ [(x, u)])
    (hsp : ∀ H : Hp, Only H → SqL K H a (ns.map V.int) → sp [.ref a] H (fun v _ => v = .bl true) fun _ _ _ => False)
    (hCX : ∀ H e s', CX [] H s₁ (fun _ _ _ => False) e s' → False) :
    codeAny (model P w) callerA (.call (.ref fa) ⟨[.ref a], []⟩) (fun r s' => r = .ok (.ret (.bool true)) ∧ OldK s₁.heap s'.heap ∧ s'.os = s₁.os ∧ AllBare s'.gens) s₁ := by
  have rv := vals_ints hi
  have lenV := hi.length
  -- from an abstract heap in which nothing but the script may be tracked
  have core : ∀ H : Hp, Only H → SqL K H a (ns.map V.int) → HOk P w H s₁.heap → (∀ b, H b ≠ none → b = a) → (H a ≠ none → K.lookup a = none) →
      codeAny (model P w) callerA (.call (.ref fa) ⟨[.ref a], []⟩) (fun r s' => r = .ok (.ret (.bool true)) ∧ OldK s₁.heap s'.heap ∧ s'.os = s₁.os ∧ AllBare s'.gens) s₁ := by
    intro H hO hS hok hA hK
    have base_of : ∀ {b : Addr} {o : Obj}, s₁.heap.get? b = some o → H b = none → (hidT s₁.heap H).get? b = some o := fun e n => hidT_get e n
    have noA : ∀ {b : Addr} {o : Obj} {es : Array DictEntry} {ep : Nat}, s₁.heap.get? b = some o → o.data = .dict es ep → H b = none := fun {b o es ep} e d => by
      cases q : H b with
      | none => rfl
      | some u =>
        have e' : b = a := hA b (by rw [q]; simp)
        subst e'
        rw [ha] at e; cases e
        have d' : Data.seq vs.toArray _ = Data.dict es ep := d
        cases d'
    have nsK : ∀ {b : Addr} {m : Str → Option Value}, s₁.heap.Ns b m → (hidT s₁.heap H).Ns b m := fun {b m} ⟨o, es, ep, e, d, r⟩ => ⟨o, es, ep, base_of e (noA e d), d, r⟩
    have hKb : K.In (hidT s₁.heap H) := fun b o e => base_of (KX b o e) (by
      cases q : H b with
      | none => rfl
      | some u =>
        have e' : b = a := hA b (by rw [q]; simp)
        subst e'
        rw [hK (by rw [q]; simp)] at e; cases e)
    have hM : Mod K mg (hidT s₁.heap H) := ⟨hKb, nsK hns, ⟨mb, nsK hb, hbb⟩, let ⟨mc, h1, h2⟩ := hlim; ⟨mc, nsK h1, h2⟩⟩
    have e0 : Env0 P w K mg (hidT s₁.heap H) callerA [] s₁ H := ⟨rfl, hM, fun b o e => of_hidT e, Nat.le_of_eq (hidT_size _ _), trivial, fun b hb => absurd (show b ∈ ([] : List Addr) from hb) (by simp), hok, .of_eq hg⟩
    refine codeAny_mono ((F _ hKb (nsK hns)).run callerA [] s₁ H ⟨[.ref a], []⟩ [.ref a] [.ref a] _ _ hr rfl e0 (hbind s₁ (.ref a)) (.cons rfl .nil) (hsp H hO hS)) fun r s' h => ?_
    cases r with
    | error e => exact (hCX H e s' h).elim
    | ok fl =>
      cases fl with
      | next => exact False.elim h
      | brk => exact False.elim h
      | cont => exact False.elim h
      | ret u =>
        obtain ⟨v, H', os, bare, un, hok', r', q⟩ := h
        have q' : v = .bl true := q
        subst q'
        obtain rfl : u = Value.bool true := r'
        refine ⟨rfl, OldK.of_keep fun b o e => ?_, os, bare⟩
        cases q : H b with
        | none => exact un.keep b o e q (by intro z; exact absurd (show b ∈ ([] : List Addr) from z) (by simp)) (by simp)
        | some u =>
          rcases hO b with z | ⟨ob, xs, z⟩
          · rw [q] at z; cases z
          · have z2 := un.frzs b ob _ z
            obtain ⟨e1, _⟩ := hok b _ z
            obtain ⟨e2, _⟩ := hok' b _ z2
            rw [e] at e1; cases e1
            exact e2
  cases hk : K.lookup a with
  | some o =>
    -- the script is one of the module's own objects
    have e := KX a o hk
    rw [ha] at e
    cases e
    refine core (fun _ => none) (fun _ => .inl rfl) (.inr ⟨_, vs.toArray, _, hk, rfl, rfl, rfl, by rw [List.size_toArray, lenV]; exact hl, by simpa using rv⟩) (fun b u z => by have z' : (none : Option HO) = some u := z; cases z') (fun b z => absurd rfl z) fun z => absurd rfl z
  | none =>
    refine core (fun b => if b = a then some (.frz { cls := .type "list", data := .seq vs.toArray } (.lst (ns.map V.int))) else none) (fun b => ?_) (.inl (.inr ⟨{ cls := .type "list", data := .seq vs.toArray }, if_pos rfl⟩)) (fun b u z => ?_) (fun b z => ?_) fun _ => hk
    · by_cases hb : b = a
      · exact .inr ⟨_, _, if_pos hb⟩
      · exact .inl (if_neg hb)
    · by_cases hb : b = a
      · have z' := (if_pos hb).symm.trans z
        cases z'
        subst hb
        exact ⟨ha, by rw [List.length_map]; exact hl, vs, _, rv, ha⟩
      · have z' := (if_neg hb).symm.trans z
        cases z'
    · by_cases hb : b = a
      · exact hb
      · exact absurd (if_neg hb) z
theorem walk_ofG {l : PySem.W.OpenLaw} {n k : Nat} {q : Program} {loose : List Str} {XP : (Str → Option Value) → Heap → Prop} {YP : World → Heap → Prop} {d : DefRec} {K : Params → PySem.W.Frag} {CX : World → CXT} {sp : World → Sp} {x : Str}
    (hn : l.most = some n) (hn2 : n ≤ sizeLine) (hdf : d.params.defaults = []) (hr : Room k callerA)
    (hY : ∀ (w : World) (h : Heap), YP w h → (K w.params).In h)
    (F : ∀ (w : World) (mg : Str → Option Value) (fa : Addr) (h : Heap), (K w.params).In h → h.Ns mainGlobals mg → mg d.name = some (.ref fa) →
      ∃ fd : FuncData, (∀ (s : Shared) (u : Value), BindsTo s fd ⟨[u], []⟩ [(x, u)]) ∧
        ∀ base : Heap, (K w.params).In base → base.Ns mainGlobals mg → FnG l.prog w (K w.params) mg base (CX w) k fa fd [x] (sp w))
    (hsp : ∀ (w : World) (H : Hp) (a : Addr) (ns : List Int), ns.length ≤ n → Only H → SqL (K w.params) H a (ns.map V.int) → sp w [.ref a] H (fun v _ => v = .bl true) fun _ _ _ => False)
    (hCX : ∀ (w : World) (H : Hp) (s : Shared) (e : Value) (s' : Shared), CX w [] H s (fun _ _ _ => False) e s' → False) :
    PySem.W.WalkO q loose XP YP l.row.toRowW d [] (fun f vs => PySem.call f vs) := by
  refine Att.attach_call hn hdf fun w s₀ s₁ mg mb fa o pm cd doc a vs ns G Y ho hd hcd hmg hobj hints hlen hg => ?_
  have KX := hY w _ Y
  obtain ⟨fd, hb, hF⟩ := F w mg fa _ KX G.T.g hmg
  exact law_callG KX G.T.g G.T.b G.T.builtins G.T.nolimit hg hobj hints (Nat.le_trans hlen hn2) hr hF hb (fun H hO hS => hsp w H a ns hlen hO hS) fun H e s' => hCX w H s₁ e s'
end L2
namespace C8
open PySem PySem.Spec PyProof.Rows L2 SX
section
variable {P : Program} {w : World} {K : PySem.W.Frag} {mg : Str → Option Value} {base : Heap}
theorem fnG0 {x qual : Str} {st : Stmt} {f : Addr} {fd : FuncData} {N ps : List Str} {k : Nat} {sp : Sp} (F : Fun K x qual st f fd) (S : FnScope N ps (fnScope st)) (len : ∀ vs H Q E, sp vs H Q E → vs.length = ps.length)
    (hbody : ∀ (cdv : Value) (A : Around) (outer : List Env) (s : Shared) (H : Hp) (vs : List V) (Q : VK) (E : XK), RoomG k (A.deeper (envOfC qual (fnScope st) s.heap.objs.size f cdv)) → sp vs H Q E →
      ∃ t, PSs (cxOf CX0 P w K mg base N qual (fnScope st) f cdv A outer s H E).nox (fnBody st) t ∧ t { nx := fun _ H' => Q .non H', rt := Q } (start N vs) H) : FnG P w K mg base CX0 (k + 1) f fd ps sp := by
  obtain ⟨oc, od, dV, kV, doc, pm, an, cdv, ct, osl, rfl, lk, hcd⟩ := F.ex
  refine fn_ofG lk hcd S len fun A outer s H vs Q E hr hsp => ?_
  obtain ⟨t, h, q⟩ := hbody cdv A outer s H vs Q E hr hsp
  exact ⟨t, h.nox, q⟩
/-- a def that may be called by its name -/
structure CalG (P : Program) (w : World) (K : PySem.W.Frag) (mg : Str → Option Value) (base : Heap) (k : Nat) (x : Str) (sp : Sp) (dvs : List V) : Prop where
  ex : ∃ (f : Addr) (fd : FuncData) (ps : List Str) (ds : List Value), FnG P w K mg base CX0 k f fd ps sp ∧ mg x = some (.ref f) ∧ PySem.W.keepIn K (.ref f) = true ∧ Binds K fd ps ds ∧ Vals dvs ds
theorem calG {x : Str} {st : Stmt} {f : Addr} {fd : FuncData} {N ps : List Str} {ds : List Value} {dvs : List V} {k : Nat} {sp : Sp} (F : Def K mg x st f fd) (b : Binds K fd ps ds) (d : Vals dvs ds) (S : FnScope N ps (fnScope st)) (len : ∀ vs H Q E, sp vs H Q E → vs.length = ps.length)
    (hbody : ∀ (cdv : Value) (A : Around) (outer : List Env) (s : Shared) (H : Hp) (vs : List V) (Q : VK) (E : XK), RoomG k (A.deeper (envOfC x (fnScope st) s.heap.objs.size f cdv)) → sp vs H Q E →
      ∃ t, PSs (cxOf CX0 P w K mg base N x (fnScope st) f cdv A outer s H E).nox (fnBody st) t ∧ t { nx := fun _ H' => Q .non H', rt := Q } (start N vs) H) : CalG P w K mg base (k + 1) x sp dvs :=
  ⟨f, fd, ps, ds, fnG0 F.fn S len hbody, F.mgf, F.kp, b, d⟩
/-- a class that may be made by its name; sp: its __init__ -/
structure MakG (P : Program) (w : World) (K : PySem.W.Frag) (mg : Str → Option Value) (base : Heap) (k : Nat) (x : Str) (C : Addr) (sp : Sp) (dvs : List V) : Prop where
  ex : ∃ (f : Addr) (fd : FuncData) (ps : List Str) (ds : List Value), Mk K C f ∧ FnG P w K mg base CX0 k f fd ps sp ∧ mg x = some (.ref C) ∧ Binds K fd ps ds ∧ Vals dvs ds
theorem makG {x qual : Str} {C : Addr} {st : Stmt} {f : Addr} {fd : FuncData} {N ps : List Str} {ds : List Value} {dvs : List V} {k : Nat} {sp : Sp} (M : Mk K C f) (hm : mg x = some (.ref C)) (F : Fun K "__init__" qual st f fd) (b : Binds K fd ps ds) (d : Vals dvs ds) (S : FnScope N ps (fnScope st)) (len : ∀ vs H Q E, sp vs H Q E → vs.length = ps.length)
    (hbody : ∀ (cdv : Value) (A : Around) (outer : List Env) (s : Shared) (H : Hp) (vs : List V) (Q : VK) (E : XK), RoomG k (A.deeper (envOfC qual (fnScope st) s.heap.objs.size f cdv)) → sp vs H Q E →
      ∃ t, PSs (cxOf CX0 P w K mg base N qual (fnScope st) f cdv A outer s H E).nox (fnBody st) t ∧ t { nx := fun _ H' => Q .non H', rt := Q } (start N vs) H) : MakG P w K mg base (k + 1) x C sp dvs :=
  ⟨f, fd, ps, ds, M, fnG0 F S len hbody, hm, b, d⟩
end
section
variable {X : Cx} {k j : Nat} {C : Addr} {x m : Str} {sp : Sp} {dvs : List V} {p pos apos : Pos} {e o : Expr} {es : List Expr} {ta : TE} {t : TA}
theorem pe_cG (c : CalG X.prog X.w X.K X.mg X.base k x sp dvs) (hr : RoomG j X.A) (hk : k ≤ j) (hg : Gl X x) (ha : PA X (e :: es) t)
    (hdb : (x == ("__debug__" : Str)) = false := by decide) (he : starEach (e :: es) X.env = (false, eval e X.env) :: starEach es X.env := by rfl) (hpl : (backTo pos (starEach es X.env)).any (·.1) = false := by rfl) :
    PE X (.Call (.Name x p) (e :: es) [] pos) (tCall sp dvs E0 t) := by
  obtain ⟨f, fd, ps, ds, F, hm, kp, b, d⟩ := c.ex
  exact pe_callG F (hr.mono hk) hg hm kp b d pass0 ha hdb he hpl
theorem pe_mkG (c : MakG X.prog X.w X.K X.mg X.base k x C sp dvs) (hr : RoomG j X.A) (hk : k + 1 ≤ j) (hg : Gl X x) (ha : PA X (e :: es) t)
    (hdb : (x == ("__debug__" : Str)) = false := by decide) (he : starEach (e :: es) X.env = (false, eval e X.env) :: starEach es X.env := by rfl) (hpl : (backTo pos (starEach es X.env)).any (·.1) = false := by rfl) :
    PE X (.Call (.Name x p) (e :: es) [] pos) (tMake C sp dvs E0 t) := by
  obtain ⟨f, fd, ps, ds, M, F, hm, b, d⟩ := c.ex
  exact pe_makeG M F (hr.mono hk) hg hm b d pass0 ha hdb he hpl
end
end C8
/-! FL: deep data over HandS -/
namespace FL
open PySem PySem.Spec PyProof.Rows L2

/-- the written part of the heap, and the world (for hashes of texts) -/
structure FK where
  fr : PySem.W.Frag
  wd : World
instance : Coe FK PySem.W.Frag := ⟨FK.fr⟩
abbrev _root_.L2.Cx.F (X : Cx) : FK := ⟨X.K, X.w⟩

/-- a value: data to any depth; rf k: the k-th root (a list or dict that may change) -/
inductive D where
  | non | bl (b : Bool) | int (i : Int) | str (x : Str)
  | tup (ds : List D) | fl (ds : List D)
  | obj (x : Str) (ns : List Str) (ds : List D)
  | fd (ks : List L2.Key) (ds : List D)
  | scr (ns : List Int)
  | rf (k : Nat)

mutual
/-- no root within -/
def D.im : D → Bool
  | .tup ds => ims ds
  | .fl ds => ims ds
  | .obj _ _ ds => ims ds
  | .fd _ ds => ims ds
  | .rf _ => false
  | _ => true
def ims : List D → Bool
  | [] => true
  | d :: ds => d.im && ims ds
end

/-- what stands at a root -/
inductive GO where
  | lst (ds : List D)
  | dct (kvs : List (D × D))
  | ins (x : Str) (ns : List Str) (ds : List D)
  | dead

def GO.flat : GO → Bool
  | .lst ds => ims ds
  | .dct kvs => ims (kvs.map (·.1)) && ims (kvs.map (·.2))
  | .ins _ _ ds => ims ds
  | .dead => true

abbrev Env' := List (Option D)
abbrev Hs := List GO

/-- the attributes of classes whose instances never change once they are made -/
def immNames : List (List Str) := [["many", "arrows", "ties"], ["web", "worths", "hidden", "tables"], ["worths", "shares"], ["web", "weights", "spreads", "shared"], ["web", "worths", "hidden", "own", "ways"], ["states", "arrows", "ties"]]
def immN (ns : List Str) : Bool := immNames.contains ns
/-- a thing that never changes -/
def Imm : HO → Bool
  | .tup _ => true
  | .frz _ _ => true
  | .ins _ _ fs => immN (fs.map (·.1))
  | .own _ => true
  | _ => false

def SqF (H : Hp) (a : Addr) (vs : List V) : Prop := ∃ o, H a = some (.frz o (.lst vs))

/-- a list that is known to the object (the script) -/
def SqS (K : FK) (H : Hp) (a : Addr) (vs : List V) : Prop := (∃ o, H a = some (.frz o (.lst vs))) ∨
  ∃ (o : Obj) (its : Array Value) (n : Nat), K.fr.lookup a = some o ∧ o.cls = .type "list" ∧ o.dict = none ∧ o.data = .seq its n ∧ its.size ≤ sizeLine ∧ Vals vs its.toList
theorem SqS.sq {K : FK} {H : Hp} {a : Addr} {vs : List V} (h : SqS K H a vs) : SqL K H a vs := by
  rcases h with ⟨o, h⟩ | h
  · exact .inl (.inr ⟨o, h⟩)
  · exact .inr h
/-- a class of one's own (the module's name x), whose instances bear these attributes -/
def ObjI (K : FK) (x : Str) (C : Addr) (ns : List Str) : Prop := PySem.W.nsIn K mainGlobals x = some (some (.ref C)) ∧ Cls K C ∧ (∀ f ∈ ns, NoAttr K C f)
def ObjC (K : FK) (x : Str) (C : Addr) (ns : List Str) : Prop := PySem.W.nsIn K mainGlobals x = some (some (.ref C)) ∧ Cls K C ∧ (∀ f ∈ ns, NoAttr K C f) ∧ ns ≠ []
mutual
def R (K : FK) (γ : List Addr) (H : Hp) : D → V → Prop
  | .non, v => v = .non
  | .bl b, v => v = .bl b
  | .int i, v => v = .int i
  | .str x, v => v = .str x
  | .tup ds, v => ∃ a vs, v = .ref a ∧ SqT K H a vs ∧ Rs K γ H ds vs
  | .fl ds, v => ∃ a vs, v = .ref a ∧ SqF H a vs ∧ Rs K γ H ds vs
  | .obj x ns ds, v => ∃ a dx vs C, v = .ref a ∧ H a = some (.ins C dx (ns.zip vs)) ∧ (ObjC K x C ns ∧ ns.length = ds.length ∧ immN ns = true) ∧ Rs K γ H ds vs
  | .fd ks ds, v => ∃ a o vs, v = .ref a ∧ H a = some (.frz o (.dK (ks.zip vs))) ∧ ks.length = ds.length ∧ Rs K γ H ds vs
  | .scr ns, v => ∃ a, v = .ref a ∧ SqS K H a (ns.map V.int)
  | .rf k, v => ∃ a, v = .ref a ∧ γ[k]? = some a
def Rs (K : FK) (γ : List Addr) (H : Hp) : List D → List V → Prop
  | [], vs => vs = []
  | d :: ds, vs => ∃ v r, vs = v :: r ∧ R K γ H d v ∧ Rs K γ H ds r
end

section
variable {K : FK} {γ γ' γ2 : List Addr} {H H' H2 : Hp}
theorem Rs.length : ∀ {ds : List D} {vs : List V}, Rs K γ H ds vs → ds.length = vs.length
  | [], vs, h => by
    have e : vs = [] := by simpa [Rs] using h
    rw [e]
    rfl
  | d :: ds, vs, h => by
    simp only [Rs] at h
    obtain ⟨v, r, rfl, _, h⟩ := h
    simp [Rs.length h]
theorem Rs.cons {d : D} {ds : List D} {v : V} {vs : List V} (h : R K γ H d v) (hs : Rs K γ H ds vs) : Rs K γ H (d :: ds) (v :: vs) := by
  simp only [Rs]
  exact ⟨v, vs, rfl, h, hs⟩
theorem Rs.nil : Rs K γ H [] [] := by simp only [Rs]
theorem Rs.uncons {d : D} {ds : List D} {v : V} {vs : List V} (h : Rs K γ H (d :: ds) (v :: vs)) : R K γ H d v ∧ Rs K γ H ds vs := by
  simp only [Rs] at h
  obtain ⟨v', r, e, h1, h2⟩ := h
  cases e
  exact ⟨h1, h2⟩
theorem Rs.of_nil {vs : List V} (h : Rs K γ H [] vs) : vs = [] := by simpa [Rs] using h
theorem Rs.of_cons {d : D} {ds : List D} {vs : List V} (h : Rs K γ H (d :: ds) vs) : ∃ v r, vs = v :: r ∧ R K γ H d v ∧ Rs K γ H ds r := by
  simpa only [Rs] using h
theorem Rs.get : ∀ {ds : List D} {vs : List V} {i : Nat} {d : D}, Rs K γ H ds vs → ds[i]? = some d → ∃ v, vs[i]? = some v ∧ R K γ H d v
  | [], _, _, _, _, e => by simp at e
  | d :: ds, vs, 0, d', h, e => by
    obtain ⟨v, r, rfl, h1, h2⟩ := h.of_cons
    have e' : d = d' := by simpa using e
    subst e'
    exact ⟨v, rfl, h1⟩
  | d :: ds, vs, i + 1, d', h, e => by
    obtain ⟨v, r, rfl, h1, h2⟩ := h.of_cons
    obtain ⟨v', a, b⟩ := Rs.get (i := i) h2 (by simpa using e)
    exact ⟨v', by simpa using a, b⟩
theorem Rs.get' {ds : List D} {vs : List V} {i : Nat} {v : V} (h : Rs K γ H ds vs) (e : vs[i]? = some v) : ∃ d, ds[i]? = some d ∧ R K γ H d v := by
  have hl := h.length
  have hi := (List.getElem?_eq_some_iff.mp e).1
  have e2 : ds[i]? = some ds[i] := List.getElem?_eq_getElem (by omega)
  obtain ⟨v', a, b⟩ := h.get e2
  rw [e] at a
  cases a
  exact ⟨_, e2, b⟩
theorem Rs.append : ∀ {ds es : List D} {vs us : List V}, Rs K γ H ds vs → Rs K γ H es us → Rs K γ H (ds ++ es) (vs ++ us)
  | [], _, _, _, h, k => by
    rw [h.of_nil]
    exact k
  | d :: ds, es, vs, us, h, k => by
    obtain ⟨v, r, rfl, h1, h2⟩ := h.of_cons
    exact Rs.cons h1 (Rs.append h2 k)
theorem Rs.take : ∀ {ds : List D} {vs : List V} (n : Nat), Rs K γ H ds vs → Rs K γ H (ds.take n) (vs.take n)
  | _, _, 0, _ => Rs.nil
  | [], _, n + 1, h => by
    rw [h.of_nil]
    exact Rs.nil
  | d :: ds, vs, n + 1, h => by
    obtain ⟨v, r, rfl, h1, h2⟩ := h.of_cons
    exact Rs.cons h1 (Rs.take n h2)
theorem Rs.drop : ∀ {ds : List D} {vs : List V} (n : Nat), Rs K γ H ds vs → Rs K γ H (ds.drop n) (vs.drop n)
  | _, _, 0, h => h
  | [], _, n + 1, h => by
    rw [h.of_nil]
    exact Rs.nil
  | d :: ds, vs, n + 1, h => by
    obtain ⟨v, r, rfl, h1, h2⟩ := h.of_cons
    exact Rs.drop n h2
theorem Rs.reverse : ∀ {ds : List D} {vs : List V}, Rs K γ H ds vs → Rs K γ H ds.reverse vs.reverse
  | [], _, h => by
    rw [h.of_nil]
    exact Rs.nil
  | d :: ds, vs, h => by
    obtain ⟨v, r, rfl, h1, h2⟩ := h.of_cons
    rw [List.reverse_cons, List.reverse_cons]
    exact Rs.append (Rs.reverse h2) (Rs.cons h1 Rs.nil)
theorem Rs.set : ∀ {ds : List D} {vs : List V} {d : D} {v : V}, Rs K γ H ds vs → R K γ H d v → ∀ i : Nat, Rs K γ H (ds.set i d) (vs.set i v)
  | [], _, _, _, h, _, _ => by
    rw [h.of_nil]
    exact Rs.nil
  | d :: ds, vs, d', v', h, k, 0 => by
    obtain ⟨v, r, rfl, h1, h2⟩ := h.of_cons
    exact Rs.cons k h2
  | d :: ds, vs, d', v', h, k, i + 1 => by
    obtain ⟨v, r, rfl, h1, h2⟩ := h.of_cons
    exact Rs.cons h1 (Rs.set h2 k i)
/-- by places -/
theorem Rs.mk : ∀ {ds : List D} {vs : List V}, ds.length = vs.length → (∀ (i : Nat) d v, ds[i]? = some d → vs[i]? = some v → R K γ H d v) → Rs K γ H ds vs
  | [], [], _, _ => Rs.nil
  | [], _ :: _, e, _ => by simp at e
  | _ :: _, [], e, _ => by simp at e
  | d :: ds, v :: vs, e, h => Rs.cons (h 0 d v rfl rfl) (Rs.mk (by simpa using e) fun i d' v' a b => h (i + 1) d' v' (by simpa using a) (by simpa using b))

/-- what never changes is kept -/
def Kp (H H' : Hp) : Prop := ∀ b o, H b = some o → Imm o = true → H' b = some o
theorem Kp.refl : Kp H H := fun _ _ h _ => h
theorem Kp.trans {H1 H2 H3 : Hp} (a : Kp H1 H2) (b : Kp H2 H3) : Kp H1 H3 := fun c o h i => b c o (a c o h i) i
theorem Kp.of_same (h : Same H H') : Kp H H' := fun b o e _ => h b o e
def Pre (γ γ' : List Addr) : Prop := ∀ (k : Nat) a, γ[k]? = some a → γ'[k]? = some a
theorem Pre.refl : Pre γ γ := fun _ _ h => h
theorem Pre.app : Pre γ (γ ++ γ') := fun k a h => by
  rw [List.getElem?_append_left (List.getElem?_eq_some_iff.mp h).1]
  exact h
theorem Pre.trans (a : Pre γ γ') (b : Pre γ' γ2) : Pre γ γ2 := fun k c h => b k c (a k c h)
theorem Kp.sqT {K : PySem.W.Frag} {a : Addr} {vs : List V} (k : Kp H H') (h : SqT K H a vs) : SqT K H' a vs := by
  rcases h with (h | ⟨o, h⟩) | h
  · exact .inl (.inl (k _ _ h rfl))
  · exact .inl (.inr ⟨o, k _ _ h rfl⟩)
  · exact .inr h
theorem Kp.sqF {a : Addr} {vs : List V} (k : Kp H H') (h : SqF H a vs) : SqF H' a vs := by
  obtain ⟨o, h⟩ := h
  exact ⟨o, k _ _ h rfl⟩
theorem SqF.sq {K : PySem.W.Frag} {a : Addr} {vs : List V} (h : SqF H a vs) : SqL K H a vs := by
  obtain ⟨o, h⟩ := h
  exact .inl (.inr ⟨o, h⟩)
theorem imm_ins {C dx : Addr} {ns : List Str} {ds : List D} {vs : List V} (h : ns.length = ds.length) (hi : immN ns = b) (hl : ds.length = vs.length) : Imm (.ins C dx (ns.zip vs)) = b := by
  show immN ((ns.zip vs).map (·.1)) = b
  rw [List.map_fst_zip (by omega), hi]
mutual
theorem R.mono (k : Kp H H') (p : Pre γ γ') : ∀ (d : D) (v : V), R K γ H d v → R K γ' H' d v
  | .non, v, h => by simpa only [R] using h
  | .bl b, v, h => by simpa only [R] using h
  | .int i, v, h => by simpa only [R] using h
  | .str x, v, h => by simpa only [R] using h
  | .tup ds, v, h => by
    simp only [R] at h ⊢
    obtain ⟨a, vs, e, h1, h2⟩ := h
    exact ⟨a, vs, e, k.sqT h1, Rs.mono k p ds vs h2⟩
  | .fl ds, v, h => by
    simp only [R] at h ⊢
    obtain ⟨a, vs, e, h1, h2⟩ := h
    exact ⟨a, vs, e, k.sqF h1, Rs.mono k p ds vs h2⟩
  | .obj x ns ds, v, h => by
    simp only [R] at h ⊢
    obtain ⟨a, dx, vs, C, e, h1, hc, h2⟩ := h
    exact ⟨a, dx, vs, C, e, k _ _ h1 (imm_ins hc.2.1 hc.2.2 h2.length), hc, Rs.mono k p ds vs h2⟩
  | .fd ks ds, v, h => by
    simp only [R] at h ⊢
    obtain ⟨a, o, vs, e, h1, hl, h2⟩ := h
    exact ⟨a, o, vs, e, k _ _ h1 rfl, hl, Rs.mono k p ds vs h2⟩
  | .scr ns, v, h => by
    simp only [R] at h ⊢
    obtain ⟨a, e, h1⟩ := h
    refine ⟨a, e, h1.imp (fun ⟨o, h1⟩ => ⟨o, k _ _ h1 rfl⟩) id⟩
  | .rf n, v, h => by
    simp only [R] at h ⊢
    obtain ⟨a, e, h1⟩ := h
    exact ⟨a, e, p _ _ h1⟩
theorem Rs.mono (k : Kp H H') (p : Pre γ γ') : ∀ (ds : List D) (vs : List V), Rs K γ H ds vs → Rs K γ' H' ds vs
  | [], vs, h => by
    rw [h.of_nil]
    exact Rs.nil
  | d :: ds, vs, h => by
    obtain ⟨v, r, rfl, h1, h2⟩ := h.of_cons
    exact Rs.cons (R.mono k p d v h1) (Rs.mono k p ds r h2)
end
mutual
/-- data without roots -/
theorem R.im : ∀ (d : D) (v : V), d.im = true → R K γ H d v → R K γ' H d v
  | .non, v, _, h => by simpa only [R] using h
  | .bl b, v, _, h => by simpa only [R] using h
  | .int i, v, _, h => by simpa only [R] using h
  | .str x, v, _, h => by simpa only [R] using h
  | .tup ds, v, i, h => by
    simp only [R] at h ⊢
    obtain ⟨a, vs, e, h1, h2⟩ := h
    exact ⟨a, vs, e, h1, Rs.im ds vs (by simpa only [D.im] using i) h2⟩
  | .fl ds, v, i, h => by
    simp only [R] at h ⊢
    obtain ⟨a, vs, e, h1, h2⟩ := h
    exact ⟨a, vs, e, h1, Rs.im ds vs (by simpa only [D.im] using i) h2⟩
  | .obj x ns ds, v, i, h => by
    simp only [R] at h ⊢
    obtain ⟨a, dx, vs, C, e, h1, hc, h2⟩ := h
    exact ⟨a, dx, vs, C, e, h1, hc, Rs.im ds vs (by simpa only [D.im] using i) h2⟩
  | .fd ks ds, v, i, h => by
    simp only [R] at h ⊢
    obtain ⟨a, o, vs, e, h1, hl, h2⟩ := h
    exact ⟨a, o, vs, e, h1, hl, Rs.im ds vs (by simpa only [D.im] using i) h2⟩
  | .scr ns, v, i, h => by simpa only [R] using h
  | .rf n, v, i, h => by simp [D.im] at i
theorem Rs.im : ∀ (ds : List D) (vs : List V), ims ds = true → Rs K γ H ds vs → Rs K γ' H ds vs
  | [], vs, _, h => by
    rw [h.of_nil]
    exact Rs.nil
  | d :: ds, vs, i, h => by
    simp only [ims, Bool.and_eq_true] at i
    obtain ⟨v, r, rfl, h1, h2⟩ := h.of_cons
    exact Rs.cons (R.im d v i.1 h1) (Rs.im ds r i.2 h2)
end
end

/-! ### dicts whose keys are tuples of ints, bools, texts, None .. -/
mutual
def nk : D → Option NestedKey
  | .non => some .none
  | .bl b => some (.num (if b = true then 1 else 0))
  | .int i => some (.num i)
  | .str x => some (.text x)
  | .tup ds => (nks ds).map .tup
  | _ => none
def nks : List D → Option (List NestedKey)
  | [] => some []
  | d :: ds => (nk d).bind fun k => (nks ds).bind fun ks => some (k :: ks)
end
def ent0 (K : FK) (x : NestedKey × Addr × Value) : DictEntry := ⟨x.1.hash K.wd, .ref x.2.1, x.2.2⟩
def dctO (K : FK) (a : Addr) (xs : List (NestedKey × Addr × Value)) (ep : Nat) : HO := .ext fun h => (a == sysModules) = false ∧ xs.length ≤ sizeLine ∧ ∃ o es, h.get? a = some o ∧ o.ExactDict ∧ o.data = .dict es ep ∧ es.toList = xs.map (ent0 K)
def DK (K : FK) (γ : List Addr) (H : Hp) : List (D × D) → List (NestedKey × Addr × Value) → Prop
  | [], xs => xs = []
  | (k, d) :: r, xs => ∃ q b u t v, xs = (q, b, u) :: t ∧ (nk k = some q ∧ q.depth ≤ 8 ∧ ∃ ts, k = .tup ts) ∧ R K γ H k (.ref b) ∧ RelV v u ∧ R K γ H d v ∧ DK K γ H r t
theorem DK.mono {K : FK} {γ γ' : List Addr} {H H' : Hp} (k : Kp H H') (p : Pre γ γ') : ∀ {kvs : List (D × D)} {xs : List (NestedKey × Addr × Value)}, DK K γ H kvs xs → DK K γ' H' kvs xs
  | [], _, h => h
  | (c, d) :: r, xs, h => by
    obtain ⟨q, b, u, t, v, e, h1, h2, h3, h4, h5⟩ := h
    exact ⟨q, b, u, t, v, e, h1, R.mono k p _ _ h2, h3, R.mono k p _ _ h4, DK.mono k p h5⟩
theorem DK.im {K : FK} {γ γ' : List Addr} {H : Hp} : ∀ {kvs : List (D × D)} {xs : List (NestedKey × Addr × Value)}, ims (kvs.map (·.1)) = true → ims (kvs.map (·.2)) = true → DK K γ H kvs xs → DK K γ' H kvs xs
  | [], _, _, _, h => h
  | (c, d) :: r, xs, i1, i2, h => by
    simp only [List.map_cons, ims, Bool.and_eq_true] at i1 i2
    obtain ⟨q, b, u, t, v, e, h1, h2, h3, h4, h5⟩ := h
    exact ⟨q, b, u, t, v, e, h1, R.im _ _ i1.1 h2, h3, R.im _ _ i2.1 h4, DK.im i1.2 i2.2 h5⟩

/-- a root's content -/
def RG (K : FK) (γ : List Addr) (H : Hp) : GO → Addr → Prop
  | .lst ds, a => ∃ vs, H a = some (.lst vs) ∧ Rs K γ H ds vs
  | .dct kvs, a => ∃ xs ep, H a = some (dctO K a xs ep) ∧ (xs.map (·.1)).Nodup ∧ DK K γ H kvs xs
  | .ins x ns ds, a => ∃ C dx vs, H a = some (.ins C dx (ns.zip vs)) ∧ (ObjI K x C ns ∧ ns.length = ds.length ∧ immN ns = false) ∧ Rs K γ H ds vs
  | .dead, _ => True

/-- the roots -/
structure Ro (K : FK) (H : Hp) (G : Hs) (γ : List Addr) : Prop where
  len : G.length = γ.length
  nd : γ.Nodup
  ex : ∀ a ∈ γ, H a ≠ none
  rt : ∀ (k : Nat) o a, G[k]? = some o → γ[k]? = some a → RG K γ H o a
/-- slots and roots -/
structure Sx (K : FK) (H : Hp) (δ : Env') (G : Hs) (σ : L2.St) (γ : List Addr) : Prop extends Ro K H G γ where
  dl : δ.length = σ.length
  sl : ∀ (i : Nat) d, δ[i]? = some (some d) → ∃ v, σ[i]? = some (some v) ∧ R K γ H d v
/-- behind a step: what is no root or never changes is kept; new roots are new -/
structure Aft (γ : List Addr) (H : Hp) (γ' : List Addr) (H' : Hp) : Prop where
  tr : ∀ b o, H b = some o → (b ∉ γ ∨ Imm o = true) → H' b = some o
  ex : ∀ b, H b ≠ none → H' b ≠ none
  pre : γ <+: γ'
  fr : ∀ a ∈ γ', a ∈ γ ∨ H a = none

section
variable {K : FK} {γ γ' γ2 : List Addr} {H H' H2 : Hp} {δ : Env'} {G : Hs} {σ : L2.St}
theorem Aft.kp (a : Aft γ H γ' H') : Kp H H' := fun b o h i => a.tr b o h (.inr i)
theorem Pre.of (a : γ <+: γ') : Pre γ γ' := fun k c h => by
  obtain ⟨t, rfl⟩ := a
  exact Pre.app k c h
theorem Aft.pr (a : Aft γ H γ' H') : Pre γ γ' := Pre.of a.pre
theorem Aft.refl : Aft γ H γ H := ⟨fun _ _ h _ => h, fun _ h => h, List.prefix_rfl, fun a h => .inl h⟩
theorem Same.none' {b : Addr} (h : Same H H') (e : H b ≠ none) : H' b ≠ none := fun z => by
  cases q : H b with
  | none => exact e q
  | some o =>
    rw [h b o q] at z
    cases z
theorem Aft.of_same (h : Same H H') : Aft γ H γ H' := ⟨fun b o e _ => h b o e, fun b e => Same.none' h e, List.prefix_rfl, fun a h => .inl h⟩
theorem Aft.trans (a : Aft γ H γ' H') (b : Aft γ' H' γ2 H2) : Aft γ H γ2 H2 where
  tr := fun c o h i => b.tr c o (a.tr c o h i) (i.imp (fun n z => by
    rcases a.fr c z with z | z
    · exact n z
    · rw [z] at h; cases h) id)
  ex := fun c h => b.ex c (a.ex c h)
  pre := a.pre.trans b.pre
  fr := fun c z => by
    rcases b.fr c z with z | z
    · exact a.fr c z
    · cases q : H c with
      | none => exact .inr rfl
      | some o => exact absurd z (a.ex c (by rw [q]; simp))
theorem R.aft {d : D} {v : V} (a : Aft γ H γ' H') (h : R K γ H d v) : R K γ' H' d v := R.mono a.kp a.pr d v h
theorem Rs.aft {d : List D} {v : List V} (a : Aft γ H γ' H') (h : Rs K γ H d v) : Rs K γ' H' d v := Rs.mono a.kp a.pr d v h
theorem R.same {d : D} {v : V} (a : Same H H') (h : R K γ H d v) : R K γ H' d v := R.mono (Kp.of_same a) Pre.refl d v h
theorem Rs.same {d : List D} {v : List V} (a : Same H H') (h : Rs K γ H d v) : Rs K γ H' d v := Rs.mono (Kp.of_same a) Pre.refl d v h
theorem Ro.same (r : Ro K H G γ) (s : Same H H') : Ro K H' G γ where
  len := r.len
  nd := r.nd
  ex := fun a h => Same.none' s (r.ex a h)
  rt := fun k o a e1 e2 => by
    have h := r.rt k o a e1 e2
    cases o with
    | lst ds =>
      obtain ⟨vs, h1, h2⟩ := h
      exact ⟨vs, s _ _ h1, Rs.same s h2⟩
    | dct kvs =>
      obtain ⟨xs, ep, h1, hn, h2⟩ := h
      exact ⟨xs, ep, s _ _ h1, hn, h2.mono (Kp.of_same s) Pre.refl⟩
    | ins x ns ds =>
      obtain ⟨C, dx, vs, h1, hc, h2⟩ := h
      exact ⟨C, dx, vs, s _ _ h1, hc, Rs.same s h2⟩
    | dead => trivial
theorem Sx.same (r : Sx K H δ G σ γ) (s : Same H H') : Sx K H' δ G σ γ :=
  { r.toRo.same s with
    dl := r.dl
    sl := fun i d e => by
      obtain ⟨v, h1, h2⟩ := r.sl i d e
      exact ⟨v, h1, R.same s h2⟩ }
theorem same_upd {p : Addr} {o : HO} (h : H p = none) : Same H (upd H p o) := fun b x e => by
  rw [upd_ne (ne_of_none e h)]
  exact e
end
end FL
namespace FL
open PySem PySem.Spec PyProof.Rows L2

inductive Ctl where
  | nx | rt (d : D) | bk | ct
abbrev RE := Env' → Hs → Option D
abbrev EE := Env' → Hs → Option (D × Hs)
abbrev RT := Env' → Hs → Option Bool
abbrev ET := Env' → Hs → Option (Bool × Hs)
abbrev RA := Env' → Hs → Option (List D)
abbrev EA := Env' → Hs → Option (List D × Hs)
abbrev SS := Env' → Hs → Option (Ctl × Env' × Hs)

section
variable (K : FK)
def lR (f : RE) : TE := fun σ H Q => ∃ δ G γ d, Sx K H δ G σ γ ∧ f δ G = some d ∧ ∀ v H', Same H H' → R K γ H' d v → Q v H'
def lE (f : EE) : TE := fun σ H Q => ∃ δ G γ d G', Sx K H δ G σ γ ∧ f δ G = some (d, G') ∧ ∀ v H' γ', Aft γ H γ' H' → Sx K H' δ G' σ γ' → R K γ' H' d v → Q v H'
def lRT (f : RT) : TT := fun σ H Q => ∃ δ G γ b, Sx K H δ G σ γ ∧ f δ G = some b ∧ ∀ H', Same H H' → Q b H'
def lET (f : ET) : TT := fun σ H Q => ∃ δ G γ b G', Sx K H δ G σ γ ∧ f δ G = some (b, G') ∧ ∀ H' γ', Aft γ H γ' H' → Sx K H' δ G' σ γ' → Q b H'
def lRA (f : RA) : TA := fun σ H Q => ∃ δ G γ ds, Sx K H δ G σ γ ∧ f δ G = some ds ∧ ∀ vs H', Same H H' → Rs K γ H' ds vs → Q vs H'
def lEA (f : EA) : TA := fun σ H Q => ∃ δ G γ ds G', Sx K H δ G σ γ ∧ f δ G = some (ds, G') ∧ ∀ vs H' γ', Aft γ H γ' H' → Sx K H' δ G' σ γ' → Rs K γ' H' ds vs → Q vs H'
end
def ofR (f : RE) : EE := fun δ G => (f δ G).bind fun d => some (d, G)
def ofRT (f : RT) : ET := fun δ G => (f δ G).bind fun d => some (d, G)
def ofRA (f : RA) : EA := fun δ G => (f δ G).bind fun d => some (d, G)

theorem PE.imp {X : Cx} {e : Expr} {t t' : TE} (h : PE X e t) (i : ∀ σ H Q, t' σ H Q → t σ H Q) : PE X e t' := ⟨fun pins s σ H Q I q => h.run pins s σ H Q I (i σ H Q q)⟩
theorem PT.imp {X : Cx} {e : Expr} {t t' : TT} (h : PT X e t) (i : ∀ σ H Q, t' σ H Q → t σ H Q) : PT X e t' := ⟨fun pins s σ H Q I q => h.run pins s σ H Q I (i σ H Q q)⟩
theorem PW.imp {X : Cx} {e : Expr} {t t' : TT} (h : PW X e t) (i : ∀ σ H Q, t' σ H Q → t σ H Q) : PW X e t' := ⟨fun wh pins s σ H Q I q => h.run wh pins s σ H Q I (i σ H Q q)⟩
theorem PA.imp {X : Cx} {e : List Expr} {t t' : TA} (h : PA X e t) (i : ∀ σ H Q, t' σ H Q → t σ H Q) : PA X e t' := ⟨fun p pins s σ H Q I q => h.run p pins s σ H Q I (i σ H Q q)⟩
theorem PS.imp {X : Cx} {e : Stmt} {t t' : TS} (h : PS X e t) (i : ∀ D σ H, t' D σ H → t D σ H) : PS X e t' := ⟨fun pins s σ H D I q => h.run pins s σ H D I (i D σ H q)⟩
theorem PSs.imp {X : Cx} {e : List Stmt} {t t' : TS} (h : PSs X e t) (i : ∀ D σ H, t' D σ H → t D σ H) : PSs X e t' := ⟨fun pins s σ H D I q => h.run pins s σ H D I (i D σ H q)⟩

abbrev DR (X : Cx) (e : Expr) (f : RE) : Prop := PE X e (lR X.F f)
abbrev DE (X : Cx) (e : Expr) (f : EE) : Prop := PE X e (lE X.F f)
abbrev DRT (X : Cx) (e : Expr) (f : RT) : Prop := PT X e (lRT X.F f)
abbrev DET (X : Cx) (e : Expr) (f : ET) : Prop := PT X e (lET X.F f)
abbrev DRW (X : Cx) (e : Expr) (f : RT) : Prop := PW X e (lRT X.F f)
abbrev DEW (X : Cx) (e : Expr) (f : ET) : Prop := PW X e (lET X.F f)
abbrev DRA (X : Cx) (e : List Expr) (f : RA) : Prop := PA X e (lRA X.F f)
abbrev DEA (X : Cx) (e : List Expr) (f : EA) : Prop := PA X e (lEA X.F f)

section
variable {X : Cx} {a b c e : Expr} {es rest : List Expr} {pos : Pos} {fa fb fc : RE} {ga gb gc : EE} {ta tb : RT} {ua ub : ET} {fs : RA} {gs : EA}

theorem de_of (h : DR X e fa) : DE X e (ofR fa) := PE.imp h fun σ H Q ⟨δ, G, γ, d, G', S, ef, q⟩ => by
  simp only [ofR, Option.bind_eq_some_iff, Option.some.injEq, Prod.mk.injEq] at ef
  obtain ⟨d', e1, e2, e3⟩ := ef
  subst e2 e3
  exact ⟨δ, G, γ, d', S, e1, fun v H' s r => q v H' γ (Aft.of_same s) (S.same s) r⟩
theorem det_of (h : DRT X e ta) : DET X e (ofRT ta) := PT.imp h fun σ H Q ⟨δ, G, γ, d, G', S, ef, q⟩ => by
  simp only [ofRT, Option.bind_eq_some_iff, Option.some.injEq, Prod.mk.injEq] at ef
  obtain ⟨d', e1, e2, e3⟩ := ef
  subst e2 e3
  exact ⟨δ, G, γ, d', S, e1, fun H' s => q H' γ (Aft.of_same s) (S.same s)⟩
theorem dew_of (h : DRW X e ta) : DEW X e (ofRT ta) := PW.imp h fun σ H Q ⟨δ, G, γ, d, G', S, ef, q⟩ => by
  simp only [ofRT, Option.bind_eq_some_iff, Option.some.injEq, Prod.mk.injEq] at ef
  obtain ⟨d', e1, e2, e3⟩ := ef
  subst e2 e3
  exact ⟨δ, G, γ, d', S, e1, fun H' s => q H' γ (Aft.of_same s) (S.same s)⟩

/-! names and constants -/
def rVar (i : Nat) : RE := fun δ _ => match δ[i]? with
  | some (some d) => some d
  | _ => none
def rC (d : D) : RE := fun _ _ => some d
theorem dr_var (i : Nat) {x : Str} (hN : X.N[i]? = some x := by rfl) (hv : Vis X.env.scope x := by first | exact Or.inl rfl | exact Or.inr (Or.inl rfl) | exact Or.inr (Or.inr rfl)) (hd : (x == ("__debug__" : Str)) = false := by decide)
    (hcd : (x == ("__classdict__" : Str)) = false := by decide) : DR X (.Name x pos) (rVar i) := PE.imp (pe_var hN hv hd hcd) fun σ H Q ⟨δ, G, γ, d, S, ef, q⟩ => by
  unfold rVar at ef
  split at ef
  · rename_i d' e1
    cases ef
    obtain ⟨v, h1, h2⟩ := S.sl i _ e1
    exact ⟨v, h1, q v H (Same.refl H) h2⟩
  · cases ef
theorem dr_c {d : D} {v : V} (h : PE X e (tC v)) (r : ∀ γ H, R X.F γ H d v) : DR X e (rC d) := PE.imp h fun σ H Q ⟨δ, G, γ, d', S, ef, q⟩ => by
  cases ef
  exact q v H (Same.refl H) (r γ H)
theorem dr_int {i j} : DR X (.Constant (.int i) j pos) (rC (.int i)) := dr_c pe_int fun _ _ => by simp only [R]
theorem dr_bl {i j} : DR X (.Constant (.bool i) j pos) (rC (.bl i)) := dr_c pe_bl fun _ _ => by simp only [R]
theorem dr_non {j} : DR X (.Constant .none j pos) (rC .non) := dr_c pe_non fun _ _ => by simp only [R]
theorem dr_str {i j} : DR X (.Constant (.str i) j pos) (rC (.str i)) := dr_c pe_str fun _ _ => by simp only [R]
/-- a module's constant -/
def CstOk (K : FK) (mg : Str → Option Value) (x : Str) (d : D) : Prop := ∃ u v, mg x = some u ∧ RelV v u ∧ ∀ γ H, R K γ H d v
theorem dr_g {x : Str} {d : D} (h : CstOk X.F X.mg x d) (hg : Gl X x := by rfl) (hd : (x == ("__debug__" : Str)) = false := by decide) : DR X (.Name x pos) (rC d) := by
  obtain ⟨u, v, hm, r, hr⟩ := h
  exact dr_c (pe_glob hg hm r hd) hr

/-! operators by values -/
def OpG (K : FK) (r : R2) (g : Hs → D → D → Option D) : Prop :=
  ∀ G γ H dx dy d v u Q, Ro K H G γ → R K γ H dx v → R K γ H dy u → g G dx dy = some d → (∀ v' H', Same H H' → R K γ H' d v' → Q v' H') → r v u H Q
def rBin (g : Hs → D → D → Option D) (fa fb : RE) : RE := fun δ G => (fa δ G).bind fun x => (fb δ G).bind fun y => g G x y
def eBin (g : Hs → D → D → Option D) (fa fb : EE) : EE := fun δ G => (fa δ G).bind fun x => (fb δ x.2).bind fun y => (g y.2 x.1 y.1).bind fun d => some (d, y.2)
theorem bin_r {r : R2} {g : Hs → D → D → Option D} (hr : OpG X.F r g) (σ : L2.St) (H : Hp) (Q : VK) (h : lR X.F (rBin g fa fb) σ H Q) : tOp r (lR X.F fa) (lR X.F fb) σ H Q := by
  obtain ⟨δ, G, γ, d, S, ef, q⟩ := h
  simp only [rBin, Option.bind_eq_some_iff] at ef
  obtain ⟨x, ex, y, ey, eg⟩ := ef
  refine ⟨δ, G, γ, x, S, ex, fun v H1 s1 r1 => ⟨δ, G, γ, y, S.same s1, ey, fun u H2 s2 r2 => ?_⟩⟩
  exact hr G γ H2 x y d v u Q ((S.same s1).same s2).toRo (R.same s2 r1) r2 eg fun v' H3 s3 r3 => q v' H3 (s1.trans (s2.trans s3)) r3
theorem bin_e {r : R2} {g : Hs → D → D → Option D} (hr : OpG X.F r g) (σ : L2.St) (H : Hp) (Q : VK) (h : lE X.F (eBin g ga gb) σ H Q) : tOp r (lE X.F ga) (lE X.F gb) σ H Q := by
  obtain ⟨δ, G, γ, d, G', S, ef, q⟩ := h
  simp only [eBin, Option.bind_eq_some_iff, Option.some.injEq, Prod.mk.injEq] at ef
  obtain ⟨⟨x, G1⟩, ex, ⟨y, G2⟩, ey, d', eg, rfl, rfl⟩ := ef
  refine ⟨δ, G, γ, x, G1, S, ex, fun v H1 γ1 a1 S1 r1 => ⟨δ, G1, γ1, y, G2, S1, ey, fun u H2 γ2 a2 S2 r2 => ?_⟩⟩
  exact hr G2 γ2 H2 x y d' v u Q S2.toRo (R.aft a2 r1) r2 eg fun v' H3 s3 r3 => q v' H3 γ2 (a1.trans (a2.trans (Aft.of_same s3))) (S2.same s3) r3
theorem dr_op {op : Operator} {r : R2} {g : Hs → D → D → Option D} (ho : OpR X (binaryOp op) r) (hr : OpG X.F r g) (ha : DR X a fa) (hb : DR X b fb) : DR X (.BinOp a op b pos) (rBin g fa fb) := PE.imp (pe_op ho ha hb) (bin_r hr)
theorem de_op {op : Operator} {r : R2} {g : Hs → D → D → Option D} (ho : OpR X (binaryOp op) r) (hr : OpG X.F r g) (ha : DE X a ga) (hb : DE X b gb) : DE X (.BinOp a op b pos) (eBin g ga gb) := PE.imp (pe_op ho ha hb) (bin_e hr)
theorem dr_cmp {op : CmpOp} {r : R2} {g : Hs → D → D → Option D} (ho : OpR X (compareOp op) r) (hr : OpG X.F r g) (ha : DR X a fa) (hb : DR X b fb) (hm : behindInMarks op b = false) : DR X (.Compare a [op] [b] pos) (rBin g fa fb) := PE.imp (pe_cmpR ho ha hb hm) (bin_r hr)
theorem de_cmp {op : CmpOp} {r : R2} {g : Hs → D → D → Option D} (ho : OpR X (compareOp op) r) (hr : OpG X.F r g) (ha : DE X a ga) (hb : DE X b gb) (hm : behindInMarks op b = false) : DE X (.Compare a [op] [b] pos) (eBin g ga gb) := PE.imp (pe_cmpR ho ha hb hm) (bin_e hr)

/-! a bool as a test -/
def toB : D → Option Bool
  | .bl b => some b
  | _ => none
def rB (f : RE) : RT := fun δ G => (f δ G).bind toB
def eB (f : EE) : ET := fun δ G => (f δ G).bind fun x => (toB x.1).bind fun b => some (b, x.2)
theorem toB_some {d : D} {b : Bool} (h : toB d = some b) : d = .bl b := by
  unfold toB at h
  split at h
  · cases h; rfl
  · cases h
theorem test_r {t : TE} {f : RE} (hi : ∀ σ H Q, lR X.F f σ H Q → t σ H Q) (σ : L2.St) (H : Hp) (Q : Bool → Hp → Prop) (h : lRT X.F (rB f) σ H Q) : t σ H fun x H' => ∃ k, x = .bl k ∧ Q k H' := by
  obtain ⟨δ, G, γ, b, S, ef, q⟩ := h
  simp only [rB, Option.bind_eq_some_iff] at ef
  obtain ⟨x, ex, eb⟩ := ef
  obtain rfl := toB_some eb
  refine hi σ H _ ⟨δ, G, γ, _, S, ex, fun v H1 s1 r1 => ?_⟩
  simp only [R] at r1
  exact ⟨b, r1, q H1 s1⟩
theorem test_e {t : TE} {f : EE} (hi : ∀ σ H Q, lE X.F f σ H Q → t σ H Q) (σ : L2.St) (H : Hp) (Q : Bool → Hp → Prop) (h : lET X.F (eB f) σ H Q) : t σ H fun x H' => ∃ k, x = .bl k ∧ Q k H' := by
  obtain ⟨δ, G, γ, b, G', S, ef, q⟩ := h
  simp only [eB, Option.bind_eq_some_iff, Option.some.injEq, Prod.mk.injEq] at ef
  obtain ⟨⟨x, G1⟩, ex, b', eb, rfl, rfl⟩ := ef
  obtain rfl := toB_some eb
  refine hi σ H _ ⟨δ, G, γ, _, G1, S, ex, fun v H1 γ1 a1 S1 r1 => ?_⟩
  simp only [R] at r1
  exact ⟨b', r1, q H1 γ1 a1 S1⟩
theorem drt_cmp {op : CmpOp} {r : R2} {g : Hs → D → D → Option D} (ho : OpR X (compareOp op) r) (hr : OpG X.F r g) (ha : DR X a fa) (hb : DR X b fb) (hm : behindInMarks op b = false) : DRT X (.Compare a [op] [b] pos) (rB (rBin g fa fb)) := PT.imp (pt_cmpR ho ha hb hm) (test_r (bin_r hr))
theorem det_cmp {op : CmpOp} {r : R2} {g : Hs → D → D → Option D} (ho : OpR X (compareOp op) r) (hr : OpG X.F r g) (ha : DE X a ga) (hb : DE X b gb) (hm : behindInMarks op b = false) : DET X (.Compare a [op] [b] pos) (eB (eBin g ga gb)) := PT.imp (pt_cmpR ho ha hb hm) (test_e (bin_e hr))
/-- an expression that is a bool (a name, a call), as a test -/
theorem drt_val (ha : DR X a fa) (he : ∀ whole, isTrue a X.env whole = (do let v ← whole; standAt a.pos; holding [v] (truthy v)) := by intro _; rfl) : DRT X a (rB fa) := PT.imp (pt_val ha he) (test_r fun _ _ _ h => h)
theorem det_val (ha : DE X a ga) (he : ∀ whole, isTrue a X.env whole = (do let v ← whole; standAt a.pos; holding [v] (truthy v)) := by intro _; rfl) : DET X a (eB ga) := PT.imp (pt_val ha he) (test_e fun _ _ _ h => h)
/-- truth of any value -/
def truD (G : Hs) : D → Option Bool
  | .non => some false
  | .bl b => some b
  | .int i => some (i != 0)
  | .tup ds => some (!ds.isEmpty)
  | .fl ds => some (!ds.isEmpty)
  | .scr ns => some (!ns.isEmpty)
  | .rf k => match G[k]? with
    | some (.lst ds) => some (!ds.isEmpty)
    | _ => none
  | _ => none
def rTru (f : RE) : RT := fun δ G => (f δ G).bind (truD G)
def eTru (f : EE) : ET := fun δ G => (f δ G).bind fun x => (truD x.2 x.1).bind fun b => some (b, x.2)
theorem Rs.isEmpty {K : FK} {γ : List Addr} {H : Hp} {ds : List D} {vs : List V} (h : Rs K γ H ds vs) : vs.isEmpty = ds.isEmpty := by
  cases ds with
  | nil =>
    rw [h.of_nil]
    rfl
  | cons d ds =>
    obtain ⟨v, r, rfl, _⟩ := h.of_cons
    rfl
theorem Ro.at {K : FK} {γ : List Addr} {H : Hp} {G : Hs} {k : Nat} {o : GO} {a : Addr} (r : Ro K H G γ) (e : G[k]? = some o) (ha : γ[k]? = some a) : RG K γ H o a := r.rt k o a e ha
theorem truD_ok {K : FK} {γ : List Addr} {H : Hp} {G : Hs} {d : D} {v : V} {b : Bool} (r : Ro K H G γ) (h : R K γ H d v) (e : truD G d = some b) : TruV K v H b := by
  cases d with
  | non => simp only [R] at h; simp only [truD, Option.some.injEq] at e; subst h e; rfl
  | bl _ => simp only [R] at h; simp only [truD, Option.some.injEq] at e; subst h e; rfl
  | int _ => simp only [R] at h; simp only [truD, Option.some.injEq] at e; subst h e; rfl
  | str _ => cases e
  | tup ds =>
    simp only [R] at h
    simp only [truD, Option.some.injEq] at e
    obtain ⟨a, vs, rfl, h1, h2⟩ := h
    subst e
    exact .inr (.inl ⟨vs, h1, by rw [h2.isEmpty]⟩)
  | fl ds =>
    simp only [R] at h
    simp only [truD, Option.some.injEq] at e
    obtain ⟨a, vs, rfl, h1, h2⟩ := h
    subst e
    exact .inl ⟨vs, h1.sq, by rw [h2.isEmpty]⟩
  | obj _ _ _ => cases e
  | scr ns =>
    simp only [R] at h
    simp only [truD, Option.some.injEq] at e
    obtain ⟨a, rfl, h1⟩ := h
    subst e
    exact .inl ⟨ns.map V.int, h1.sq, by rw [List.isEmpty_map]⟩
  | fd _ _ => cases e
  | rf k =>
    simp only [R] at h
    obtain ⟨a, rfl, h1⟩ := h
    simp only [truD] at e
    split at e
    · rename_i ds eg
      cases e
      obtain ⟨vs, h2, h3⟩ := r.at eg h1
      exact .inl ⟨vs, .inl (.inl h2), by rw [h3.isEmpty]⟩
    · cases e
theorem drt_tru (ha : DR X a fa) (he : ∀ whole, isTrue a X.env whole = (do let v ← whole; standAt a.pos; holding [v] (truthy v)) := by intro _; rfl) : DRT X a (rTru fa) := PT.imp (pt_truth ha he) fun σ H Q ⟨δ, G, γ, b, S, ef, q⟩ => by
  simp only [rTru, Option.bind_eq_some_iff] at ef
  obtain ⟨x, ex, eb⟩ := ef
  exact ⟨δ, G, γ, x, S, ex, fun v H1 s1 r1 => ⟨b, truD_ok (S.same s1).toRo r1 eb, q H1 s1⟩⟩
theorem det_tru (ha : DE X a ga) (he : ∀ whole, isTrue a X.env whole = (do let v ← whole; standAt a.pos; holding [v] (truthy v)) := by intro _; rfl) : DET X a (eTru ga) := PT.imp (pt_truth ha he) fun σ H Q ⟨δ, G, γ, b, G', S, ef, q⟩ => by
  simp only [eTru, Option.bind_eq_some_iff, Option.some.injEq, Prod.mk.injEq] at ef
  obtain ⟨⟨x, G1⟩, ex, b', eb, rfl, rfl⟩ := ef
  exact ⟨δ, G, γ, x, G1, S, ex, fun v H1 γ1 a1 S1 r1 => ⟨b', truD_ok S1.toRo r1 eb, q H1 γ1 a1 S1⟩⟩

/-! and, or, not -/
def rAnd (f g : RT) : RT := fun δ G => (f δ G).bind fun b => if b = true then g δ G else some false
def rOr (f g : RT) : RT := fun δ G => (f δ G).bind fun b => if b = true then some true else g δ G
def rNot (f : RT) : RT := fun δ G => (f δ G).bind fun b => some (!b)
def eAnd (f g : ET) : ET := fun δ G => (f δ G).bind fun b => if b.1 = true then g δ b.2 else some (false, b.2)
def eOr (f g : ET) : ET := fun δ G => (f δ G).bind fun b => if b.1 = true then some (true, b.2) else g δ b.2
def eNot (f : ET) : ET := fun δ G => (f δ G).bind fun b => some (!b.1, b.2)
theorem and_r (σ : L2.St) (H : Hp) (Q : Bool → Hp → Prop) (h : lRT X.F (rAnd ta tb) σ H Q) : tAnd (lRT X.F ta) (lRT X.F tb) σ H Q := by
  obtain ⟨δ, G, γ, b, S, ef, q⟩ := h
  simp only [rAnd, Option.bind_eq_some_iff] at ef
  obtain ⟨x, ex, eb⟩ := ef
  refine ⟨δ, G, γ, x, S, ex, fun H1 s1 => ?_⟩
  cases x with
  | true => exact ⟨δ, G, γ, b, S.same s1, by simpa using eb, fun H2 s2 => q H2 (s1.trans s2)⟩
  | false =>
    have : b = false := by simpa using eb.symm
    subst this
    exact q H1 s1
theorem or_r (σ : L2.St) (H : Hp) (Q : Bool → Hp → Prop) (h : lRT X.F (rOr ta tb) σ H Q) : tOr (lRT X.F ta) (lRT X.F tb) σ H Q := by
  obtain ⟨δ, G, γ, b, S, ef, q⟩ := h
  simp only [rOr, Option.bind_eq_some_iff] at ef
  obtain ⟨x, ex, eb⟩ := ef
  refine ⟨δ, G, γ, x, S, ex, fun H1 s1 => ?_⟩
  cases x with
  | false => exact ⟨δ, G, γ, b, S.same s1, by simpa using eb, fun H2 s2 => q H2 (s1.trans s2)⟩
  | true =>
    have : b = true := by simpa using eb.symm
    subst this
    exact q H1 s1
theorem and_e (σ : L2.St) (H : Hp) (Q : Bool → Hp → Prop) (h : lET X.F (eAnd ua ub) σ H Q) : tAnd (lET X.F ua) (lET X.F ub) σ H Q := by
  obtain ⟨δ, G, γ, b, G', S, ef, q⟩ := h
  simp only [eAnd, Option.bind_eq_some_iff] at ef
  obtain ⟨⟨x, G1⟩, ex, eb⟩ := ef
  refine ⟨δ, G, γ, x, G1, S, ex, fun H1 γ1 a1 S1 => ?_⟩
  cases x with
  | true => exact ⟨δ, G1, γ1, b, G', S1, by simpa using eb, fun H2 γ2 a2 S2 => q H2 γ2 (a1.trans a2) S2⟩
  | false =>
    obtain ⟨e1, e2⟩ : false = b ∧ G1 = G' := by simpa using eb
    subst e1 e2
    exact q H1 γ1 a1 S1
theorem or_e (σ : L2.St) (H : Hp) (Q : Bool → Hp → Prop) (h : lET X.F (eOr ua ub) σ H Q) : tOr (lET X.F ua) (lET X.F ub) σ H Q := by
  obtain ⟨δ, G, γ, b, G', S, ef, q⟩ := h
  simp only [eOr, Option.bind_eq_some_iff] at ef
  obtain ⟨⟨x, G1⟩, ex, eb⟩ := ef
  refine ⟨δ, G, γ, x, G1, S, ex, fun H1 γ1 a1 S1 => ?_⟩
  cases x with
  | false => exact ⟨δ, G1, γ1, b, G', S1, by simpa using eb, fun H2 γ2 a2 S2 => q H2 γ2 (a1.trans a2) S2⟩
  | true =>
    obtain ⟨e1, e2⟩ : true = b ∧ G1 = G' := by simpa using eb
    subst e1 e2
    exact q H1 γ1 a1 S1
theorem drw_and1 (ha : DRT X a ta) : DRW X (.BoolOp .And [a] pos) ta := pw_and1 ha
theorem drw_or1 (ha : DRT X a ta) : DRW X (.BoolOp .Or [a] pos) ta := pw_or1 ha
theorem drw_and (ha : DRT X a ta) (hb : DRW X (.BoolOp .And (b :: rest) pos) tb) : DRW X (.BoolOp .And (a :: b :: rest) pos) (rAnd ta tb) := PW.imp (pw_and ha hb) and_r
theorem drw_or (ha : DRT X a ta) (hb : DRW X (.BoolOp .Or (b :: rest) pos) tb) : DRW X (.BoolOp .Or (a :: b :: rest) pos) (rOr ta tb) := PW.imp (pw_or ha hb) or_r
theorem dew_and1 (ha : DET X a ua) : DEW X (.BoolOp .And [a] pos) ua := pw_and1 ha
theorem dew_or1 (ha : DET X a ua) : DEW X (.BoolOp .Or [a] pos) ua := pw_or1 ha
theorem dew_and (ha : DET X a ua) (hb : DEW X (.BoolOp .And (b :: rest) pos) ub) : DEW X (.BoolOp .And (a :: b :: rest) pos) (eAnd ua ub) := PW.imp (pw_and ha hb) and_e
theorem dew_or (ha : DET X a ua) (hb : DEW X (.BoolOp .Or (b :: rest) pos) ub) : DEW X (.BoolOp .Or (a :: b :: rest) pos) (eOr ua ub) := PW.imp (pw_or ha hb) or_e
theorem drt_not (ha : DRT X a ta) : DRT X (.UnaryOp .Not a pos) (rNot ta) := PT.imp (pt_not ha) fun σ H Q ⟨δ, G, γ, b, S, ef, q⟩ => by
  simp only [rNot, Option.bind_eq_some_iff, Option.some.injEq] at ef
  obtain ⟨x, ex, rfl⟩ := ef
  exact ⟨δ, G, γ, x, S, ex, fun H1 s1 => q H1 s1⟩
theorem det_not (ha : DET X a ua) : DET X (.UnaryOp .Not a pos) (eNot ua) := PT.imp (pt_not ha) fun σ H Q ⟨δ, G, γ, b, G', S, ef, q⟩ => by
  simp only [eNot, Option.bind_eq_some_iff, Option.some.injEq, Prod.mk.injEq] at ef
  obtain ⟨⟨x, G1⟩, ex, rfl, rfl⟩ := ef
  exact ⟨δ, G, γ, x, G1, S, ex, fun H1 γ1 a1 S1 => q H1 γ1 a1 S1⟩
/-- .. as values -/
def rAndV (f g : RE) : RE := fun δ G => (f δ G).bind fun x => (toB x).bind fun b => if b = true then g δ G else some (.bl false)
def rOrV (f g : RE) : RE := fun δ G => (f δ G).bind fun x => (toB x).bind fun b => if b = true then some (.bl true) else g δ G
def rNotV (f : RE) : RE := fun δ G => (f δ G).bind fun x => (toB x).bind fun b => some (.bl (!b))
theorem dr_one {op} (h : DR X a fa) : DR X (.BoolOp op [a] pos) fa := pe_one h
theorem dr_and (ha : DR X a fa) (hb : DR X (.BoolOp .And (b :: rest) pos) fb) : DR X (.BoolOp .And (a :: b :: rest) pos) (rAndV fa fb) := PE.imp (pe_and ha hb) fun σ H Q ⟨δ, G, γ, d, S, ef, q⟩ => by
  simp only [rAndV, Option.bind_eq_some_iff] at ef
  obtain ⟨x, ex, k, ek, eb⟩ := ef
  obtain rfl := toB_some ek
  refine ⟨δ, G, γ, _, S, ex, fun v H1 s1 r1 => ?_⟩
  simp only [R] at r1
  refine ⟨k, r1, ?_⟩
  cases k with
  | true => exact ⟨δ, G, γ, d, S.same s1, by simpa using eb, fun u H2 s2 r2 => q u H2 (s1.trans s2) r2⟩
  | false =>
    obtain rfl : D.bl false = d := by simpa using eb
    exact q _ H1 s1 (by simp only [R])
theorem dr_or (ha : DR X a fa) (hb : DR X (.BoolOp .Or (b :: rest) pos) fb) : DR X (.BoolOp .Or (a :: b :: rest) pos) (rOrV fa fb) := PE.imp (pe_or ha hb) fun σ H Q ⟨δ, G, γ, d, S, ef, q⟩ => by
  simp only [rOrV, Option.bind_eq_some_iff] at ef
  obtain ⟨x, ex, k, ek, eb⟩ := ef
  obtain rfl := toB_some ek
  refine ⟨δ, G, γ, _, S, ex, fun v H1 s1 r1 => ?_⟩
  simp only [R] at r1
  refine ⟨k, r1, ?_⟩
  cases k with
  | false => exact ⟨δ, G, γ, d, S.same s1, by simpa using eb, fun u H2 s2 r2 => q u H2 (s1.trans s2) r2⟩
  | true =>
    obtain rfl : D.bl true = d := by simpa using eb
    exact q _ H1 s1 (by simp only [R])
theorem dr_not (ha : DR X a fa) : DR X (.UnaryOp .Not a pos) (rNotV fa) := PE.imp (pe_not ha) fun σ H Q ⟨δ, G, γ, d, S, ef, q⟩ => by
  simp only [rNotV, Option.bind_eq_some_iff, Option.some.injEq] at ef
  obtain ⟨x, ex, k, ek, rfl⟩ := ef
  obtain rfl := toB_some ek
  refine ⟨δ, G, γ, _, S, ex, fun v H1 s1 r1 => ?_⟩
  simp only [R] at r1
  exact ⟨k, r1, q _ H1 s1 (by simp only [R])⟩
/-- a if t else b -/
def rIf (t : RT) (f g : RE) : RE := fun δ G => (t δ G).bind fun b => if b = true then f δ G else g δ G
def eIf (t : ET) (f g : EE) : EE := fun δ G => (t δ G).bind fun b => if b.1 = true then f δ b.2 else g δ b.2
theorem dr_if (hc : DRT X c ta) (ha : DR X a fa) (hb : DR X b fb) : DR X (.IfExp c a b pos) (rIf ta fa fb) := PE.imp (pe_ifExp hc ha hb) fun σ H Q ⟨δ, G, γ, d, S, ef, q⟩ => by
  simp only [rIf, Option.bind_eq_some_iff] at ef
  obtain ⟨x, ex, eb⟩ := ef
  refine ⟨δ, G, γ, x, S, ex, fun H1 s1 => ?_⟩
  cases x with
  | true => exact ⟨δ, G, γ, d, S.same s1, by simpa using eb, fun u H2 s2 r2 => q u H2 (s1.trans s2) r2⟩
  | false => exact ⟨δ, G, γ, d, S.same s1, by simpa using eb, fun u H2 s2 r2 => q u H2 (s1.trans s2) r2⟩
theorem de_if (hc : DET X c ua) (ha : DE X a ga) (hb : DE X b gb) : DE X (.IfExp c a b pos) (eIf ua ga gb) := PE.imp (pe_ifExp hc ha hb) fun σ H Q ⟨δ, G, γ, d, G', S, ef, q⟩ => by
  simp only [eIf, Option.bind_eq_some_iff] at ef
  obtain ⟨⟨x, G1⟩, ex, eb⟩ := ef
  refine ⟨δ, G, γ, x, G1, S, ex, fun H1 γ1 a1 S1 => ?_⟩
  cases x with
  | true => exact ⟨δ, G1, γ1, d, G', S1, by simpa using eb, fun u H2 γ2 a2 S2 r2 => q u H2 γ2 (a1.trans a2) S2 r2⟩
  | false => exact ⟨δ, G1, γ1, d, G', S1, by simpa using eb, fun u H2 γ2 a2 S2 r2 => q u H2 γ2 (a1.trans a2) S2 r2⟩

/-! argument lists, displays -/
def rNil : RA := fun _ _ => some []
def rCons (f : RE) (fs : RA) : RA := fun δ G => (f δ G).bind fun x => (fs δ G).bind fun xs => some (x :: xs)
def eCons (f : EE) (fs : EA) : EA := fun δ G => (f δ G).bind fun x => (fs δ x.2).bind fun xs => some (x.1 :: xs.1, xs.2)
theorem dra_nil : DRA X [] rNil := PA.imp pa_nil fun σ H Q ⟨δ, G, γ, d, S, ef, q⟩ => by
  cases ef
  exact q [] H (Same.refl H) Rs.nil
theorem dea_nil : DEA X [] (ofRA rNil) := PA.imp pa_nil fun σ H Q ⟨δ, G, γ, d, G', S, ef, q⟩ => by
  cases ef
  exact q [] H γ Aft.refl S Rs.nil
theorem dra_cons (ha : DR X e fa) (hr : DRA X es fs) (hs : starEach (e :: es) X.env = (false, eval e X.env) :: starEach es X.env := by rfl) : DRA X (e :: es) (rCons fa fs) := PA.imp (pa_cons ha hr hs) fun σ H Q ⟨δ, G, γ, d, S, ef, q⟩ => by
  simp only [rCons, Option.bind_eq_some_iff, Option.some.injEq] at ef
  obtain ⟨x, ex, xs, exs, rfl⟩ := ef
  exact ⟨δ, G, γ, x, S, ex, fun v H1 s1 r1 => ⟨δ, G, γ, xs, S.same s1, exs, fun vs H2 s2 r2 => q (v :: vs) H2 (s1.trans s2) (Rs.cons (R.same s2 r1) r2)⟩⟩
theorem dea_cons (ha : DE X e ga) (hr : DEA X es gs) (hs : starEach (e :: es) X.env = (false, eval e X.env) :: starEach es X.env := by rfl) : DEA X (e :: es) (eCons ga gs) := PA.imp (pa_cons ha hr hs) fun σ H Q ⟨δ, G, γ, d, G', S, ef, q⟩ => by
  simp only [eCons, Option.bind_eq_some_iff, Option.some.injEq, Prod.mk.injEq] at ef
  obtain ⟨⟨x, G1⟩, ex, ⟨xs, G2⟩, exs, rfl, rfl⟩ := ef
  exact ⟨δ, G, γ, x, G1, S, ex, fun v H1 γ1 a1 S1 r1 => ⟨δ, G1, γ1, xs, G2, S1, exs, fun vs H2 γ2 a2 S2 r2 => q (v :: vs) H2 γ2 (a1.trans a2) S2 (Rs.cons (R.aft a2 r1) r2)⟩⟩
/-- a tuple display: at most so many items -/
def rTup (fs : RA) : RE := fun δ G => (fs δ G).bind fun xs => if xs.length ≤ 1000 then some (.tup xs) else none
def eTup (fs : EA) : EE := fun δ G => (fs δ G).bind fun xs => if xs.1.length ≤ 1000 then some (.tup xs.1, xs.2) else none
theorem new_tup {K : FK} {γ : List Addr} {H : Hp} {p : Addr} {xs : List D} {vs : List V} (hp : H p = none) (h : Rs K γ H xs vs) : Same H (upd H p (.tup vs)) ∧ R K γ (upd H p (.tup vs)) (.tup xs) (.ref p) := by
  have s := same_upd (o := .tup vs) hp
  refine ⟨s, ?_⟩
  simp only [R]
  exact ⟨p, vs, rfl, .inl (.inl upd_same), Rs.same s h⟩
theorem line1000 {n : Nat} (h : n ≤ 1000) : n ≤ sizeLine := Nat.le_of_lt (small1000 h)
theorem dr_tup {x1} (h : DRA X es fs) : DR X (.Tuple es x1 pos) (rTup fs) := PE.imp (pe_tup h) fun σ H Q ⟨δ, G, γ, d, S, ef, q⟩ => by
  simp only [rTup, Option.bind_eq_some_iff] at ef
  obtain ⟨xs, exs, ei⟩ := ef
  split at ei
  · rename_i hl
    cases ei
    refine ⟨δ, G, γ, xs, S, exs, fun vs H1 s1 r1 => ⟨line1000 (by rw [← r1.length]; exact hl), fun p hp => ?_⟩⟩
    obtain ⟨s2, r2⟩ := new_tup hp r1
    exact q _ _ (s1.trans s2) r2
  · cases ei
theorem de_tup {x1} (h : DEA X es gs) : DE X (.Tuple es x1 pos) (eTup gs) := PE.imp (pe_tup h) fun σ H Q ⟨δ, G, γ, d, G', S, ef, q⟩ => by
  simp only [eTup, Option.bind_eq_some_iff] at ef
  obtain ⟨⟨xs, G1⟩, exs, ei⟩ := ef
  split at ei
  · rename_i hl
    cases ei
    refine ⟨δ, G, γ, xs, G1, S, exs, fun vs H1 γ1 a1 S1 r1 => ⟨line1000 (by rw [← r1.length]; exact hl), fun p hp => ?_⟩⟩
    obtain ⟨s2, r2⟩ := new_tup hp r1
    exact q _ _ γ1 (a1.trans (Aft.of_same s2)) (S1.same s2) r2
  · cases ei
end
end FL
namespace FL
open PySem PySem.Spec PyProof.Rows L2

/-! new lists: frozen at once, or a root -/
def tFrz (t : TE) : TE := fun σ H Q => t σ H fun v H1 => ∃ p vs, v = .ref p ∧ H1 p = some (.lst vs) ∧ ∀ od, Q v (upd H1 p (.frz od (.lst vs)))
theorem pe_frz {X : Cx} {e : Expr} {t : TE} (h : PE X e t) : PE X e (tFrz t) := by
  refine ⟨fun pins s σ H Q I hw => ?_⟩
  refine thn (h.run pins s σ H _ I hw) fun u s1 ⟨v, H1, I1, r1, p, vs, ev, hp, q⟩ => ?_
  obtain ⟨od, I2⟩ := I1.lock hp True.intro
  exact ⟨v, _, I2, r1, q od⟩
section
variable {K : FK} {γ γ' : List Addr} {H H' : Hp} {δ : Env'} {G : Hs} {σ : L2.St}
theorem new_fl {p : Addr} {od : Obj} {xs : List D} {vs : List V} (hp : H p = none) (h : Rs K γ H xs vs) : Same H (upd (upd H p (.lst vs)) p (.frz od (.lst vs))) ∧ R K γ (upd (upd H p (.lst vs)) p (.frz od (.lst vs))) (.fl xs) (.ref p) := by
  rw [upd_upd]
  have s := same_upd (o := .frz od (.lst vs)) hp
  refine ⟨s, ?_⟩
  simp only [R]
  exact ⟨p, vs, rfl, ⟨od, upd_same⟩, Rs.same s h⟩
/-- a reading that ends in a new list, frozen -/
theorem frz_end {p : Addr} {xs : List D} {vs : List V} {Q : VK} (hp : H p = none) (h : Rs K γ H xs vs) (q : ∀ v H', Same H H' → R K γ H' (.fl xs) v → Q v H') :
    ∃ p' vs', V.ref p = .ref p' ∧ (upd H p (.lst vs)) p' = some (.lst vs') ∧ ∀ od, Q (.ref p) (upd (upd H p (.lst vs)) p' (.frz od (.lst vs'))) := by
  refine ⟨p, vs, rfl, upd_same, fun od => ?_⟩
  obtain ⟨s, r⟩ := new_fl (od := od) hp h
  exact q _ _ s r
theorem RG.same {o : GO} {a : Addr} (s : Same H H') (h : RG K γ H o a) : RG K γ H' o a := by
  cases o with
  | lst ds =>
    obtain ⟨vs, h1, h2⟩ := h
    exact ⟨vs, s _ _ h1, Rs.same s h2⟩
  | dct kvs =>
    obtain ⟨xs, ep, h1, hn, h2⟩ := h
    exact ⟨xs, ep, s _ _ h1, hn, h2.mono (Kp.of_same s) Pre.refl⟩
  | ins nx ns ds =>
    obtain ⟨C, dx, vs, h1, hc, h2⟩ := h
    exact ⟨C, dx, vs, s _ _ h1, hc, Rs.same s h2⟩
  | dead => trivial
theorem RG.pre {o : GO} {a : Addr} (p : Pre γ γ') (h : RG K γ H o a) : RG K γ' H o a := by
  cases o with
  | lst ds =>
    obtain ⟨vs, h1, h2⟩ := h
    exact ⟨vs, h1, Rs.mono Kp.refl p _ _ h2⟩
  | dct kvs =>
    obtain ⟨xs, ep, h1, hn, h2⟩ := h
    exact ⟨xs, ep, h1, hn, h2.mono Kp.refl p⟩
  | ins nx ns ds =>
    obtain ⟨C, dx, vs, h1, hc, h2⟩ := h
    exact ⟨C, dx, vs, h1, hc, Rs.mono Kp.refl p _ _ h2⟩
  | dead => trivial
/-- a new root -/
theorem Sx.push {p : Addr} {xs : List D} {vs : List V} (S : Sx K H δ G σ γ) (hp : H p = none) (h : Rs K γ H xs vs) :
    Aft γ H (γ ++ [p]) (upd H p (.lst vs)) ∧ Sx K (upd H p (.lst vs)) δ (G ++ [.lst xs]) σ (γ ++ [p]) ∧ R K (γ ++ [p]) (upd H p (.lst vs)) (.rf G.length) (.ref p) := by
  have s := same_upd (o := .lst vs) hp
  have np : p ∉ γ := fun z => S.ex p z hp
  refine ⟨⟨fun b o e _ => s b o e, fun b e => Same.none' s e, List.prefix_append _ _, fun a z => ?_⟩, ⟨⟨?_, ?_, fun a z => ?_, fun k o a e1 e2 => ?_⟩, S.dl, fun i d e => ?_⟩, ?_⟩
  · rcases List.mem_append.mp z with z | z
    · exact .inl z
    · have : a = p := by simpa using z
      subst this
      exact .inr hp
  · simp [S.len]
  · rw [List.nodup_append]
    exact ⟨S.nd, by simp, fun a ha b hb e => by
      have : b = p := by simpa using hb
      subst this
      subst e
      exact np ha⟩
  · rcases List.mem_append.mp z with z | z
    · exact Same.none' s (S.ex a z)
    · have : a = p := by simpa using z
      subst this
      rw [upd_same]
      simp
  · by_cases hk : k < G.length
    · rw [List.getElem?_append_left hk] at e1
      rw [List.getElem?_append_left (by rw [← S.len]; exact hk)] at e2
      exact RG.pre Pre.app (RG.same s (S.rt k o a e1 e2))
    · have hk' : k = G.length := by
        have := (List.getElem?_eq_some_iff.mp e1).1
        simp at this
        omega
      subst hk'
      rw [List.getElem?_append_right (Nat.le_refl _)] at e1
      rw [S.len, List.getElem?_append_right (Nat.le_refl _)] at e2
      simp at e1 e2
      subst e1 e2
      exact ⟨vs, upd_same, Rs.mono (Kp.of_same s) Pre.app _ _ h⟩
  · obtain ⟨v, h1, h2⟩ := S.sl i d e
    exact ⟨v, h1, R.mono (Kp.of_same s) Pre.app _ _ h2⟩
  · simp only [R]
    exact ⟨p, rfl, by rw [S.len, List.getElem?_append_right (Nat.le_refl _)]; simp⟩
/-- a root written -/
theorem Sx.put {a : Addr} {k : Nat} {xs ys : List D} {us vs : List V} (S : Sx K H δ G σ γ) (hk : γ[k]? = some a) (hg : G[k]? = some (.lst xs)) (ha : H a = some (.lst us)) (h : Rs K γ H ys vs) :
    Aft γ H γ (upd H a (.lst vs)) ∧ Sx K (upd H a (.lst vs)) δ (G.set k (.lst ys)) σ γ := by
  have ma : a ∈ γ := List.mem_of_getElem? hk
  have kp : Kp H (upd H a (.lst vs)) := fun b o e i => by
    rw [upd_ne]
    · exact e
    · intro z
      subst z
      rw [ha] at e
      cases e
      cases i
  refine ⟨⟨fun b o e i => ?_, fun b e => ?_, List.prefix_rfl, fun b z => .inl z⟩, ⟨⟨by simp [S.len], S.nd, fun b z => ?_, fun j o b e1 e2 => ?_⟩, S.dl, fun i d e => ?_⟩⟩
  · rcases i with i | i
    · rw [upd_ne (fun z => i (by rw [z]; exact ma))]
      exact e
    · exact kp b o e i
  · unfold upd
    split
    · simp
    · exact e
  · unfold upd
    split
    · simp
    · exact S.ex b z
  · by_cases hj : j = k
    · subst hj
      rw [hk] at e2
      cases e2
      have := (List.getElem?_eq_some_iff.mp hg).1
      rw [List.getElem?_set_self this] at e1
      cases e1
      exact ⟨vs, upd_same, Rs.mono kp Pre.refl _ _ h⟩
    · rw [List.getElem?_set_ne (Ne.symm hj)] at e1
      have nb : b ≠ a := fun z => by
        subst z
        obtain ⟨h1, e1'⟩ := List.getElem?_eq_some_iff.mp hk
        obtain ⟨h2, e2'⟩ := List.getElem?_eq_some_iff.mp e2
        exact hj ((List.getElem_inj S.nd).mp (e2'.trans e1'.symm))
      have q := S.rt j o b e1 e2
      cases o with
      | lst ds =>
        obtain ⟨ws, h1, h2⟩ := q
        exact ⟨ws, by rw [upd_ne nb]; exact h1, Rs.mono kp Pre.refl _ _ h2⟩
      | dct kvs =>
        obtain ⟨xs, ep, h1, hn, h2⟩ := q
        exact ⟨xs, ep, by rw [upd_ne nb]; exact h1, hn, h2.mono kp Pre.refl⟩
      | ins nx ns ds =>
        obtain ⟨C, dx, ws, h1, hc, h2⟩ := q
        exact ⟨C, dx, ws, by rw [upd_ne nb]; exact h1, hc, Rs.mono kp Pre.refl _ _ h2⟩
      | dead => trivial
  · obtain ⟨v, h1, h2⟩ := S.sl i d e
    exact ⟨v, h1, R.mono kp Pre.refl _ _ h2⟩
end

section
variable {X : Cx} {a b c e : Expr} {es rest : List Expr} {pos : Pos} {fa fb fc : RE} {ga gb gc : EE} {ta tb : RT} {ua ub : ET} {fs : RA} {gs : EA}
def rFl (fs : RA) : RE := fun δ G => (fs δ G).bind fun xs => if xs.length ≤ 1000 then some (.fl xs) else none
def eFl (fs : EA) : EE := fun δ G => (fs δ G).bind fun xs => if xs.1.length ≤ 1000 then some (.fl xs.1, xs.2) else none
def eLst (fs : EA) : EE := fun δ G => (fs δ G).bind fun xs => if xs.1.length ≤ 1000 then some (.rf xs.2.length, xs.2 ++ [.lst xs.1]) else none
theorem dr_fl (h : DRA X es fs) : DR X (.List es pos) (rFl fs) := PE.imp (pe_frz (pe_lst h)) fun σ H Q ⟨δ, G, γ, d, S, ef, q⟩ => by
  simp only [rFl, Option.bind_eq_some_iff] at ef
  obtain ⟨xs, exs, ei⟩ := ef
  split at ei
  · rename_i hl
    cases ei
    refine ⟨δ, G, γ, xs, S, exs, fun vs H1 s1 r1 => ⟨line1000 (by rw [← r1.length]; exact hl), fun p hp => ?_⟩⟩
    exact frz_end hp r1 fun v H' s2 r2 => q v H' (s1.trans s2) r2
  · cases ei
theorem de_fl (h : DEA X es gs) : DE X (.List es pos) (eFl gs) := PE.imp (pe_frz (pe_lst h)) fun σ H Q ⟨δ, G, γ, d, G', S, ef, q⟩ => by
  simp only [eFl, Option.bind_eq_some_iff] at ef
  obtain ⟨⟨xs, G1⟩, exs, ei⟩ := ef
  split at ei
  · rename_i hl
    cases ei
    refine ⟨δ, G, γ, xs, G1, S, exs, fun vs H1 γ1 a1 S1 r1 => ⟨line1000 (by rw [← r1.length]; exact hl), fun p hp => ?_⟩⟩
    exact frz_end hp r1 fun v H' s2 r2 => q v H' γ1 (a1.trans (Aft.of_same s2)) (S1.same s2) r2
  · cases ei
theorem de_lst (h : DEA X es gs) : DE X (.List es pos) (eLst gs) := PE.imp (pe_lst h) fun σ H Q ⟨δ, G, γ, d, G', S, ef, q⟩ => by
  simp only [eLst, Option.bind_eq_some_iff] at ef
  obtain ⟨⟨xs, G1⟩, exs, ei⟩ := ef
  split at ei
  · rename_i hl
    cases ei
    refine ⟨δ, G, γ, xs, G1, S, exs, fun vs H1 γ1 a1 S1 r1 => ⟨line1000 (by rw [← r1.length]; exact hl), fun p hp => ?_⟩⟩
    obtain ⟨a2, S2, r2⟩ := S1.push hp r1
    exact q _ _ _ (a1.trans a2) S2 r2
  · cases ei

/-! subscripts -/
def ixD (G : Hs) : D → D → Option D
  | .tup ds, .int i => atI ds i
  | .fl ds, .int i => atI ds i
  | .scr ns, .int i => (atI ns i).map .int
  | .rf k, .int i => match G[k]? with
    | some (.lst ds) => atI ds i
    | _ => none
  | _, _ => none
theorem Rs.atI {K : FK} {γ : List Addr} {H : Hp} {ds : List D} {vs : List V} {i : Int} {d : D} (h : Rs K γ H ds vs) (e : atI ds i = some d) : ∃ v, L2.atI vs i = some v ∧ R K γ H d v := by
  unfold L2.atI at e ⊢
  rw [← h.length]
  obtain ⟨j, e1, e2⟩ := Option.bind_eq_some_iff.mp e
  obtain ⟨v, h1, h2⟩ := h.get e2
  exact ⟨v, by rw [e1]; exact h1, h2⟩
theorem atI_map (ns : List Int) (i : Int) : L2.atI (ns.map V.int) i = (L2.atI ns i).map V.int := by
  unfold L2.atI
  rw [List.length_map]
  cases ixN ns.length i with
  | none => rfl
  | some j => simp
theorem ixD_ok {K : FK} : OpG K (rIx K) ixD := by
  intro G γ H dx dy d v u Q r rx ry e q
  cases dx with
  | tup ds =>
    cases dy with
    | int i =>
      simp only [R] at rx ry
      subst ry
      obtain ⟨a, vs, rfl, h1, h2⟩ := rx
      obtain ⟨x, e1, e2⟩ := h2.atI e
      exact .inr (.inl ⟨a, vs, i, x, rfl, rfl, h1, e1, q x H (Same.refl H) e2⟩)
    | _ => cases e
  | fl ds =>
    cases dy with
    | int i =>
      simp only [R] at rx ry
      subst ry
      obtain ⟨a, vs, rfl, h1, h2⟩ := rx
      obtain ⟨x, e1, e2⟩ := h2.atI e
      exact .inl ⟨a, vs, i, x, rfl, rfl, h1.sq, e1, q x H (Same.refl H) e2⟩
    | _ => cases e
  | scr ns =>
    cases dy with
    | int i =>
      simp only [R] at rx ry
      subst ry
      obtain ⟨a, rfl, h1⟩ := rx
      obtain ⟨z, ez, rfl⟩ := Option.map_eq_some_iff.mp (show (atI ns i).map D.int = some d from e)
      exact .inl ⟨a, _, i, .int z, rfl, rfl, h1.sq, by rw [atI_map, ez]; rfl, q _ H (Same.refl H) (by simp only [R])⟩
    | _ => cases e
  | rf k =>
    cases dy with
    | int i =>
      simp only [R] at rx ry
      subst ry
      obtain ⟨a, rfl, h1⟩ := rx
      simp only [ixD] at e
      split at e
      · rename_i ds eg
        obtain ⟨vs, h2, h3⟩ := r.at eg h1
        obtain ⟨x, e1, e2⟩ := h3.atI e
        exact .inl ⟨a, vs, i, x, rfl, rfl, .inl (.inl h2), e1, q x H (Same.refl H) e2⟩
      · cases e
    | _ => cases e
  | _ => cases e
theorem dr_ix (ha : DR X a fa) (hb : DR X b fb) (hs : PlainIx b := by exact fun _ _ => rfl) : DR X (.Subscript a b pos) (rBin ixD fa fb) := PE.imp (pe_ix ix_seq ha hb hs) (bin_r ixD_ok)
theorem de_ix (ha : DE X a ga) (hb : DE X b gb) (hs : PlainIx b := by exact fun _ _ => rfl) : DE X (.Subscript a b pos) (eBin ixD ga gb) := PE.imp (pe_ix ix_seq ha hb hs) (bin_e ixD_ok)

/-! calls of built-ins by values -/
def CallG (K : FK) (r : List V → Hp → VK → Prop) (g : Hs → List D → Option D) : Prop :=
  ∀ G γ H ds d vs Q, Ro K H G γ → Rs K γ H ds vs → g G ds = some d → (∀ v H', Same H H' → R K γ H' d v → Q v H') → r vs H Q
def rCal (g : Hs → List D → Option D) (fs : RA) : RE := fun δ G => (fs δ G).bind fun xs => g G xs
def eCal (g : Hs → List D → Option D) (fs : EA) : EE := fun δ G => (fs δ G).bind fun xs => (g xs.2 xs.1).bind fun d => some (d, xs.2)
theorem cal_r {r : List V → Hp → VK → Prop} {g : Hs → List D → Option D} (hr : CallG X.F r g) (σ : L2.St) (H : Hp) (Q : VK) (h : lR X.F (rCal g fs) σ H Q) : tCB r (lRA X.F fs) σ H Q := by
  obtain ⟨δ, G, γ, d, S, ef, q⟩ := h
  simp only [rCal, Option.bind_eq_some_iff] at ef
  obtain ⟨xs, exs, eg⟩ := ef
  exact ⟨δ, G, γ, xs, S, exs, fun vs H1 s1 r1 => hr G γ H1 xs d vs Q (S.same s1).toRo r1 eg fun v H2 s2 r2 => q v H2 (s1.trans s2) r2⟩
theorem cal_e {r : List V → Hp → VK → Prop} {g : Hs → List D → Option D} (hr : CallG X.F r g) (σ : L2.St) (H : Hp) (Q : VK) (h : lE X.F (eCal g gs) σ H Q) : tCB r (lEA X.F gs) σ H Q := by
  obtain ⟨δ, G, γ, d, G', S, ef, q⟩ := h
  simp only [eCal, Option.bind_eq_some_iff, Option.some.injEq, Prod.mk.injEq] at ef
  obtain ⟨⟨xs, G1⟩, exs, d', eg, rfl, rfl⟩ := ef
  exact ⟨δ, G, γ, xs, G1, S, exs, fun vs H1 γ1 a1 S1 r1 => hr G1 γ1 H1 xs d' vs Q S1.toRo r1 eg fun v H2 s2 r2 => q v H2 γ1 (a1.trans (Aft.of_same s2)) (S1.same s2) r2⟩

/-! statements -/
section
variable (K : FK)
def lS (g : SS) : TS := fun D σ H => ∃ δ G γ c δ' G', Sx K H δ G σ γ ∧ g δ G = some (c, δ', G') ∧ ∀ σ' H' γ', Aft γ H γ' H' → Sx K H' δ' G' σ' γ' → match c with
  | .nx => D.nx σ' H'
  | .bk => D.bk σ' H'
  | .ct => D.ct σ' H'
  | .rt d => ∀ v, R K γ' H' d v → D.rt v H'
end
abbrev DS (X : Cx) (st : Stmt) (g : SS) : Prop := PS X st (lS X.F g)
abbrev DSs (X : Cx) (st : List Stmt) (g : SS) : Prop := PSs X st (lS X.F g)
def sNil : SS := fun δ G => some (.nx, δ, G)
def sSeq (g h : SS) : SS := fun δ G => (g δ G).bind fun x => match x.1 with
  | .nx => h x.2.1 x.2.2
  | _ => some x
variable {st : Stmt} {sts : List Stmt} {g h : SS}
theorem dss_nil : DSs X [] sNil := PSs.imp pss_nil fun D σ H ⟨δ, G, γ, c, δ', G', S, ef, q⟩ => by
  cases ef
  exact q σ H γ Aft.refl S
theorem dss_cons (h1 : DS X st g) (h2 : DSs X sts h) : DSs X (st :: sts) (sSeq g h) := PSs.imp (pss_cons h1 h2) fun D σ H ⟨δ, G, γ, c, δ', G', S, ef, q⟩ => by
  simp only [sSeq, Option.bind_eq_some_iff] at ef
  obtain ⟨⟨c1, δ1, G1⟩, e1, e2⟩ := ef
  refine ⟨δ, G, γ, c1, δ1, G1, S, e1, fun σ1 H1 γ1 a1 S1 => ?_⟩
  cases c1 with
  | nx => exact ⟨δ1, G1, γ1, c, δ', G', S1, e2, fun σ2 H2 γ2 a2 S2 => q σ2 H2 γ2 (a1.trans a2) S2⟩
  | bk => cases e2; exact q σ1 H1 γ1 a1 S1
  | ct => cases e2; exact q σ1 H1 γ1 a1 S1
  | rt d => cases e2; exact q σ1 H1 γ1 a1 S1
theorem dss_one (h1 : DS X st g) : DSs X [st] g := PSs.imp (pss_one h1) fun D σ H q => q
def sRet (f : EE) : SS := fun δ G => (f δ G).bind fun x => some (.rt x.1, δ, x.2)
def sRetN : SS := fun δ G => some (.rt .non, δ, G)
def sBrk : SS := fun δ G => some (.bk, δ, G)
def sCnt : SS := fun δ G => some (.ct, δ, G)
theorem ds_ret (h : DE X e ga) : DS X (.Return (some e) pos) (sRet ga) := PS.imp (ps_ret h) fun D σ H ⟨δ, G, γ, c, δ', G', S, ef, q⟩ => by
  simp only [sRet, Option.bind_eq_some_iff, Option.some.injEq, Prod.mk.injEq] at ef
  obtain ⟨⟨d, G1⟩, e1, rfl, rfl, rfl⟩ := ef
  exact ⟨δ, G, γ, d, G1, S, e1, fun v H1 γ1 a1 S1 r1 => q σ H1 γ1 a1 S1 v r1⟩
theorem ds_retN : DS X (.Return none pos) sRetN := PS.imp ps_retN fun D σ H ⟨δ, G, γ, c, δ', G', S, ef, q⟩ => by
  cases ef
  exact q σ H γ Aft.refl S .non (by simp only [R])
theorem ds_pass : DS X (.Pass pos) sNil := PS.imp ps_pass fun D σ H ⟨δ, G, γ, c, δ', G', S, ef, q⟩ => by
  cases ef
  exact q σ H γ Aft.refl S
theorem ds_brk : DS X (.Break pos) sBrk := PS.imp ps_break fun D σ H ⟨δ, G, γ, c, δ', G', S, ef, q⟩ => by
  cases ef
  exact q σ H γ Aft.refl S
theorem ds_cnt : DS X (.Continue pos) sCnt := PS.imp ps_continue fun D σ H ⟨δ, G, γ, c, δ', G', S, ef, q⟩ => by
  cases ef
  exact q σ H γ Aft.refl S
def sIf (t : ET) (g h : SS) : SS := fun δ G => (t δ G).bind fun x => if x.1 = true then g δ x.2 else h δ x.2
theorem ds_if {a b : List Stmt} (hc : DET X c ua) (ha : DSs X a g) (hb : DSs X b h) : DS X (.If c a b pos) (sIf ua g h) := PS.imp (ps_if hc ha hb) fun D σ H ⟨δ, G, γ, k, δ', G', S, ef, q⟩ => by
  simp only [sIf, Option.bind_eq_some_iff] at ef
  obtain ⟨⟨x, G1⟩, ex, eb⟩ := ef
  refine ⟨δ, G, γ, x, G1, S, ex, fun H1 γ1 a1 S1 => ?_⟩
  cases x with
  | true => exact ⟨δ, G1, γ1, k, δ', G', S1, by simpa using eb, fun σ2 H2 γ2 a2 S2 => q σ2 H2 γ2 (a1.trans a2) S2⟩
  | false => exact ⟨δ, G1, γ1, k, δ', G', S1, by simpa using eb, fun σ2 H2 γ2 a2 S2 => q σ2 H2 γ2 (a1.trans a2) S2⟩
def sExp (f : EE) : SS := fun δ G => (f δ G).bind fun x => some (.nx, δ, x.2)
theorem ds_expr (he : DE X e ga) (hs : swapsWith e none pos.line X.env = pure false := by rfl) : DS X (.Expr e pos) (sExp ga) := PS.imp (ps_expr he hs) fun D σ H ⟨δ, G, γ, k, δ', G', S, ef, q⟩ => by
  simp only [sExp, Option.bind_eq_some_iff, Option.some.injEq, Prod.mk.injEq] at ef
  obtain ⟨⟨d, G1⟩, e1, rfl, rfl, rfl⟩ := ef
  exact ⟨δ, G, γ, d, G1, S, e1, fun v H1 γ1 a1 S1 r1 => q σ H1 γ1 a1 S1⟩

/-! targets -/
abbrev Sets := D → Env' → Option Env'
def Chg (is : List Nat) (σ σ1 : L2.St) : Prop := σ1.length = σ.length ∧ ∀ j, j ∉ is → σ1[j]? = σ[j]?
def GG (K : FK) (t : TG) (set : Sets) (is : List Nat) : Prop :=
  ∀ d δ δ1 v σ H G γ Q, set d δ = some δ1 → Sx K H δ G σ γ → R K γ H d v → (∀ σ1, Chg is σ σ1 → Sx K H δ1 G σ1 γ → Q σ1 H) → t v σ H Q
def setN (i : Nat) : Sets := fun d δ => if i < δ.length then some (δ.set i (some d)) else none
theorem Sx.set {K : FK} {γ : List Addr} {H : Hp} {δ : Env'} {G : Hs} {σ : L2.St} {d : D} {v : V} (S : Sx K H δ G σ γ) (i : Nat) (r : R K γ H d v) : Sx K H (δ.set i (some d)) G (σ.set i (some v)) γ :=
  { S.toRo with
    dl := by simp [S.dl]
    sl := fun j e h => by
      by_cases hj : i = j
      · subst hj
        have hl := (List.getElem?_eq_some_iff.mp h).1
        simp at hl
        rw [List.getElem?_set_self hl] at h
        cases h
        exact ⟨v, List.getElem?_set_self (by rw [← S.dl]; exact hl), r⟩
      · rw [List.getElem?_set_ne hj] at h ⊢
        exact S.sl j e h }
theorem gg_name (i : Nat) {K : FK} : GG K (gName i) (setN i) [i] := by
  intro d δ δ1 v σ H G γ Q e S r q
  unfold setN at e
  split at e
  · cases e
    exact q _ ⟨by simp, fun j hj => List.getElem?_set_ne (fun z => hj (by simp [z]))⟩ (S.set i r)
  · cases e
def setT : List Sets → Sets
  | ss => fun d δ => match d with
    | .tup ds => if ds.length = ss.length then (ss.zip ds).foldlM (fun δ p => p.1 p.2 δ) δ else none
    | _ => none
def setTs : List Sets → List D → Env' → Option Env'
  | [], [], δ => some δ
  | s :: ss, d :: ds, δ => (s d δ).bind fun δ1 => setTs ss ds δ1
  | _, _, _ => none
def setTup (ss : List Sets) : Sets := fun d δ => match d with
  | .tup ds => setTs ss ds δ
  | _ => none
def GGs (K : FK) (t : TGs) (ss : List Sets) (is : List Nat) : Prop :=
  ∀ ds δ δ1 vs σ H G γ Q, setTs ss ds δ = some δ1 → Sx K H δ G σ γ → Rs K γ H ds vs → (∀ σ1, Chg is σ σ1 → Sx K H δ1 G σ1 γ → Q σ1 H) → t vs σ H Q
theorem ggs_nil {K : FK} : GGs K gNil [] [] := by
  intro ds δ δ1 vs σ H G γ Q e S r q
  cases ds with
  | nil =>
    cases e
    exact ⟨r.of_nil, q σ ⟨rfl, fun _ _ => rfl⟩ S⟩
  | cons d ds => cases e
theorem ggs_cons {K : FK} {t : TG} {u : TGs} {s : Sets} {ss : List Sets} {is js : List Nat} (h1 : GG K t s is) (h2 : GGs K u ss js) : GGs K (gCons t u) (s :: ss) (is ++ js) := by
  intro ds δ δ1 vs σ H G γ Q e S r q
  cases ds with
  | nil => cases e
  | cons d ds =>
    obtain ⟨v, rs, rfl, r1, r2⟩ := r.of_cons
    obtain ⟨δ2, e1, e2⟩ := Option.bind_eq_some_iff.mp e
    exact ⟨v, rs, rfl, h1 d δ δ2 v σ H G γ _ e1 S r1 fun σ1 c1 S1 => h2 ds δ2 δ1 rs σ1 H G γ _ e2 S1 r2 fun σ2 c2 S2 => q σ2 ⟨c2.1.trans c1.1, fun j hj => (c2.2 j (fun z => hj (by simp [z]))).trans (c1.2 j (fun z => hj (by simp [z])))⟩ S2⟩
theorem setTs_len : ∀ {ss : List Sets} {ds : List D} {δ δ1 : Env'}, setTs ss ds δ = some δ1 → ds.length = ss.length
  | [], [], _, _, _ => rfl
  | [], _ :: _, _, _, e => by cases e
  | _ :: _, [], _, _, e => by cases e
  | s :: ss, d :: ds, δ, δ1, e => by
    obtain ⟨δ2, e1, e2⟩ := Option.bind_eq_some_iff.mp e
    simp [setTs_len e2]
theorem gg_tup {K : FK} {u : TGs} {ss : List Sets} {is : List Nat} {n : Nat} (h : GGs K u ss is) (hn : ss.length = n := by rfl) : GG K (gTup K n u) (setTup ss) is := by
  intro d δ δ1 v σ H G γ Q e S r q
  cases d with
  | tup ds =>
    simp only [R] at r
    obtain ⟨a, vs, rfl, h1, h2⟩ := r
    have e' : setTs ss ds δ = some δ1 := e
    exact ⟨a, vs, rfl, h1, by rw [← h2.length, setTs_len e', hn], h ds δ δ1 vs σ H G γ Q e' S h2 q⟩
  | _ => cases e
def sAsg (f : EE) (set : Sets) : SS := fun δ G => (f δ G).bind fun x => (set x.1 δ).bind fun δ1 => some (.nx, δ1, x.2)
theorem asg_e {t : TG} {set : Sets} {is : List Nat} (hg : GG X.F t set is) (D : Ends) (σ : L2.St) (H : Hp) (hh : lS X.F (sAsg ga set) D σ H) : tAsg (lE X.F ga) t D σ H := by
  obtain ⟨δ, G, γ, k, δ', G', S, ef, q⟩ := hh
  simp only [sAsg, Option.bind_eq_some_iff, Option.some.injEq, Prod.mk.injEq] at ef
  obtain ⟨⟨d, G1⟩, e1, δ1, e2, rfl, rfl, rfl⟩ := ef
  exact ⟨δ, G, γ, d, G1, S, e1, fun v H1 γ1 a1 S1 r1 => hg d δ δ1 v σ H1 G1 γ1 _ e2 S1 r1 fun σ1 _ S2 => q σ1 H1 γ1 a1 S2⟩
theorem ds_set (i : Nat) {x : Str} {pos' : Pos} (hN : X.N.Nodup) (he : DE X e ga) (hi : X.N[i]? = some x := by rfl) (hx : Loc X.env.scope x := by first | exact Or.inl rfl | exact Or.inr rfl) (hs : swapsWith e (some (.Name x pos')) pos.line X.env = pure false := by rfl)
    (hf : X.fn x = true ∨ X.env.scope.names.lookup x = some .local := by first | exact .inl rfl | exact .inr rfl | assumption) : DS X (.Assign [.Name x pos'] e pos) (sAsg ga (setN i)) := PS.imp (ps_set hN hi hx he hs hf) (asg_e (gg_name i))
theorem ds_asg {tg : Expr} {t : TG} {set : Sets} {is : List Nat} (he : DE X e ga) (hp : PG X tg t) (hg : GG X.F t set is) (hs : swapsWithSole [tg] e pos.line X.env = pure false := by rfl) (hw : swappedStores [tg] e X.env = pure none := by rfl)
    (h1 : (assignEach [tg] X.env).map (·.2) = [assign tg X.env] := by rfl) : DS X (.Assign [tg] e pos) (sAsg ga set) := PS.imp (ps_asg he hp hs hw h1) (asg_e hg)
/-- a, b = x, y -/
def sPar (i j : Nat) (fs : EA) : SS := fun δ G => (fs δ G).bind fun x => match x.1 with
  | [d, d'] => if i < δ.length ∧ j < δ.length then some (.nx, (δ.set i (some d)).set j (some d'), x.2) else none
  | _ => none
theorem ds_par (i j : Nat) {x y : Str} {px py pt : Pos} {kt k2 pt2} (hc : X.calm = true) (hN : X.N.Nodup) (ha : DEA X [a, b] gs) (hi : X.N[i]? = some x := by rfl) (hj : X.N[j]? = some y := by rfl) (hij : i ≠ j := by decide)
    (hx : X.env.scope.names.lookup x = some .local := by rfl) (hy : X.env.scope.names.lookup y = some .local := by rfl)
    (hw : swappedStores [.Tuple [.Name x px, .Name y py] kt pt] (.Tuple [a, b] k2 pt2) X.env = pure (some [x, y]) := by rfl)
    (hs : swapsWithSole [.Tuple [.Name x px, .Name y py] kt pt] (.Tuple [a, b] k2 pt2) pos.line X.env = pure false := by rfl) :
    DS X (.Assign [.Tuple [.Name x px, .Name y py] kt pt] (.Tuple [a, b] k2 pt2) pos) (sPar i j gs) := PS.imp (ps_par hc hN hi hj hij hx hy ha hw hs) fun D σ H ⟨δ, G, γ, k, δ', G', S, ef, q⟩ => by
  simp only [sPar, Option.bind_eq_some_iff] at ef
  obtain ⟨⟨ds, G1⟩, e1, e2⟩ := ef
  refine ⟨δ, G, γ, ds, G1, S, e1, fun vs H1 γ1 a1 S1 r1 => ?_⟩
  match ds, e2, r1 with
  | [d, d'], e2, r1 =>
    obtain ⟨v, r, rfl, h1, h2⟩ := r1.of_cons
    obtain ⟨w, r', rfl, h3, h4⟩ := h2.of_cons
    rw [h4.of_nil]
    simp only at e2
    split at e2
    · cases e2
      exact ⟨v, w, rfl, q _ H1 γ1 a1 ((S1.set i h1).set j h3)⟩
    · cases e2
end
end FL
namespace FL
open PySem PySem.Spec PyProof.Rows L2

/-! what is walked: pure = false: any step may follow between the turns; true: readings alone -/
def Stp (pure : Bool) (H H' : Hp) : Prop := if pure = true then Same H H' else Kp H H'
theorem Stp.kp {p : Bool} {H H' : Hp} (h : Stp p H H') : Kp H H' := by
  unfold Stp at h
  split at h
  · exact Kp.of_same h
  · exact h
theorem Stp.of_same {p : Bool} {H H' : Hp} (h : Same H H') : Stp p H H' := by
  unfold Stp
  split
  · exact h
  · exact Kp.of_same h
def ItOk (K : FK) (p : Bool) (γ : List Addr) (ds : List D) (J : It) (H0 : Hp) : Prop :=
  ∀ H1, Stp p H0 H1 → ∀ i : Nat, (i < ds.length → J.go i H1) ∧ (ds.length ≤ i → J.stop i H1) ∧ ∀ (_ : i < ds.length) x H2, J.yld i H1 x H2 → Same H1 H2 ∧ ∃ d, ds[i]? = some d ∧ R K γ H2 d x
def lI (K : FK) (p : Bool) (f : EA) : TI := fun σ H Q => ∃ δ G γ ds G', Sx K H δ G σ γ ∧ f δ G = some (ds, G') ∧ ∀ J H' γ', Aft γ H γ' H' → Sx K H' δ G' σ γ' → ItOk K p γ' ds J H' → Q J H'
def lIR (K : FK) (p : Bool) (f : RA) : TI := fun σ H Q => ∃ δ G γ ds, Sx K H δ G σ γ ∧ f δ G = some ds ∧ ∀ J H', Same H H' → ItOk K p γ ds J H' → Q J H'
theorem PI.imp {X : Cx} {tg e : Expr} {t t' : TI} (h : PI X tg e t) (i : ∀ σ H Q, t' σ H Q → t σ H Q) : PI X tg e t' := ⟨fun pins s σ H Q I q => h.run pins s σ H Q I (i σ H Q q)⟩
abbrev DI (X : Cx) (p : Bool) (tg e : Expr) (f : EA) : Prop := PI X tg e (lI X.F p f)
abbrev DIR (X : Cx) (p : Bool) (tg e : Expr) (f : RA) : Prop := PI X tg e (lIR X.F p f)
/-- the items of a tuple, a frozen list; of a root too -/
def seqD : D → Option (List D)
  | .tup ds => some ds
  | .fl ds => some ds
  | _ => none
def seqG (G : Hs) : D → Option (List D)
  | .tup ds => some ds
  | .fl ds => some ds
  | .rf k => match G[k]? with
    | some (.lst ds) => some ds
    | _ => none
  | _ => none
section
variable {K : FK} {γ γ' : List Addr} {H H' : Hp} {δ : Env'} {G : Hs} {σ : L2.St}
theorem sqL_inj {a : Addr} {xs ys : List V} (h : Rd H a (.lst xs)) (h' : Rd H a (.lst ys)) : xs = ys := by
  rcases h with h | ⟨o, h⟩ <;> rcases h' with h' | ⟨o', h'⟩ <;> rw [h] at h' <;> cases h' <;> rfl
theorem itOk_tup {p : Bool} {a : Addr} {ds : List D} {vs : List V} (h : SqT K H a vs) (r : Rs K γ H ds vs) : ItOk K p γ ds (Itt K a) H := by
  intro H1 s i
  have h1 := s.kp.sqT h
  have r1 := Rs.mono s.kp Pre.refl _ _ r
  refine ⟨fun hi => ?_, fun hi => ⟨vs, h1, by rw [← r1.length]; exact hi⟩, fun hlt x H2 y => ?_⟩
  · obtain ⟨v, e, _⟩ := r1.get (List.getElem?_eq_getElem hi)
    exact ⟨vs, v, h1, e⟩
  · obtain ⟨rfl, f⟩ := y
    refine ⟨Same.refl _, ?_⟩
    obtain ⟨d, e1, e2⟩ := r1.get' (f vs h1)
    exact ⟨d, e1, e2⟩
theorem itOk_fl {p : Bool} {a : Addr} {ds : List D} {vs : List V} (h : SqF H a vs) (r : Rs K γ H ds vs) : ItOk K p γ ds (Itl K a) H := by
  intro H1 s i
  have h1 := (s.kp.sqF h).sq (K := K)
  have r1 := Rs.mono s.kp Pre.refl _ _ r
  refine ⟨fun hi => ?_, fun hi => ⟨vs, h1, by rw [← r1.length]; exact hi⟩, fun hlt x H2 y => ?_⟩
  · obtain ⟨v, e, _⟩ := r1.get (List.getElem?_eq_getElem hi)
    exact ⟨vs, v, h1, e⟩
  · obtain ⟨rfl, f⟩ := y
    refine ⟨Same.refl _, ?_⟩
    obtain ⟨d, e1, e2⟩ := r1.get' (f vs h1)
    exact ⟨d, e1, e2⟩
theorem itOk_lst {a : Addr} {ds : List D} {vs : List V} (h : H a = some (.lst vs)) (r : Rs K γ H ds vs) : ItOk K true γ ds (Itl K a) H := by
  intro H1 s i
  have s' : Same H H1 := by simpa [Stp] using s
  have h1 : SqL K H1 a vs := .inl (.inl (s' _ _ h))
  have r1 := Rs.mono s.kp Pre.refl _ _ r
  refine ⟨fun hi => ?_, fun hi => ⟨vs, h1, by rw [← r1.length]; exact hi⟩, fun hlt x H2 y => ?_⟩
  · obtain ⟨v, e, _⟩ := r1.get (List.getElem?_eq_getElem hi)
    exact ⟨vs, v, h1, e⟩
  · obtain ⟨rfl, f⟩ := y
    refine ⟨Same.refl _, ?_⟩
    obtain ⟨d, e1, e2⟩ := r1.get' (f vs h1)
    exact ⟨d, e1, e2⟩
def rangeD (lo : Int) (n : Nat) : List D := (List.range n).map fun i => .int (lo + (i : Nat))
theorem itOk_range {p : Bool} (lo : Int) (n : Nat) : ItOk K p γ (rangeD lo n) (Itr lo n) H := by
  intro H1 s i
  unfold rangeD
  refine ⟨fun hi => (by simpa using hi : i < n), fun hi => (by simpa using hi : n ≤ i), fun hlt x H2 y => ?_⟩
  obtain ⟨rfl, rfl⟩ := y
  refine ⟨Same.refl _, ?_⟩
  have hi : i < n := by simpa using hlt
  exact ⟨.int (lo + i), by simp [hi], by simp only [R]⟩
end

section
variable {X : Cx} {a b c e tg : Expr} {es : List Expr} {pos : Pos} {fa fb fc : RE} {ga gb gc : EE} {fs : RA} {gs : EA} {p : Bool}
def iSeq (f : EE) : EA := fun δ G => (f δ G).bind fun x => (seqD x.1).bind fun ds => some (ds, x.2)
def iSeqR (f : RE) : RA := fun δ G => (f δ G).bind fun x => seqG G x
/-- over a tuple -/
def iTupE (f : EE) : EA := fun δ G => (f δ G).bind fun x => match x.1 with
  | .tup ds => some (ds, x.2)
  | _ => none
def iFlE (f : EE) : EA := fun δ G => (f δ G).bind fun x => match x.1 with
  | .fl ds => some (ds, x.2)
  | _ => none
theorem di_tup (h : DE X a ga) : DI X p tg a (iTupE ga) := PI.imp (pi_tup h) fun σ H Q ⟨δ, G, γ, ds, G', S, ef, q⟩ => by
  simp only [iTupE, Option.bind_eq_some_iff] at ef
  obtain ⟨⟨d, G1⟩, e1, e2⟩ := ef
  split at e2
  · rename_i xs ed
    cases e2
    obtain rfl : d = .tup ds := ed
    refine ⟨δ, G, γ, _, _, S, e1, fun v H1 γ1 a1 S1 r1 => ?_⟩
    simp only [R] at r1
    obtain ⟨l, vs, rfl, h1, h2⟩ := r1
    exact ⟨l, rfl, ⟨vs, h1⟩, q _ H1 γ1 a1 S1 (itOk_tup h1 h2)⟩
  · cases e2
theorem di_fl (h : DE X a ga) : DI X p tg a (iFlE ga) := PI.imp (pi_list h) fun σ H Q ⟨δ, G, γ, ds, G', S, ef, q⟩ => by
  simp only [iFlE, Option.bind_eq_some_iff] at ef
  obtain ⟨⟨d, G1⟩, e1, e2⟩ := ef
  split at e2
  · rename_i xs ed
    cases e2
    obtain rfl : d = .fl ds := ed
    refine ⟨δ, G, γ, _, _, S, e1, fun v H1 γ1 a1 S1 r1 => ?_⟩
    simp only [R] at r1
    obtain ⟨l, vs, rfl, h1, h2⟩ := r1
    exact ⟨l, rfl, ⟨vs, h1.sq⟩, q _ H1 γ1 a1 S1 (itOk_fl h1 h2)⟩
  · cases e2
def iTupR (f : RE) : RA := fun δ G => (f δ G).bind fun x => match x with
  | .tup ds => some ds
  | _ => none
/-- a frozen list, a root -/
def lstG (G : Hs) : D → Option (List D)
  | .fl ds => some ds
  | .rf k => match G[k]? with
    | some (.lst ds) => some ds
    | _ => none
  | _ => none
def iLstR (f : RE) : RA := fun δ G => (f δ G).bind fun x => lstG G x
theorem dir_tup (h : DR X a fa) : DIR X p tg a (iTupR fa) := PI.imp (pi_tup h) fun σ H Q ⟨δ, G, γ, ds, S, ef, q⟩ => by
  simp only [iTupR, Option.bind_eq_some_iff] at ef
  obtain ⟨d, e1, e2⟩ := ef
  split at e2
  · cases e2
    refine ⟨δ, G, γ, _, S, e1, fun v H1 s1 r1 => ?_⟩
    simp only [R] at r1
    obtain ⟨l, vs, rfl, h1, h2⟩ := r1
    exact ⟨l, rfl, ⟨vs, h1⟩, q _ H1 s1 (itOk_tup h1 h2)⟩
  · cases e2
theorem lstG_ok {K : FK} {γ : List Addr} {H : Hp} {G : Hs} {d : D} {v : V} {ds : List D} (r : Ro K H G γ) (h : R K γ H d v) (e : lstG G d = some ds) : ∃ a vs, v = .ref a ∧ Rd H a (.lst vs) ∧ Rs K γ H ds vs := by
  cases d with
  | fl xs =>
    cases e
    simp only [R] at h
    obtain ⟨l, vs, rfl, h1, h2⟩ := h
    obtain ⟨o, h1⟩ := h1
    exact ⟨l, vs, rfl, .inr ⟨o, h1⟩, h2⟩
  | rf k =>
    simp only [R] at h
    obtain ⟨l, rfl, h1⟩ := h
    simp only [lstG] at e
    split at e
    · rename_i xs eg
      cases e
      obtain ⟨vs, h2, h3⟩ := r.at eg h1
      exact ⟨l, vs, rfl, .inl h2, h3⟩
    · cases e
  | _ => cases e
theorem itOk_rd {K : FK} {γ : List Addr} {H : Hp} {a : Addr} {ds : List D} {vs : List V} (h : Rd H a (.lst vs)) (r : Rs K γ H ds vs) : ItOk K true γ ds (Itl K a) H := by
  rcases h with h | ⟨o, h⟩
  · exact itOk_lst h r
  · exact itOk_fl ⟨o, h⟩ r
theorem dir_lst (h : DR X a fa) : DIR X true tg a (iLstR fa) := PI.imp (pi_list h) fun σ H Q ⟨δ, G, γ, ds, S, ef, q⟩ => by
  simp only [iLstR, Option.bind_eq_some_iff] at ef
  obtain ⟨d, e1, e2⟩ := ef
  refine ⟨δ, G, γ, d, S, e1, fun v H1 s1 r1 => ?_⟩
  obtain ⟨l, vs, rfl, h1, h2⟩ := lstG_ok (S.same s1).toRo r1 e2
  exact ⟨l, rfl, ⟨vs, .inl h1⟩, q _ H1 s1 (itOk_rd h1 h2)⟩
/-- range -/
def rng1 : List D → Option (List D)
  | [.int j] => if -1000000 ≤ j ∧ j ≤ 1000000 then some (rangeD 0 j.toNat) else none
  | _ => none
def rng2 : List D → Option (List D)
  | [.int i, .int j] => if (-1000000 ≤ i ∧ i ≤ 1000000) ∧ -1000000 ≤ j ∧ j ≤ 1000000 then some (rangeD i (j - i).toNat) else none
  | _ => none
def iRgR (f : List D → Option (List D)) (fs : RA) : RA := fun δ G => (fs δ G).bind f
def iRgE (f : List D → Option (List D)) (gs : EA) : EA := fun δ G => (gs δ G).bind fun x => (f x.1).bind fun ds => some (ds, x.2)
theorem rng1_ok {K : FK} {γ : List Addr} {H : Hp} {ds out : List D} {vs : List V} {Q : It → Hp → Prop} {p : Bool} (r : Rs K γ H ds vs) (e : rng1 ds = some out) (q : ∀ J, ItOk K p γ out J H → Q J H) :
    ∃ j : Int, vs = [.int j] ∧ -(2 ^ 62) ≤ j ∧ j < 2 ^ 62 ∧ Q (Itr 0 j.toNat) H := by
  unfold rng1 at e
  split at e
  · rename_i j
    split at e
    · rename_i hj
      cases e
      obtain ⟨v, r', rfl, h1, h2⟩ := r.of_cons
      rw [h2.of_nil]
      simp only [R] at h1
      subst h1
      exact ⟨j, rfl, by omega, by omega, q _ (itOk_range 0 _)⟩
    · cases e
  · cases e
theorem rng2_ok {K : FK} {γ : List Addr} {H : Hp} {ds out : List D} {vs : List V} {Q : It → Hp → Prop} {p : Bool} (r : Rs K γ H ds vs) (e : rng2 ds = some out) (q : ∀ J, ItOk K p γ out J H → Q J H) :
    ∃ i j : Int, vs = [.int i, .int j] ∧ (-(2 ^ 62) ≤ i ∧ i < 2 ^ 62 ∧ -(2 ^ 62) ≤ j ∧ j < 2 ^ 62) ∧ Q (Itr i (j - i).toNat) H := by
  unfold rng2 at e
  split at e
  · rename_i i j
    split at e
    · rename_i hj
      cases e
      obtain ⟨v, r', rfl, h1, h2⟩ := r.of_cons
      obtain ⟨w, r'', rfl, h3, h4⟩ := h2.of_cons
      rw [h4.of_nil]
      simp only [R] at h1 h3
      subst h1 h3
      exact ⟨i, j, rfl, ⟨by omega, by omega, by omega, by omega⟩, q _ (itOk_range i _)⟩
    · cases e
  · cases e
theorem dir_rng1 {q : Pos} (ha : DRA X [a] fs) (hm : X.mg "range" = none) (hg : Gl X "range" := by rfl) (hs : starEach [a] X.env = [(false, eval a X.env)] := by rfl) : DIR X p tg (.Call (.Name "range" q) [a] [] pos) (iRgR rng1 fs) := PI.imp (pi_range1 hg hm ha hs) fun σ H Q ⟨δ, G, γ, ds, S, ef, q⟩ => by
  obtain ⟨xs, e1, e2⟩ := Option.bind_eq_some_iff.mp ef
  exact ⟨δ, G, γ, xs, S, e1, fun vs H1 s1 r1 => rng1_ok (p := p) r1 e2 fun J h => q J H1 s1 h⟩
theorem dir_rng2 {q : Pos} (ha : DRA X [a, b] fs) (hm : X.mg "range" = none) (hg : Gl X "range" := by rfl) (hs : starEach [a, b] X.env = [(false, eval a X.env), (false, eval b X.env)] := by rfl) (hs2 : starEach [b] X.env = [(false, eval b X.env)] := by rfl) : DIR X p tg (.Call (.Name "range" q) [a, b] [] pos) (iRgR rng2 fs) := PI.imp (pi_range2 hg hm ha hs hs2) fun σ H Q ⟨δ, G, γ, ds, S, ef, q⟩ => by
  obtain ⟨xs, e1, e2⟩ := Option.bind_eq_some_iff.mp ef
  exact ⟨δ, G, γ, xs, S, e1, fun vs H1 s1 r1 => rng2_ok (p := p) r1 e2 fun J h => q J H1 s1 h⟩
theorem di_rng1 {q : Pos} (ha : DEA X [a] gs) (hm : X.mg "range" = none) (hg : Gl X "range" := by rfl) (hs : starEach [a] X.env = [(false, eval a X.env)] := by rfl) : DI X p tg (.Call (.Name "range" q) [a] [] pos) (iRgE rng1 gs) := PI.imp (pi_range1 hg hm ha hs) fun σ H Q ⟨δ, G, γ, ds, G', S, ef, q⟩ => by
  simp only [iRgE, Option.bind_eq_some_iff, Option.some.injEq, Prod.mk.injEq] at ef
  obtain ⟨⟨xs, G1⟩, e1, d', e2, rfl, rfl⟩ := ef
  exact ⟨δ, G, γ, xs, G1, S, e1, fun vs H1 γ1 a1 S1 r1 => rng1_ok (p := p) r1 e2 fun J h => q J H1 γ1 a1 S1 h⟩
theorem di_rng2 {q : Pos} (ha : DEA X [a, b] gs) (hm : X.mg "range" = none) (hg : Gl X "range" := by rfl) (hs : starEach [a, b] X.env = [(false, eval a X.env), (false, eval b X.env)] := by rfl) (hs2 : starEach [b] X.env = [(false, eval b X.env)] := by rfl) : DI X p tg (.Call (.Name "range" q) [a, b] [] pos) (iRgE rng2 gs) := PI.imp (pi_range2 hg hm ha hs hs2) fun σ H Q ⟨δ, G, γ, ds, G', S, ef, q⟩ => by
  simp only [iRgE, Option.bind_eq_some_iff, Option.some.injEq, Prod.mk.injEq] at ef
  obtain ⟨⟨xs, G1⟩, e1, d', e2, rfl, rfl⟩ := ef
  exact ⟨δ, G, γ, xs, G1, S, e1, fun vs H1 γ1 a1 S1 r1 => rng2_ok (p := p) r1 e2 fun J h => q J H1 γ1 a1 S1 h⟩
theorem di_of (h : DIR X p tg a fs) : DI X p tg a (ofRA fs) := PI.imp h fun σ H Q ⟨δ, G, γ, ds, G', S, ef, q⟩ => by
  simp only [ofRA, Option.bind_eq_some_iff, Option.some.injEq, Prod.mk.injEq] at ef
  obtain ⟨xs, e1, rfl, rfl⟩ := ef
  exact ⟨δ, G, γ, xs, S, e1, fun J H1 s1 it => q J H1 γ (Aft.of_same s1) (S.same s1) it⟩

/-! for -/
def forL (set : Sets) (b : SS) : List D → SS
  | [], δ, G => some (.nx, δ, G)
  | d :: ds, δ, G => (set d δ).bind fun δ1 => (b δ1 G).bind fun x => match x.1 with
    | .nx => forL set b ds x.2.1 x.2.2
    | .ct => forL set b ds x.2.1 x.2.2
    | .bk => some (.nx, x.2.1, x.2.2)
    | .rt r => some (.rt r, x.2.1, x.2.2)
def sFor (src : EA) (set : Sets) (b : SS) : SS := fun δ G => (src δ G).bind fun x => forL set b x.1 δ x.2
theorem ds_for {iter : Expr} {body : List Stmt} {t : TG} {set : Sets} {is : List Nat} {g : SS} (hp : PassesOwn (model X.prog X.w) X.A X.env X.xe) (hc : X.calm = true) (hi : DI X false tg iter gs) (ht : PG X tg t) (hg : GG X.F t set is) (hb : DSs X body g)
    (hs : ∀ x, foldedSetIterable iter X.env x = pure x := by intro _; rfl) : DS X (.For tg iter body [] pos) (sFor gs set g) := PS.imp (ps_for hp hc hi ht hb hs) fun D σ H ⟨δ, G, γ, c, δ', G', S, ef, q⟩ => by
  simp only [sFor, Option.bind_eq_some_iff] at ef
  obtain ⟨⟨ds, G1⟩, e1, e2⟩ := ef
  refine ⟨δ, G, γ, ds, G1, S, e1, fun J H1 γ1 a1 S1 it => ?_⟩
  refine ⟨fun i m σ2 H2 => m + i = ds.length ∧ ∃ δ2 G2 γ2, Aft γ1 H1 γ2 H2 ∧ Sx X.F H2 δ2 G2 σ2 γ2 ∧ forL set g (ds.drop i) δ2 G2 = some (c, δ', G'), ⟨ds.length, by simp, δ, G1, γ1, Aft.refl, S1, by simpa using e2⟩, ?_⟩
  rintro i m σ2 H2 ⟨hm, δ2, G2, γ2, a2, S2, ef⟩
  have st : Stp false H1 H2 := by simpa [Stp] using a2.kp
  by_cases hlt : i < ds.length
  · right
    obtain ⟨j1, _, j3⟩ := it H2 st i
    rw [List.drop_eq_getElem_cons hlt] at ef
    simp only [forL, Option.bind_eq_some_iff] at ef
    obtain ⟨δ3, e3, ⟨c4, δ4, G4⟩, e4, e5⟩ := ef
    refine ⟨j1 hlt, fun σ5 H5 => ∃ γ5 δ5 G5, Aft γ1 H1 γ5 H5 ∧ Sx X.F H5 δ5 G5 σ5 γ5 ∧ forL set g (ds.drop (i + 1)) δ5 G5 = some (c, δ', G'), ?_, fun x H3 y => ?_⟩
    · rintro σ5 H5 ⟨γ5, δ5, G5, a5, S5, e5⟩
      exact ⟨m - 1, by omega, by omega, δ5, G5, γ5, a5, S5, e5⟩
    · obtain ⟨s3, d, ed, rd⟩ := j3 hlt x H3 y
      rw [List.getElem?_eq_getElem hlt] at ed
      cases ed
      have S3 := S2.same s3
      have rd' : R X.F γ2 H3 ds[i] x := R.mono Kp.refl a2.pr _ _ rd
      refine hg _ δ2 δ3 x σ2 H3 G2 γ2 _ e3 S3 rd' fun σ3 _ S4 => ?_
      refine ⟨δ3, G2, γ2, c4, δ4, G4, S4, e4, fun σ6 H6 γ6 a6 S6 => ?_⟩
      have a16 : Aft γ1 H1 γ6 H6 := a2.trans ((Aft.of_same s3).trans a6)
      cases c4 with
      | nx => exact ⟨γ6, δ4, G4, a16, S6, e5⟩
      | ct => exact ⟨γ6, δ4, G4, a16, S6, e5⟩
      | bk =>
        cases e5
        exact q σ6 H6 γ6 (a1.trans a16) S6
      | rt r =>
        cases e5
        exact q σ6 H6 γ6 (a1.trans a16) S6
  · left
    obtain ⟨_, j2, _⟩ := it H2 st i
    have hi : ds.length ≤ i := by omega
    refine ⟨j2 hi, ?_⟩
    rw [List.drop_eq_nil_of_le hi] at ef
    cases ef
    exact q σ2 H2 γ2 (a1.trans a2) S2

/-! while -/
def whileS (t : ET) (b : SS) (δ : Env') (G : Hs) : Option (Ctl × Env' × Hs) := do
  let x ← t δ G
  if x.1 = true then
    let y ← b δ x.2
    match y.1 with
    | .nx => whileS t b y.2.1 y.2.2
    | .ct => whileS t b y.2.1 y.2.2
    | .bk => some (.nx, y.2.1, y.2.2)
    | .rt r => some (.rt r, y.2.1, y.2.2)
  else some (.nx, δ, x.2)
partial_fixpoint
def whileN (t : ET) (b : SS) : Nat → SS
  | 0, _, _ => none
  | n + 1, δ, G => (t δ G).bind fun x => if x.1 = true then (b δ x.2).bind fun y => match y.1 with
      | .nx => whileN t b n y.2.1 y.2.2
      | .ct => whileN t b n y.2.1 y.2.2
      | .bk => some (.nx, y.2.1, y.2.2)
      | .rt r => some (.rt r, y.2.1, y.2.2)
    else some (.nx, δ, x.2)
theorem whileS_N (t : ET) (b : SS) (δ : Env') (G : Hs) (r : Ctl × Env' × Hs) (h : whileS t b δ G = some r) : ∃ n, whileN t b n δ G = some r := by
  refine whileS.partial_correctness t b (fun δ G r => ∃ n, whileN t b n δ G = some r) (fun w ih δ G r h => ?_) δ G r h
  obtain ⟨⟨x, G1⟩, e1, e2⟩ := Option.bind_eq_some_iff.mp h
  cases x with
  | false => exact ⟨1, by simp only [whileN, e1, Option.bind_some]; simpa using e2⟩
  | true =>
    simp only [if_true] at e2
    obtain ⟨⟨c, δ2, G2⟩, e3, e4⟩ := Option.bind_eq_some_iff.mp e2
    cases c with
    | nx =>
      obtain ⟨n, hn⟩ := ih δ2 G2 r e4
      exact ⟨n + 1, by simp only [whileN, e1, Option.bind_some, if_true, e3]; exact hn⟩
    | ct =>
      obtain ⟨n, hn⟩ := ih δ2 G2 r e4
      exact ⟨n + 1, by simp only [whileN, e1, Option.bind_some, if_true, e3]; exact hn⟩
    | bk => exact ⟨1, by simp only [whileN, e1, Option.bind_some, if_true, e3]; exact e4⟩
    | rt d => exact ⟨1, by simp only [whileN, e1, Option.bind_some, if_true, e3]; exact e4⟩
theorem ds_while {body : List Stmt} {t : ET} {g : SS} (hp : PassesOwn (model X.prog X.w) X.A X.env X.xe) (hc : DET X c t) (hb : DSs X body g) : DS X (.While c body [] pos) (whileS t g) := PS.imp (ps_while hp hc hb) fun D σ H ⟨δ, G, γ, k, δ', G', S, ef, q⟩ => by
  obtain ⟨n, hn⟩ := whileS_N t g δ G _ ef
  refine ⟨fun m σ2 H2 => ∃ δ2 G2 γ2, Aft γ H γ2 H2 ∧ Sx X.F H2 δ2 G2 σ2 γ2 ∧ whileN t g m δ2 G2 = some (k, δ', G'), ⟨n, δ, G, γ, Aft.refl, S, hn⟩, ?_⟩
  rintro m σ2 H2 ⟨δ2, G2, γ2, a2, S2, e2⟩
  cases m with
  | zero => cases e2
  | succ m =>
    simp only [whileN, Option.bind_eq_some_iff] at e2
    obtain ⟨⟨x, G3⟩, e3, e4⟩ := e2
    refine ⟨δ2, G2, γ2, x, G3, S2, e3, fun H3 γ3 a3 S3 => ?_⟩
    cases x with
    | false =>
      have e4 : some (Ctl.nx, δ2, G3) = some (k, δ', G') := by simpa using e4
      cases e4
      exact q σ2 H3 γ3 (a2.trans a3) S3
    | true =>
      simp only [if_true, Option.bind_eq_some_iff] at e4 ⊢
      obtain ⟨⟨c5, δ5, G5⟩, e5, e6⟩ := e4
      refine ⟨fun σ6 H6 => ∃ δ6 G6 γ6, Aft γ H γ6 H6 ∧ Sx X.F H6 δ6 G6 σ6 γ6 ∧ whileN t g m δ6 G6 = some (k, δ', G'), ?_, δ2, G3, γ3, c5, δ5, G5, S3, e5, fun σ6 H6 γ6 a6 S6 => ?_⟩
      · rintro σ6 H6 h
        exact ⟨m, by omega, h⟩
      · have a := a2.trans (a3.trans a6)
        cases c5 with
        | nx => exact ⟨δ5, G5, γ6, a, S6, e6⟩
        | ct => exact ⟨δ5, G5, γ6, a, S6, e6⟩
        | bk =>
          cases e6
          exact q σ6 H6 γ6 a S6
        | rt r =>
          cases e6
          exact q σ6 H6 γ6 a S6
end
end FL
namespace FL
open PySem PySem.Spec PyProof.Rows L2

section
variable {K : FK} {γ γ' : List Addr} {H H' : Hp} {δ : Env'} {G : Hs} {σ : L2.St}
/-- a list that stands as no root becomes one -/
theorem Sx.adopt {p : Addr} {xs : List D} {vs : List V} (S : Sx K H δ G σ γ) (np : p ∉ γ) (hp : H p = some (.lst vs)) (h : Rs K γ H xs vs) :
    Sx K H δ (G ++ [.lst xs]) σ (γ ++ [p]) ∧ R K (γ ++ [p]) H (.rf G.length) (.ref p) := by
  refine ⟨⟨⟨?_, ?_, fun a z => ?_, fun k o a e1 e2 => ?_⟩, S.dl, fun i d e => ?_⟩, ?_⟩
  · simp [S.len]
  · rw [List.nodup_append]
    exact ⟨S.nd, by simp, fun a ha b hb e => by
      have : b = p := by simpa using hb
      subst this
      subst e
      exact np ha⟩
  · rcases List.mem_append.mp z with z | z
    · exact S.ex a z
    · have : a = p := by simpa using z
      subst this
      rw [hp]
      simp
  · by_cases hk : k < G.length
    · rw [List.getElem?_append_left hk] at e1
      rw [List.getElem?_append_left (by rw [← S.len]; exact hk)] at e2
      exact RG.pre Pre.app (S.rt k o a e1 e2)
    · have hk' : k = G.length := by
        have := (List.getElem?_eq_some_iff.mp e1).1
        simp at this
        omega
      subst hk'
      rw [List.getElem?_append_right (Nat.le_refl _)] at e1
      rw [S.len, List.getElem?_append_right (Nat.le_refl _)] at e2
      simp at e1 e2
      subst e1 e2
      exact ⟨vs, hp, Rs.mono Kp.refl Pre.app _ _ h⟩
  · obtain ⟨v, h1, h2⟩ := S.sl i d e
    exact ⟨v, h1, R.mono Kp.refl Pre.app _ _ h2⟩
  · simp only [R]
    exact ⟨p, rfl, by rw [S.len, List.getElem?_append_right (Nat.le_refl _)]; simp⟩
/-- what is no root, a list, is written or frozen -/
theorem kp_other {p : Addr} {o : HO} {vs : List V} (hp : H p = some (.lst vs)) : Kp H (upd H p o) := fun b x e i => by
  rw [upd_ne]
  · exact e
  · intro z
    subst z
    rw [hp] at e
    cases e
    cases i
theorem Ro.other {p : Addr} {o : HO} {vs : List V} (S : Ro K H G γ) (np : p ∉ γ) (hp : H p = some (.lst vs)) : Ro K (upd H p o) G γ where
  len := S.len
  nd := S.nd
  ex := fun a z => by
    unfold upd
    split
    · simp
    · exact S.ex a z
  rt := fun k x a e1 e2 => by
    have na : a ≠ p := fun z => np (by rw [← z]; exact List.mem_of_getElem? e2)
    have q := S.rt k x a e1 e2
    cases x with
    | lst ds =>
      obtain ⟨ws, h1, h2⟩ := q
      exact ⟨ws, by rw [upd_ne na]; exact h1, Rs.mono (kp_other hp) Pre.refl _ _ h2⟩
    | dct kvs =>
      obtain ⟨xs, ep, h1, hn, h2⟩ := q
      exact ⟨xs, ep, by rw [upd_ne na]; exact h1, hn, h2.mono (kp_other hp) Pre.refl⟩
    | ins nx ns ds =>
      obtain ⟨C, dx, ws, h1, hc, h2⟩ := q
      exact ⟨C, dx, ws, by rw [upd_ne na]; exact h1, hc, Rs.mono (kp_other hp) Pre.refl _ _ h2⟩
    | dead => trivial
theorem Sx.other {p : Addr} {o : HO} {vs : List V} (S : Sx K H δ G σ γ) (np : p ∉ γ) (hp : H p = some (.lst vs)) : Sx K (upd H p o) δ G σ γ :=
  { S.toRo.other np hp with
    dl := S.dl
    sl := fun i d e => by
      obtain ⟨v, h1, h2⟩ := S.sl i d e
      exact ⟨v, h1, R.mono (kp_other hp) Pre.refl _ _ h2⟩ }
def wipeD (δ : Env') : List Nat → Env'
  | [] => δ
  | v :: vs => (wipeD δ vs).set v none
theorem wipeD_len (δ : Env') : ∀ vs, (wipeD δ vs).length = δ.length
  | [] => rfl
  | v :: vs => by
    unfold wipeD
    rw [List.length_set, wipeD_len δ vs]
theorem wipeD_some {δ : Env'} {i : Nat} {x : D} : ∀ {vs : List Nat}, (wipeD δ vs)[i]? = some (some x) → δ[i]? = some (some x) ∧ i ∉ vs
  | [], h => ⟨h, by simp⟩
  | v :: vs, h => by
    unfold wipeD at h
    by_cases hi : v = i
    · subst hi
      by_cases hv : v < (wipeD δ vs).length
      · rw [List.getElem?_set_self hv] at h; cases h
      · rw [List.getElem?_eq_none (by simpa using hv)] at h; cases h
    · rw [List.getElem?_set_ne hi] at h
      obtain ⟨h1, h2⟩ := wipeD_some h
      exact ⟨h1, by simp only [List.mem_cons, not_or]; exact ⟨fun e => hi e.symm, h2⟩⟩
theorem wipe_keep {σ : L2.St} {i : Nat} : ∀ {vs : List Nat}, i ∉ vs → (wipe σ vs)[i]? = σ[i]?
  | [], _ => rfl
  | v :: vs, h => by
    simp only [List.mem_cons, not_or] at h
    unfold wipe
    rw [List.getElem?_set_ne (Ne.symm h.1), wipe_keep h.2]
theorem wipe_in {σ : L2.St} {i : Nat} : ∀ {vs : List Nat}, i ∈ vs → i < σ.length → (wipe σ vs)[i]? = some none
  | [], h, _ => by simp at h
  | v :: vs, h, hl => by
    unfold wipe
    by_cases e : v = i
    · subst e
      rw [List.getElem?_set_self (by rw [wipe_length]; exact hl)]
    · rw [List.getElem?_set_ne e]
      exact wipe_in ((List.mem_cons.mp h).resolve_left (Ne.symm e)) hl
theorem Sx.wipe (S : Sx K H δ G σ γ) (vs : List Nat) : Sx K H (wipeD δ vs) G (wipe σ vs) γ :=
  { S.toRo with
    dl := by rw [wipeD_len, wipe_length, S.dl]
    sl := fun i d e => by
      obtain ⟨h1, h2⟩ := wipeD_some e
      obtain ⟨v, h3, h4⟩ := S.sl i d h1
      exact ⟨v, by rw [wipe_keep h2]; exact h3, h4⟩ }
theorem wipe_chg {σ σ1 : L2.St} {is vs : List Nat} (h : Chg is σ σ1) (hs : ∀ i ∈ is, i ∈ vs) : L2.wipe σ1 vs = L2.wipe σ vs := by
  refine List.ext_getElem? fun i => ?_
  by_cases hi : i ∈ vs
  · by_cases hl : i < σ.length
    · rw [wipe_in hi hl, wipe_in hi (by rw [h.1]; exact hl)]
    · rw [List.getElem?_eq_none (by rw [wipe_length, h.1]; omega), List.getElem?_eq_none (by rw [wipe_length]; omega)]
  · rw [wipe_keep hi, wipe_keep hi]
    exact h.2 i fun z => hi (hs i z)
theorem wipe_wipe {σ : L2.St} {vs : List Nat} : L2.wipe (L2.wipe σ vs) vs = L2.wipe σ vs := by
  refine List.ext_getElem? fun i => ?_
  by_cases hi : i ∈ vs
  · by_cases hl : i < σ.length
    · rw [wipe_in hi hl, wipe_in hi (by rw [wipe_length]; exact hl)]
    · rw [List.getElem?_eq_none (by rw [wipe_length, wipe_length]; omega), List.getElem?_eq_none (by rw [wipe_length]; omega)]
  · rw [wipe_keep hi]
end

/-! comprehensions -/
def lcR (set : Sets) (cond : RT) (elt : RE) : List D → RA
  | [], _, _ => some []
  | d :: ds, δ, G => (set d δ).bind fun δ1 => (cond δ1 G).bind fun k => if k = true then (elt δ1 G).bind fun y => (lcR set cond elt ds δ G).bind fun ys => some (y :: ys) else lcR set cond elt ds δ G
def rLc (src : RA) (set : Sets) (cond : RT) (elt : RE) (vs : List Nat) : RE := fun δ G => (src δ G).bind fun ds => if ds.length ≤ 10000000 then (lcR set cond elt ds (wipeD δ vs) G).bind fun ys => some (.fl ys) else none
def lcE (set : Sets) (cond : ET) (elt : EE) : List D → EA
  | [], _, G => some ([], G)
  | d :: ds, δ, G => (set d δ).bind fun δ1 => (cond δ1 G).bind fun k => if k.1 = true then (elt δ1 k.2).bind fun y => (lcE set cond elt ds δ y.2).bind fun ys => some (y.1 :: ys.1, ys.2) else lcE set cond elt ds δ k.2
def eLc (src : EA) (set : Sets) (cond : ET) (elt : EE) (vs : List Nat) : EE := fun δ G => (src δ G).bind fun ds => if ds.1.length ≤ 10000000 then (lcE set cond elt ds.1 (wipeD δ vs) ds.2).bind fun ys => some (.fl ys.1, ys.2) else none
def eLcL (src : EA) (set : Sets) (cond : ET) (elt : EE) (vs : List Nat) : EE := fun δ G => (src δ G).bind fun ds => if ds.1.length ≤ 10000000 then (lcE set cond elt ds.1 (wipeD δ vs) ds.2).bind fun ys => some (.rf ys.2.length, ys.2 ++ [.lst ys.1]) else none
abbrev DRTs (X : Cx) (ifs : List Expr) (f : RT) : Prop := PTs X ifs (lRT X.F f)
abbrev DETs (X : Cx) (ifs : List Expr) (f : ET) : Prop := PTs X ifs (lET X.F f)
def cYes : RT := fun _ _ => some true
def cYesE : ET := fun _ G => some (true, G)
theorem PTs.imp {X : Cx} {e : List Expr} {t t' : TT} (h : PTs X e t) (i : ∀ σ H Q, t' σ H Q → t σ H Q) : PTs X e t' := ⟨fun pins s σ H Q I q => h.run pins s σ H Q I (i σ H Q q)⟩
section
variable {X : Cx} {a b c e : Expr} {pos : Pos} {ta : RT} {ua : ET}
theorem drts_nil : DRTs X [] cYes := PTs.imp pts_nil fun σ H Q ⟨δ, G, γ, k, S, ef, q⟩ => by
  cases ef
  exact q H (Same.refl H)
theorem drts_one (h : DRT X e ta) : DRTs X [e] ta := pts_one h
theorem dets_nil : DETs X [] cYesE := PTs.imp pts_nil fun σ H Q ⟨δ, G, γ, k, G', S, ef, q⟩ => by
  cases ef
  exact q H γ Aft.refl S
theorem dets_one (h : DET X e ua) : DETs X [e] ua := pts_one h
end

section
variable {K : FK} {set : Sets} {g : TG} {is vs : List Nat}
theorem line7 {n : Nat} (h : n < 10000000) : n < sizeLine := Nat.lt_trans h (by decide)
/-- the reading of a comprehension whose parts read alone -/
theorem lc_r {src : RA} {cond : RT} {elt : RE} (hg : GG K g set is) (hv : ∀ i ∈ is, i ∈ vs) (σ : L2.St) (H : Hp) (Q : VK) (h : lR K (rLc src set cond elt vs) σ H Q) :
    tFrz (tLc (lIR K true src) g (lRT K cond) (lR K elt) vs) σ H Q := by
  obtain ⟨δ, G, γ, d, S, ef, q⟩ := h
  simp only [rLc, Option.bind_eq_some_iff] at ef
  obtain ⟨ds, e1, e2⟩ := ef
  split at e2
  case isFalse => cases e2
  rename_i hle
  obtain ⟨ys, e2', e3⟩ := Option.bind_eq_some_iff.mp e2
  cases e3
  refine ⟨δ, G, γ, ds, S, e1, fun J H1 s1 it L hL => ?_⟩
  refine ⟨fun i m H2 => m + i = ds.length ∧ ∃ acc us rest, H2 L = some (.lst us) ∧ Rs K γ H2 acc us ∧ Same H1 H2 ∧ acc.length ≤ i ∧ acc ++ rest = ys ∧ lcR set cond elt (ds.drop i) (wipeD δ vs) G = some rest, ⟨ds.length, by simp, [], [], ys, upd_same, Rs.nil, same_upd hL, by simp, by simp, by simpa using e2'⟩, ?_⟩
  rintro i m H2 ⟨hm, acc, us, rest, hl, ra, s2, hai, ey, e4⟩
  have st : Stp true H1 H2 := by simpa [Stp] using s2
  by_cases hlt : i < ds.length
  · right
    obtain ⟨j1, _, j3⟩ := it H2 st i
    rw [List.drop_eq_getElem_cons hlt] at e4
    simp only [lcR, Option.bind_eq_some_iff] at e4
    obtain ⟨δ3, e5, k, e6, e7⟩ := e4
    refine ⟨j1 hlt, fun H5 => ∃ acc us rest, H5 L = some (.lst us) ∧ Rs K γ H5 acc us ∧ Same H1 H5 ∧ acc.length ≤ i + 1 ∧ acc ++ rest = ys ∧ lcR set cond elt (ds.drop (i + 1)) (wipeD δ vs) G = some rest, ?_, fun x H3 y => ?_⟩
    · rintro H5 hh
      exact ⟨m - 1, by omega, by omega, hh⟩
    · obtain ⟨s3, dd, ed, rd⟩ := j3 hlt x H3 y
      rw [List.getElem?_eq_getElem hlt] at ed
      cases ed
      have s13 : Same H H3 := s1.trans (s2.trans s3)
      have S3 := (S.wipe vs).same s13
      refine hg _ (wipeD δ vs) δ3 x (wipe σ vs) H3 G γ _ e5 S3 rd fun σ3 c3 S4 => ⟨?_, ?_⟩
      · rw [wipe_chg c3 hv, wipe_wipe]
      · refine ⟨δ3, G, γ, k, S4, e6, fun H4 s4 => ?_⟩
        cases k with
        | true =>
          simp only [if_true, Option.bind_eq_some_iff, Option.some.injEq] at e7 ⊢
          obtain ⟨yd, e8, zs, e9, e10⟩ := e7
          subst e10
          refine ⟨δ3, G, γ, yd, S4.same s4, e8, fun v H5 s5 r5 => ?_⟩
          have hl5 : H5 L = some (.lst us) := s5 _ _ (s4 _ _ (s3 _ _ hl))
          refine ⟨us, hl5, line7 (by have := ra.length; omega), acc ++ [yd], us ++ [v], zs, upd_same, ?_, ?_, by simp; omega, by rw [← ey]; simp, e9⟩
          · refine Rs.mono (kp_other hl5) Pre.refl _ _ (Rs.append ?_ (Rs.cons r5 Rs.nil))
            exact Rs.same s5 (Rs.same s4 (Rs.same s3 ra))
          · intro b o eb
            have nb : b ≠ L := fun z => by
              subst z
              rw [hL] at eb
              cases eb
            rw [upd_ne nb]
            exact s5 _ _ (s4 _ _ (s3 _ _ (s2 _ _ eb)))
        | false =>
          have e7 : lcR set cond elt (ds.drop (i + 1)) (wipeD δ vs) G = some rest := by simpa using e7
          simp only [Bool.false_eq_true, if_false]
          exact ⟨acc, us, rest, s4 _ _ (s3 _ _ hl), Rs.same s4 (Rs.same s3 ra), s2.trans (s3.trans s4), by omega, ey, e7⟩
  · left
    obtain ⟨_, j2, _⟩ := it H2 st i
    have hi : ds.length ≤ i := by omega
    refine ⟨j2 hi, ?_⟩
    rw [List.drop_eq_nil_of_le hi] at e4
    cases e4
    rw [List.append_nil] at ey
    subst ey
    refine ⟨L, us, rfl, hl, fun od => q _ _ ?_ ?_⟩
    · intro b o eb
      have nb : b ≠ L := fun z => by
        subst z
        rw [s1 _ _ eb] at hL
        cases hL
      rw [upd_ne nb]
      exact s2 _ _ (s1 _ _ eb)
    · simp only [R]
      exact ⟨L, us, rfl, ⟨od, upd_same⟩, Rs.mono (kp_other hl) Pre.refl _ _ ra⟩
/-- .. whose parts may change roots; D: what is wanted of the new list -/
theorem lc_core {src : EA} {cond : ET} {elt : EE} {δ : Env'} {G G' : Hs} {γ : List Addr} {ds ys : List D} {G1 : Hs} (hg : GG K g set is) (hv : ∀ i ∈ is, i ∈ vs) (σ : L2.St) (H : Hp) (Q : VK) (S : Sx K H δ G σ γ) (e1 : src δ G = some (ds, G1)) (hle : ds.length ≤ 10000000)
    (e2 : lcE set cond elt ds (wipeD δ vs) G1 = some (ys, G')) (q : ∀ L us H' γ', Aft γ H γ' H' → Sx K H' δ G' σ γ' → L ∉ γ' → H L = none → H' L = some (.lst us) → Rs K γ' H' ys us → Q (.ref L) H') :
    tLc (lI K false src) g (lET K cond) (lE K elt) vs σ H Q := by
  refine ⟨δ, G, γ, ds, G1, S, e1, fun J H1 γ1 a1 S1 it L hL => ?_⟩
  have nL1 : L ∉ γ1 := fun z => S1.ex L z hL
  have hL0 : H L = none := by
    cases z : H L with
    | none => rfl
    | some o => exact absurd hL (a1.ex L (by rw [z]; simp))
  refine ⟨fun i m H2 => m + i = ds.length ∧ ∃ acc us rest G2 γ2, H2 L = some (.lst us) ∧ L ∉ γ2 ∧ Rs K γ2 H2 acc us ∧ Aft γ1 H1 γ2 H2 ∧ Sx K H2 δ G2 σ γ2 ∧ acc.length ≤ i ∧ acc ++ rest = ys ∧ lcE set cond elt (ds.drop i) (wipeD δ vs) G2 = some (rest, G'), ⟨ds.length, by simp, [], [], ys, G1, γ1, upd_same, nL1, Rs.nil, Aft.of_same (same_upd hL), S1.same (same_upd hL), by simp, by simp, by simpa using e2⟩, ?_⟩
  rintro i m H2 ⟨hm, acc, us, rest, G2, γ2, hl, nl, ra, a2, S2, hai, ey, e4⟩
  have st : Stp false H1 H2 := by simpa [Stp] using a2.kp
  by_cases hlt : i < ds.length
  · right
    obtain ⟨j1, _, j3⟩ := it H2 st i
    rw [List.drop_eq_getElem_cons hlt] at e4
    simp only [lcE, Option.bind_eq_some_iff] at e4
    obtain ⟨δ3, e5, ⟨k, G3⟩, e6, e7⟩ := e4
    refine ⟨j1 hlt, fun H5 => ∃ acc us rest G2 γ2, H5 L = some (.lst us) ∧ L ∉ γ2 ∧ Rs K γ2 H5 acc us ∧ Aft γ1 H1 γ2 H5 ∧ Sx K H5 δ G2 σ γ2 ∧ acc.length ≤ i + 1 ∧ acc ++ rest = ys ∧ lcE set cond elt (ds.drop (i + 1)) (wipeD δ vs) G2 = some (rest, G'), ?_, fun x H3 y => ?_⟩
    · rintro H5 hh
      exact ⟨m - 1, by omega, by omega, hh⟩
    · obtain ⟨s3, dd, ed, rd⟩ := j3 hlt x H3 y
      rw [List.getElem?_eq_getElem hlt] at ed
      cases ed
      have S3 := (S2.wipe vs).same s3
      refine hg _ (wipeD δ vs) δ3 x (wipe σ vs) H3 G2 γ2 _ e5 S3 (R.mono Kp.refl a2.pr _ _ rd) fun σ3 c3 S4 => ⟨?_, ?_⟩
      · rw [wipe_chg c3 hv, wipe_wipe]
      · refine ⟨δ3, G2, γ2, k, G3, S4, e6, fun H4 γ4 a4 S4' => ?_⟩
        -- what the outer slots are behind a step of the block
        have outer : ∀ {H5 γ5 G5 δ5 σ5}, Aft γ2 H3 γ5 H5 → Sx K H5 δ5 G5 σ5 γ5 → Sx K H5 δ G5 σ γ5 := fun {H5 γ5 G5 δ5 σ5} a5 S5 =>
          { S5.toRo with
            dl := S2.dl
            sl := fun j d' e' => by
              obtain ⟨v', h1, h2⟩ := S2.sl j d' e'
              exact ⟨v', h1, R.aft a5 (R.same s3 h2)⟩ }
        have nL : ∀ {H5 γ5}, Aft γ2 H3 γ5 H5 → L ∉ γ5 := fun {H5 γ5} a5 z => by
          rcases a5.fr L z with z | z
          · exact nl z
          · rw [s3 _ _ hl] at z
            cases z
        cases k with
        | true =>
          simp only [if_true, Option.bind_eq_some_iff, Option.some.injEq, Prod.mk.injEq] at e7 ⊢
          obtain ⟨⟨yd, G5⟩, e8, ⟨zs, G6⟩, e9, e10, e11⟩ := e7
          subst e10 e11
          refine ⟨δ3, G3, γ4, yd, G5, S4', e8, fun v H5 γ5 a5 S5 r5 => ?_⟩
          have a35 := a4.trans a5
          have hl5 : H5 L = some (.lst us) := a35.tr _ _ (s3 _ _ hl) (.inl nl)
          have n5 := nL a35
          refine ⟨us, hl5, line7 (by have := ra.length; omega), acc ++ [yd], us ++ [v], zs, G5, γ5, upd_same, n5, ?_, ?_, (outer a35 S5).other n5 hl5, by simp; omega, by rw [← ey]; simp, e9⟩
          · refine Rs.mono (kp_other hl5) Pre.refl _ _ (Rs.append ?_ (Rs.cons r5 Rs.nil))
            exact Rs.aft a35 (Rs.same s3 ra)
          · have a15 := a2.trans ((Aft.of_same s3).trans a35)
            exact ⟨fun b o eb i => by
              have nb : b ≠ L := fun z => by
                subst z
                rw [hL] at eb
                cases eb
              rw [upd_ne nb]
              exact a15.tr b o eb i, fun b eb => by
              unfold upd
              split
              · simp
              · exact a15.ex b eb, a15.pre, a15.fr⟩
        | false =>
          have e7 : lcE set cond elt (ds.drop (i + 1)) (wipeD δ vs) G3 = some (rest, G') := by simpa using e7
          simp only [Bool.false_eq_true, if_false]
          exact ⟨acc, us, rest, G3, γ4, a4.tr _ _ (s3 _ _ hl) (.inl nl), nL a4, Rs.aft a4 (Rs.same s3 ra), a2.trans ((Aft.of_same s3).trans a4), outer a4 S4', by omega, ey, e7⟩
  · left
    obtain ⟨_, j2, _⟩ := it H2 st i
    have hi : ds.length ≤ i := by omega
    refine ⟨j2 hi, ?_⟩
    rw [List.drop_eq_nil_of_le hi] at e4
    cases e4
    rw [List.append_nil] at ey
    subst ey
    exact q L us H2 γ2 (a1.trans a2) S2 nl hL0 hl ra
theorem lc_e {src : EA} {cond : ET} {elt : EE} (hg : GG K g set is) (hv : ∀ i ∈ is, i ∈ vs) (σ : L2.St) (H : Hp) (Q : VK) (h : lE K (eLc src set cond elt vs) σ H Q) :
    tFrz (tLc (lI K false src) g (lET K cond) (lE K elt) vs) σ H Q := by
  obtain ⟨δ, G, γ, d, G', S, ef, q⟩ := h
  simp only [eLc, Option.bind_eq_some_iff] at ef
  obtain ⟨⟨ds, G1⟩, e1, e2⟩ := ef
  split at e2
  case isFalse => cases e2
  rename_i hle
  obtain ⟨⟨ys, G2⟩, e2', e3⟩ := Option.bind_eq_some_iff.mp e2
  cases e3
  refine lc_core hg hv σ H _ S e1 hle e2' fun L us H' γ' a S' nl hn hl r => ⟨L, us, rfl, hl, fun od => q _ _ γ' ?_ (S'.other nl hl) ?_⟩
  · exact ⟨fun b o eb i => by
      have nb : b ≠ L := fun z => by
        subst z
        rw [hn] at eb
        cases eb
      rw [upd_ne nb]
      exact a.tr b o eb i, fun b eb => by
      unfold upd
      split
      · simp
      · exact a.ex b eb, a.pre, a.fr⟩
  · simp only [R]
    exact ⟨L, us, rfl, ⟨od, upd_same⟩, Rs.mono (kp_other hl) Pre.refl _ _ r⟩
theorem lc_l {src : EA} {cond : ET} {elt : EE} (hg : GG K g set is) (hv : ∀ i ∈ is, i ∈ vs) (σ : L2.St) (H : Hp) (Q : VK) (h : lE K (eLcL src set cond elt vs) σ H Q) :
    tLc (lI K false src) g (lET K cond) (lE K elt) vs σ H Q := by
  obtain ⟨δ, G, γ, d, G', S, ef, q⟩ := h
  simp only [eLcL, Option.bind_eq_some_iff] at ef
  obtain ⟨⟨ds, G1⟩, e1, e2⟩ := ef
  split at e2
  case isFalse => cases e2
  rename_i hle
  obtain ⟨⟨ys, G2⟩, e2', e3⟩ := Option.bind_eq_some_iff.mp e2
  cases e3
  refine lc_core hg hv σ H _ S e1 hle e2' fun L us H' γ' a S' nl hn hl r => ?_
  obtain ⟨S2, r2⟩ := S'.adopt nl hl r
  refine q _ H' _ ⟨a.tr, a.ex, a.pre.trans (List.prefix_append _ _), fun b z => ?_⟩ S2 r2
  rcases List.mem_append.mp z with z | z
  · exact a.fr b z
  · have : b = L := by simpa using z
    subst this
    exact .inr hn
end
section
variable {X : Cx} {elt tg iter : Expr} {ifs : List Expr} {scope : Scope} {pos : Pos} {set : Sets} {g : TG} {is : List Nat}
/-- a comprehension that reads alone -/
theorem dr_lc {src : RA} {cond : RT} {fe : RE} (own : List (Str × Nat)) (hc : X.calm = true) (hN : X.N.Nodup) (hi : DIR X true tg iter src) (ok : BlkOk X.N X.env.scope scope own)
    (hp : ∀ (s : Shared) (H : Hp) (C : Addr) (cl : List (Str × Addr)) (fp : List Addr), PG (X.blk s H scope (compEnvC scope cl C X.env) fp) tg g) (hg : GG X.F g set is)
    (ht : ∀ (s : Shared) (H : Hp) (C : Addr) (cl : List (Str × Addr)) (fp : List Addr), DRTs (X.blk s H scope (compEnvC scope cl C X.env) fp) ifs cond)
    (he : ∀ (s : Shared) (H : Hp) (C : Addr) (cl : List (Str × Addr)) (fp : List Addr), DR (X.blk s H scope (compEnvC scope cl C X.env) fp) elt fe)
    (hv : ∀ i ∈ is, i ∈ own.map (·.2) := by decide) (hs : ∀ x, foldedSetIterable iter X.env x = pure x := by intro _; rfl) :
    DR X (.ListComp elt [⟨tg, iter, ifs, 0⟩] scope pos) (rLc src set cond fe (own.map (·.2))) := PE.imp (pe_frz (pe_lc hc hN hi ok hp ht he hs)) (lc_r hg hv)
theorem de_lc {src : EA} {cond : ET} {fe : EE} (own : List (Str × Nat)) (hc : X.calm = true) (hN : X.N.Nodup) (hi : DI X false tg iter src) (ok : BlkOk X.N X.env.scope scope own)
    (hp : ∀ (s : Shared) (H : Hp) (C : Addr) (cl : List (Str × Addr)) (fp : List Addr), PG (X.blk s H scope (compEnvC scope cl C X.env) fp) tg g) (hg : GG X.F g set is)
    (ht : ∀ (s : Shared) (H : Hp) (C : Addr) (cl : List (Str × Addr)) (fp : List Addr), DETs (X.blk s H scope (compEnvC scope cl C X.env) fp) ifs cond)
    (he : ∀ (s : Shared) (H : Hp) (C : Addr) (cl : List (Str × Addr)) (fp : List Addr), DE (X.blk s H scope (compEnvC scope cl C X.env) fp) elt fe)
    (hv : ∀ i ∈ is, i ∈ own.map (·.2) := by decide) (hs : ∀ x, foldedSetIterable iter X.env x = pure x := by intro _; rfl) :
    DE X (.ListComp elt [⟨tg, iter, ifs, 0⟩] scope pos) (eLc src set cond fe (own.map (·.2))) := PE.imp (pe_frz (pe_lc hc hN hi ok hp ht he hs)) (lc_e hg hv)
theorem de_lcL {src : EA} {cond : ET} {fe : EE} (own : List (Str × Nat)) (hc : X.calm = true) (hN : X.N.Nodup) (hi : DI X false tg iter src) (ok : BlkOk X.N X.env.scope scope own)
    (hp : ∀ (s : Shared) (H : Hp) (C : Addr) (cl : List (Str × Addr)) (fp : List Addr), PG (X.blk s H scope (compEnvC scope cl C X.env) fp) tg g) (hg : GG X.F g set is)
    (ht : ∀ (s : Shared) (H : Hp) (C : Addr) (cl : List (Str × Addr)) (fp : List Addr), DETs (X.blk s H scope (compEnvC scope cl C X.env) fp) ifs cond)
    (he : ∀ (s : Shared) (H : Hp) (C : Addr) (cl : List (Str × Addr)) (fp : List Addr), DE (X.blk s H scope (compEnvC scope cl C X.env) fp) elt fe)
    (hv : ∀ i ∈ is, i ∈ own.map (·.2) := by decide) (hs : ∀ x, foldedSetIterable iter X.env x = pure x := by intro _; rfl) :
    DE X (.ListComp elt [⟨tg, iter, ifs, 0⟩] scope pos) (eLcL src set cond fe (own.map (·.2))) := PE.imp (pe_lc hc hN hi ok hp ht he hs) (lc_l hg hv)
/-- name = [..], the name a local, on one line -/
def tFrzN (t : TS) : TS := fun D σ H => t { D with nx := fun σ' H' => ∃ p vs, H' p = some (.lst vs) ∧ ∀ od, D.nx σ' (upd H' p (.frz od (.lst vs))) } σ H
theorem ps_frzN {st : Stmt} {t : TS} (h : PS X st t) : PS X st (tFrzN t) := by
  refine ⟨fun pins s σ H D I hw => ?_⟩
  refine thn (h.run pins s σ H _ I hw) fun f s1 q => ?_
  cases f with
  | next =>
    obtain ⟨σ', H', I1, p, vs, hp, q⟩ := q
    obtain ⟨od, I2⟩ := I1.lock hp True.intro
    exact ⟨σ', _, I2, q od⟩
  | brk => exact q
  | cont => exact q
  | ret u => exact q
end
end FL
namespace FL
open PySem PySem.Spec PyProof.Rows L2

/-! defs -/
def slots (n : Nat) (ds : List D) : Env' := ds.map some ++ List.replicate (n - ds.length) none
/-- a def upon data, that makes data -/
def outD (d : D) (G : Hs) : Option D := if d.im = true then some d else match d with
  | .rf k => match G[k]? with
    | some (.lst ds) => if ims ds = true then some (.fl ds) else none
    | _ => none
  | _ => none
def fnP (n : Nat) (body : SS) : List D → Option D := fun ds => (body (slots n ds) []).bind fun x => match x.1 with
  | .rt d => outD d x.2.2
  | .nx => some .non
  | _ => none
/-- what is left behind a def: the roots that it was given, and one that it hands back -/
def gcD (m : Nat) (d : D) (G : Hs) : Option (D × Hs) :=
  if (G.take m).all GO.flat = true then
    if d.im = true then some (d, G.take m) else match d with
      | .rf k => if k < m then some (.rf k, G.take m) else match G[k]? with
        | some o => if o.flat = true then some (.rf m, G.take m ++ [o]) else none
        | none => none
      | _ => none
  else none
/-- a def that may change the roots it is given -/
def fnB (n : Nat) (body : SS) : List D → Hs → Option (D × Hs) := fun ds G => (body (slots n ds) G).bind fun x => match x.1 with
  | .rt d => gcD G.length d x.2.2
  | .nx => gcD G.length .non x.2.2
  | _ => none
/-- data, or a new list that is to be frozen -/
def RF (K : FK) (H H' : Hp) (d : D) (v : V) : Prop := R K [] H' d v ∨ ∃ ds p vs, d = .fl ds ∧ v = .ref p ∧ H p = none ∧ H' p = some (.lst vs) ∧ Rs K [] H' ds vs
def spP (K : FK) (np : Nat) (F : List D → Option D) : Sp := fun vs H Q _ => vs.length = np ∧ ∃ ds d, Rs K [] H ds vs ∧ F ds = some d ∧ ∀ v H', Same H H' → RF K H H' d v → Q v H'
def tFrzM (t : TE) : TE := fun σ H Q => t σ H fun v H1 => Q v H1 ∨ ∃ p vs, v = .ref p ∧ H1 p = some (.lst vs) ∧ ∀ od, Q v (upd H1 p (.frz od (.lst vs)))
theorem pe_frzM {X : Cx} {e : Expr} {t : TE} (h : PE X e t) : PE X e (tFrzM t) := by
  refine ⟨fun pins s σ H Q I hw => ?_⟩
  refine thn (h.run pins s σ H _ I hw) fun u s1 ⟨v, H1, I1, r1, q⟩ => ?_
  rcases q with q | ⟨p, vs, ev, hp, q⟩
  · exact ⟨v, H1, I1, r1, q⟩
  · obtain ⟨od, I2⟩ := I1.lock hp True.intro
    exact ⟨v, _, I2, r1, q od⟩
def spB (K : FK) (np : Nat) (F : List D → Hs → Option (D × Hs)) : Sp := fun vs H Q _ => vs.length = np ∧ ∃ ds G γ d G', Rs K γ H ds vs ∧ Ro K H G γ ∧ F ds G = some (d, G') ∧
  ∀ v H' γ', Aft γ H γ' H' → Ro K H' G' γ' → R K γ' H' d v → Q v H'
section
variable {K : FK} {γ γ' : List Addr} {H H' : Hp} {δ : Env'} {G : Hs} {σ : L2.St}
theorem Aft.same0 (a : Aft [] H γ' H') : Same H H' := fun b o e => a.tr b o e (.inl (by simp))
theorem start_ok {N : List Str} {ds : List D} {vs : List V} (r : Ro K H G γ) (h : Rs K γ H ds vs) : Sx K H (slots N.length ds) G (L2.start N vs) γ :=
  { r with
    dl := by simp [slots, L2.start, h.length]
    sl := fun i d e => by
      unfold slots at e
      by_cases hi : i < ds.length
      · rw [List.getElem?_append_left (by simpa using hi), List.getElem?_map] at e
        obtain ⟨d', e1, e2⟩ := Option.map_eq_some_iff.mp e
        cases e2
        obtain ⟨v, h1, h2⟩ := h.get e1
        refine ⟨v, ?_, h2⟩
        unfold L2.start
        rw [List.getElem?_append_left (by rw [List.length_map, ← h.length]; exact hi), List.getElem?_map, h1]
        rfl
      · rw [List.getElem?_append_right (by simpa using hi)] at e
        have := (List.getElem?_eq_some_iff.mp e)
        obtain ⟨hl, e⟩ := this
        simp at e }
theorem RG.flat {o : GO} {a : Addr} (f : o.flat = true) (h : RG K γ H o a) : RG K γ' H o a := by
  cases o with
  | lst ds =>
    obtain ⟨vs, h1, h2⟩ := h
    exact ⟨vs, h1, Rs.im ds vs f h2⟩
  | dct kvs =>
    obtain ⟨xs, ep, h1, hn, h2⟩ := h
    simp only [GO.flat, Bool.and_eq_true] at f
    exact ⟨xs, ep, h1, hn, DK.im f.1 f.2 h2⟩
  | ins nx ns ds =>
    obtain ⟨C, dx, vs, h1, hc, h2⟩ := h
    exact ⟨C, dx, vs, h1, hc, Rs.im ds vs f h2⟩
  | dead => trivial
theorem Ro.nil : Ro K H [] [] := ⟨rfl, List.nodup_nil, fun a z => by simp at z, fun k o a e => by simp at e⟩
theorem gc_ok {d : D} {v : V} {d2 : D} {G G2 : Hs} {γ γ1 : List Addr} {H H1 : Hp} (a : Aft γ H γ1 H1) (r : Ro K H1 G γ1) (rd : R K γ1 H1 d v) (e : gcD γ.length d G = some (d2, G2)) :
    ∃ γ2, Aft γ H γ2 H1 ∧ Ro K H1 G2 γ2 ∧ R K γ2 H1 d2 v := by
  obtain ⟨t, et⟩ := a.pre
  have hg : G.length = γ.length + t.length := by rw [r.len, ← et, List.length_append]
  unfold gcD at e
  split at e
  case isFalse => cases e
  rename_i hf
  have base : Ro K H1 (G.take γ.length) γ := by
    refine ⟨by simp; omega, ?_, fun b z => r.ex b (by rw [← et]; exact List.mem_append_left _ z), fun k o b e1 e2 => ?_⟩
    · have := r.nd
      rw [← et] at this
      exact (List.nodup_append.mp this).1
    · have hk := (List.getElem?_eq_some_iff.mp e2).1
      have e1' : G[k]? = some o := by rw [List.getElem?_take_of_lt hk] at e1; exact e1
      have e2' : γ1[k]? = some b := a.pr k b e2
      exact RG.flat (List.all_eq_true.mp hf o (List.mem_of_getElem? e1)) (r.rt k o b e1' e2')
  have aft : Aft γ H γ H1 := ⟨a.tr, a.ex, List.prefix_rfl, fun b z => .inl z⟩
  split at e
  · rename_i him
    cases e
    exact ⟨γ, aft, base, R.im _ _ him rd⟩
  · split at e
    · rename_i k him
      split at e
      · rename_i hk
        cases e
        refine ⟨γ, aft, base, ?_⟩
        simp only [R] at rd ⊢
        obtain ⟨b, rfl, hb⟩ := rd
        refine ⟨b, rfl, ?_⟩
        rw [← et, List.getElem?_append_left hk] at hb
        exact hb
      · rename_i hk
        split at e
        case h_2 => cases e
        rename_i o ho
        split at e
        case isFalse => cases e
        rename_i hof
        cases e
        simp only [R] at rd
        obtain ⟨b, rfl, hb⟩ := rd
        have nb : b ∉ γ := fun z => by
          obtain ⟨j, hj, ej⟩ := List.mem_iff_getElem.mp z
          have e3 : γ1[j]? = some b := a.pr j b (by rw [List.getElem?_eq_getElem hj, ej])
          obtain ⟨h4, e4⟩ := List.getElem?_eq_some_iff.mp e3
          obtain ⟨h5, e5⟩ := List.getElem?_eq_some_iff.mp hb
          have := (List.getElem_inj r.nd).mp (e4.trans e5.symm)
          omega
        have mb : b ∈ γ1 := List.mem_of_getElem? hb
        refine ⟨γ ++ [b], ⟨a.tr, a.ex, List.prefix_append _ _, fun c z => ?_⟩, ⟨by simp; omega, ?_, fun c z => ?_, fun j x c e1 e2 => ?_⟩, ?_⟩
        · rcases List.mem_append.mp z with z | z
          · exact .inl z
          · have : c = b := by simpa using z
            subst this
            exact a.fr c mb
        · rw [List.nodup_append]
          exact ⟨base.nd, by simp, fun c hc d hd e => by
            have : d = b := by simpa using hd
            subst this
            subst e
            exact nb hc⟩
        · rcases List.mem_append.mp z with z | z
          · exact base.ex c z
          · have : c = b := by simpa using z
            subst this
            exact r.ex c mb
        · have hl : (G.take γ.length).length = γ.length := base.len
          by_cases hj : j < γ.length
          · rw [List.getElem?_append_left (by rw [hl]; exact hj)] at e1
            rw [List.getElem?_append_left hj] at e2
            exact RG.flat (List.all_eq_true.mp hf x (List.mem_of_getElem? e1)) (base.rt j x c e1 e2)
          · have hj2 := (List.getElem?_eq_some_iff.mp e2).1
            simp at hj2
            have : j = γ.length := by omega
            subst this
            rw [List.getElem?_append_right (by rw [hl]; exact Nat.le_refl _), hl] at e1
            rw [List.getElem?_append_right (Nat.le_refl _)] at e2
            simp at e1 e2
            subst e1 e2
            exact RG.flat hof (r.rt k _ _ ho hb)
        · simp only [R]
          exact ⟨b, rfl, by simp⟩
    · cases e
end

section
variable {P : Program} {K : FK} {mg : Str → Option Value} {base : Heap}
/-- a def upon data, by the derivation of its body -/
theorem calPF {x : Str} {st : Stmt} {f : Addr} {fd : FuncData} {N ps : List Str} {k : Nat} {body : SS} (F : C8.Def K mg x st f fd) (S : FnScope N ps (C8.fnScope st))
    (hbody : ∀ (cdv : Value) (A : Around) (outer : List Env) (s : Shared) (H : Hp) (E : XK), RoomG k (A.deeper (envOfC x (C8.fnScope st) s.heap.objs.size f cdv)) →
      DSs (cxOf C8.CX0 P K.wd K mg base N x (C8.fnScope st) f cdv A outer s H E).nox (C8.fnBody st) body) : FnG P K.wd K mg base C8.CX0 (k + 1) f fd ps (spP K ps.length (fnP N.length body)) := by
  refine C8.fnG0 F.fn S (fun vs H Q E h => h.1) fun cdv A outer s H vs Q E hr h => ⟨_, hbody cdv A outer s H E hr, ?_⟩
  obtain ⟨_, ds, d, r, e, q⟩ := h
  unfold fnP at e
  obtain ⟨⟨c, δ', G'⟩, e1, e2⟩ := Option.bind_eq_some_iff.mp e
  refine ⟨slots N.length ds, [], [], c, δ', G', start_ok Ro.nil r, e1, fun σ' H' γ' a S' => ?_⟩
  cases c with
  | nx =>
    cases e2
    exact q .non H' a.same0 (.inl (by simp only [R]))
  | rt d' =>
    have e2 : outD d' G' = some d := e2
    unfold outD at e2
    split at e2
    · rename_i him
      cases e2
      exact fun v rv => q v H' a.same0 (.inl (R.im _ _ him rv))
    · split at e2
      case h_2 => cases e2
      rename_i k _
      split at e2
      case h_2 => cases e2
      rename_i ds' eg
      split at e2
      case isFalse => cases e2
      rename_i hi
      cases e2
      intro v rv
      simp only [R] at rv
      obtain ⟨b, rfl, hb⟩ := rv
      obtain ⟨vs', h1, h2⟩ := S'.toRo.at eg hb
      refine q _ H' a.same0 (.inr ⟨ds', b, vs', rfl, rfl, ?_, h1, Rs.im ds' vs' hi h2⟩)
      rcases a.fr b (List.mem_of_getElem? hb) with z | z
      · simp at z
      · exact z
  | bk => cases e2
  | ct => cases e2
theorem calP {x : Str} {st : Stmt} {f : Addr} {fd : FuncData} {N ps : List Str} {k : Nat} {body : SS} (F : C8.Def K mg x st f fd) (b : Binds K fd ps []) (S : FnScope N ps (C8.fnScope st))
    (hbody : ∀ (cdv : Value) (A : Around) (outer : List Env) (s : Shared) (H : Hp) (E : XK), RoomG k (A.deeper (envOfC x (C8.fnScope st) s.heap.objs.size f cdv)) →
      DSs (cxOf C8.CX0 P K.wd K mg base N x (C8.fnScope st) f cdv A outer s H E).nox (C8.fnBody st) body) : C8.CalG P K.wd K mg base (k + 1) x (spP K ps.length (fnP N.length body)) [] :=
  ⟨f, fd, ps, [], calPF F S hbody, F.mgf, F.kp, b, .nil⟩
theorem calB {x : Str} {st : Stmt} {f : Addr} {fd : FuncData} {N ps : List Str} {k : Nat} {body : SS} (F : C8.Def K mg x st f fd) (b : Binds K fd ps []) (S : FnScope N ps (C8.fnScope st))
    (hbody : ∀ (cdv : Value) (A : Around) (outer : List Env) (s : Shared) (H : Hp) (E : XK), RoomG k (A.deeper (envOfC x (C8.fnScope st) s.heap.objs.size f cdv)) →
      DSs (cxOf C8.CX0 P K.wd K mg base N x (C8.fnScope st) f cdv A outer s H E).nox (C8.fnBody st) body) : C8.CalG P K.wd K mg base (k + 1) x (spB K ps.length (fnB N.length body)) [] := by
  refine C8.calG F b .nil S (fun vs H Q E h => h.1) fun cdv A outer s H vs Q E hr h => ⟨_, hbody cdv A outer s H E hr, ?_⟩
  obtain ⟨_, ds, G, γ, d, G2, r, ro, e, q⟩ := h
  unfold fnB at e
  obtain ⟨⟨c, δ', G'⟩, e1, e2⟩ := Option.bind_eq_some_iff.mp e
  refine ⟨slots N.length ds, G, γ, c, δ', G', start_ok ro r, e1, fun σ' H' γ' a S' => ?_⟩
  cases c with
  | nx =>
    simp only at e2
    rw [ro.len] at e2
    obtain ⟨γ2, a2, r2, rd⟩ := gc_ok a S'.toRo (v := .non) (by simp only [R]) e2
    exact q .non H' γ2 a2 r2 rd
  | rt d' =>
    simp only at e2
    rw [ro.len] at e2
    intro v rv
    obtain ⟨γ2, a2, r2, rd⟩ := gc_ok a S'.toRo rv e2
    exact q v H' γ2 a2 r2 rd
  | bk => cases e2
  | ct => cases e2
end

/-! calls -/
def rCallP (np : Nat) (F : List D → Option D) (fs : RA) : RE := fun δ G => (fs δ G).bind fun ds => if ims ds = true ∧ ds.length = np then F ds else none
def eCallP (np : Nat) (F : List D → Option D) (gs : EA) : EE := fun δ G => (gs δ G).bind fun x => if ims x.1 = true ∧ x.1.length = np then (F x.1).bind fun d => some (d, x.2) else none
/-- the first argument may be a root -/
def callB (F : List D → Hs → Option (D × Hs)) (ds : List D) (G : Hs) : Option (D × Hs) :=
  match ds with
  | .rf k :: rest => if ims rest = true then (G[k]?).bind fun o => if o.flat = true then (F (.rf 0 :: rest) [o]).bind fun r => match r.2 with
      | [o'] => if o'.flat = true then (if r.1.im = true then some (r.1, G.set k o') else match r.1 with
        | .rf 0 => some (.rf k, G.set k o')
        | _ => none) else none
      | [o', o2] => if o'.flat = true ∧ o2.flat = true then match r.1 with
        | .rf 1 => some (.rf G.length, G.set k o' ++ [o2])
        | _ => none else none
      | _ => none else none else none
  | _ => if ims ds = true then (F ds []).bind fun r => match r.2 with
      | [] => if r.1.im = true then some (r.1, G) else none
      | [o2] => if o2.flat = true then match r.1 with
        | .rf 0 => some (.rf G.length, G ++ [o2])
        | _ => none else none
      | _ => none else none
def eCallB (np : Nat) (F : List D → Hs → Option (D × Hs)) (gs : EA) : EE := fun δ G => (gs δ G).bind fun x => if x.1.length = np then callB F x.1 x.2 else none
section
variable {K : FK} {γ γ' : List Addr} {H H' : Hp} {δ : Env'} {G : Hs} {σ : L2.St}
theorem R.im_of {d : D} {v : V} (i : d.im = true) (h : R K γ H d v) : R K γ' H d v := R.im d v i h
/-- behind a call that was given one root: the caller's roots -/
theorem Sx.back1 {k : Nat} {a : Addr} {o o' : GO} {H1 : Hp} {γ1 : List Addr} (S : Sx K H δ G σ γ) (hk : γ[k]? = some a) (hg : G[k]? = some o) (A : Aft [a] H γ1 H1) (f : o'.flat = true) (r : RG K γ1 H1 o' a) :
    Aft γ H γ H1 ∧ Sx K H1 δ (G.set k o') σ γ := by
  have ma : a ∈ γ := List.mem_of_getElem? hk
  have aft : Aft γ H γ H1 := ⟨fun b x e i => A.tr b x e (i.imp (fun n z => n (by simpa using (by simpa using z : b = a) ▸ ma)) id), A.ex, List.prefix_rfl, fun b z => .inl z⟩
  refine ⟨aft, ⟨⟨by simp [S.len], S.nd, fun b z => A.ex b (S.ex b z), fun j x b e1 e2 => ?_⟩, S.dl, fun i d e => ?_⟩⟩
  · by_cases hj : j = k
    · subst hj
      rw [hk] at e2
      cases e2
      have := (List.getElem?_eq_some_iff.mp hg).1
      rw [List.getElem?_set_self this] at e1
      cases e1
      exact RG.flat f r
    · rw [List.getElem?_set_ne (Ne.symm hj)] at e1
      have nb : b ≠ a := fun z => by
        subst z
        obtain ⟨h1, e1'⟩ := List.getElem?_eq_some_iff.mp hk
        obtain ⟨h2, e2'⟩ := List.getElem?_eq_some_iff.mp e2
        exact hj ((List.getElem_inj S.nd).mp (e2'.trans e1'.symm))
      have q := S.rt j x b e1 e2
      cases x with
      | lst ds =>
        obtain ⟨ws, h1, h2⟩ := q
        exact ⟨ws, A.tr _ _ h1 (.inl (by simpa using nb)), Rs.mono A.kp Pre.refl _ _ h2⟩
      | dct kvs =>
        obtain ⟨xs, ep, h1, hn, h2⟩ := q
        exact ⟨xs, ep, A.tr _ _ h1 (.inl (by simpa using nb)), hn, h2.mono A.kp Pre.refl⟩
      | ins nx ns ds =>
        obtain ⟨C, dx, ws, h1, hc, h2⟩ := q
        exact ⟨C, dx, ws, A.tr _ _ h1 (.inl (by simpa using nb)), hc, Rs.mono A.kp Pre.refl _ _ h2⟩
      | dead => trivial
  · obtain ⟨v, h1, h2⟩ := S.sl i d e
    exact ⟨v, h1, R.mono A.kp Pre.refl _ _ h2⟩
/-- a new root from a call -/
theorem Sx.more {p : Addr} {o : GO} (S : Sx K H δ G σ γ) (np : p ∉ γ) (hp : H p ≠ none) (f : o.flat = true) (h : RG K γ' H o p) :
    Sx K H δ (G ++ [o]) σ (γ ++ [p]) ∧ R K (γ ++ [p]) H (.rf G.length) (.ref p) := by
  refine ⟨⟨⟨?_, ?_, fun a z => ?_, fun k o a e1 e2 => ?_⟩, S.dl, fun i d e => ?_⟩, ?_⟩
  · simp [S.len]
  · rw [List.nodup_append]
    exact ⟨S.nd, by simp, fun a ha b hb e => by
      have : b = p := by simpa using hb
      subst this
      subst e
      exact np ha⟩
  · rcases List.mem_append.mp z with z | z
    · exact S.ex a z
    · have : a = p := by simpa using z
      subst this
      exact hp
  · by_cases hk : k < G.length
    · rw [List.getElem?_append_left hk] at e1
      rw [List.getElem?_append_left (by rw [← S.len]; exact hk)] at e2
      exact RG.pre Pre.app (S.rt k o a e1 e2)
    · have hk' : k = G.length := by
        have := (List.getElem?_eq_some_iff.mp e1).1
        simp at this
        omega
      subst hk'
      rw [List.getElem?_append_right (Nat.le_refl _)] at e1
      rw [S.len, List.getElem?_append_right (Nat.le_refl _)] at e2
      simp at e1 e2
      subst e1 e2
      exact RG.flat f h
  · obtain ⟨v, h1, h2⟩ := S.sl i d e
    exact ⟨v, h1, R.mono Kp.refl Pre.app _ _ h2⟩
  · simp only [R]
    exact ⟨p, rfl, by rw [S.len, List.getElem?_append_right (Nat.le_refl _)]; simp⟩
theorem Ro.one {k : Nat} {a : Addr} {o : GO} (S : Ro K H G γ) (hk : γ[k]? = some a) (hg : G[k]? = some o) (f : o.flat = true) : Ro K H [o] [a] := by
  refine ⟨rfl, by simp, fun b z => ?_, fun j x b e1 e2 => ?_⟩
  · have : b = a := by simpa using z
    subst this
    exact S.ex b (List.mem_of_getElem? hk)
  · cases j with
    | zero =>
      simp at e1 e2
      subst e1 e2
      exact RG.flat f (S.rt k _ _ hg hk)
    | succ j => simp at e1
end
section
variable {X : Cx} {k j : Nat} {x : Str} {p pos : Pos} {e : Expr} {es : List Expr} {fs : RA} {gs : EA} {np : Nat}
theorem frz_res {K : FK} {γ : List Addr} {H H' : Hp} {p : Addr} {od : Obj} {ds : List D} {vs : List V} (s : Same H H') (hp : H p = none) (hp2 : H' p = some (.lst vs)) (r : Rs K γ H' ds vs) :
    Same H (upd H' p (.frz od (.lst vs))) ∧ R K γ (upd H' p (.frz od (.lst vs))) (.fl ds) (.ref p) := by
  have kp : Kp H' (upd H' p (.frz od (.lst vs))) := fun b x e i => by
    rw [upd_ne]
    · exact e
    · intro z
      subst z
      rw [hp2] at e
      cases e
      cases i
  refine ⟨fun b x e => ?_, ?_⟩
  · rw [upd_ne (ne_of_none e hp)]
    exact s b x e
  · simp only [R]
    exact ⟨p, vs, rfl, ⟨od, upd_same⟩, Rs.mono kp Pre.refl _ _ r⟩
theorem dr_callP {F : List D → Option D} (c : C8.CalG X.prog X.w X.F X.mg X.base k x (spP X.F np F) []) (hr : RoomG j X.A) (ha : DRA X (e :: es) fs) (hk : k ≤ j := by decide) (hg : Gl X x := by rfl)
    (hdb : (x == ("__debug__" : Str)) = false := by decide) (he : starEach (e :: es) X.env = (false, eval e X.env) :: starEach es X.env := by rfl) (hpl : (backTo pos (starEach es X.env)).any (·.1) = false := by rfl) :
    DR X (.Call (.Name x p) (e :: es) [] pos) (rCallP np F fs) := PE.imp (pe_frzM (C8.pe_cG c hr hk hg ha hdb he hpl)) fun σ H Q ⟨δ, G, γ, d, S, ef, q⟩ => by
  simp only [rCallP, Option.bind_eq_some_iff] at ef
  obtain ⟨ds, e1, e2⟩ := ef
  split at e2
  · rename_i hi
    refine ⟨δ, G, γ, ds, S, e1, fun vs H1 s1 r1 => ?_⟩
    show spP X.F np F (vs ++ []) H1 _ C8.E0
    rw [List.append_nil]
    refine ⟨by rw [← r1.length]; exact hi.2, ds, d, Rs.im ds vs hi.1 r1, e2, fun v H2 s2 r2 => ?_⟩
    rcases r2 with r2 | ⟨ds', p, ws, rfl, rfl, hp, hp2, r2⟩
    · exact .inl (q v H2 (s1.trans s2) (R.mono Kp.refl (fun k a h => by simp at h) _ _ r2))
    · refine .inr ⟨p, ws, rfl, hp2, fun od => ?_⟩
      obtain ⟨s3, r3⟩ := frz_res (od := od) s2 hp hp2 (Rs.mono Kp.refl (fun k a h => by simp at h) _ _ r2)
      exact q _ _ (s1.trans s3) r3
  · cases e2
theorem de_callP {F : List D → Option D} (c : C8.CalG X.prog X.w X.F X.mg X.base k x (spP X.F np F) []) (hr : RoomG j X.A) (ha : DEA X (e :: es) gs) (hk : k ≤ j := by decide) (hg : Gl X x := by rfl)
    (hdb : (x == ("__debug__" : Str)) = false := by decide) (he : starEach (e :: es) X.env = (false, eval e X.env) :: starEach es X.env := by rfl) (hpl : (backTo pos (starEach es X.env)).any (·.1) = false := by rfl) :
    DE X (.Call (.Name x p) (e :: es) [] pos) (eCallP np F gs) := PE.imp (pe_frzM (C8.pe_cG c hr hk hg ha hdb he hpl)) fun σ H Q ⟨δ, G, γ, d, G', S, ef, q⟩ => by
  simp only [eCallP, Option.bind_eq_some_iff] at ef
  obtain ⟨⟨ds, G1⟩, e1, e2⟩ := ef
  split at e2
  · rename_i hi
    obtain ⟨d', e3, e4⟩ := Option.bind_eq_some_iff.mp e2
    cases e4
    refine ⟨δ, G, γ, ds, G1, S, e1, fun vs H1 γ1 a1 S1 r1 => ?_⟩
    show spP X.F np F (vs ++ []) H1 _ C8.E0
    rw [List.append_nil]
    refine ⟨by rw [← r1.length]; exact hi.2, ds, d, Rs.im ds vs hi.1 r1, e3, fun v H2 s2 r2 => ?_⟩
    rcases r2 with r2 | ⟨ds', p, ws, rfl, rfl, hp, hp2, r2⟩
    · exact .inl (q v H2 γ1 (a1.trans (Aft.of_same s2)) (S1.same s2) (R.mono Kp.refl (fun k a h => by simp at h) _ _ r2))
    · refine .inr ⟨p, ws, rfl, hp2, fun od => ?_⟩
      obtain ⟨s3, r3⟩ := frz_res (od := od) s2 hp hp2 (Rs.mono Kp.refl (fun k a h => by simp at h) _ _ r2)
      exact q _ _ γ1 (a1.trans (Aft.of_same s3)) (S1.same s3) r3
  · cases e2
theorem Ro.two {K : FK} {H : Hp} {o : GO} {G : Hs} {γ : List Addr} {a : Addr} (r : Ro K H (o :: G) γ) (h : [a] <+: γ) : ∃ t, γ = a :: t ∧ RG K γ H o a ∧ G.length = t.length := by
  obtain ⟨t, rfl⟩ := h
  have := r.len
  simp at this
  exact ⟨t, rfl, r.rt 0 o a rfl rfl, by omega⟩
theorem de_callB {F : List D → Hs → Option (D × Hs)} (c : C8.CalG X.prog X.w X.F X.mg X.base k x (spB X.F np F) []) (hr : RoomG j X.A) (ha : DEA X (e :: es) gs) (hk : k ≤ j := by decide) (hg : Gl X x := by rfl)
    (hdb : (x == ("__debug__" : Str)) = false := by decide) (he : starEach (e :: es) X.env = (false, eval e X.env) :: starEach es X.env := by rfl) (hpl : (backTo pos (starEach es X.env)).any (·.1) = false := by rfl) :
    DE X (.Call (.Name x p) (e :: es) [] pos) (eCallB np F gs) := PE.imp (C8.pe_cG c hr hk hg ha hdb he hpl) fun σ H Q ⟨δ, G, γ, d, G', S, ef, q⟩ => by
  simp only [eCallB, Option.bind_eq_some_iff] at ef
  obtain ⟨⟨ds, G1⟩, e1, e2⟩ := ef
  split at e2
  case isFalse => cases e2
  rename_i hlen
  refine ⟨δ, G, γ, ds, G1, S, e1, fun vs H1 γ1 a1 S1 r1 => ?_⟩
  show spB X.F np F (vs ++ []) H1 Q C8.E0
  rw [List.append_nil]
  refine ⟨by rw [← r1.length]; exact hlen, ?_⟩
  unfold callB at e2
  split at e2
  · rename_i i rest hds
    obtain rfl : ds = .rf i :: rest := hds
    split at e2
    case isFalse => cases e2
    rename_i hrest
    obtain ⟨o, eo, e2⟩ := Option.bind_eq_some_iff.mp e2
    split at e2
    case isFalse => cases e2
    rename_i hof
    obtain ⟨⟨d1, Gr⟩, ef, e2⟩ := Option.bind_eq_some_iff.mp e2
    obtain ⟨v0, vr, rfl, r2, r3⟩ := r1.of_cons
    simp only [R] at r2
    obtain ⟨ad, rfl, hi⟩ := r2
    have eo : G1[i]? = some o := eo
    refine ⟨.rf 0 :: rest, [o], [ad], d1, Gr, Rs.cons (by simp only [R]; exact ⟨ad, rfl, rfl⟩) (Rs.im rest vr hrest r3), S1.toRo.one hi eo hof, ef, fun v H2 γ2 a2 ro2 rd => ?_⟩
    simp only at e2
    split at e2
    · rename_i o'
      obtain ⟨t, rfl, rg, ht⟩ := Ro.two ro2 a2.pre
      split at e2
      case isFalse => cases e2
      rename_i hf'
      obtain ⟨a3, S3⟩ := S1.back1 hi eo a2 hf' rg
      split at e2
      · rename_i him
        cases e2
        exact q v H2 γ1 (a1.trans a3) S3 (R.im _ _ him rd)
      · split at e2
        · cases e2
          refine q v H2 γ1 (a1.trans a3) S3 ?_
          simp only [R] at rd ⊢
          obtain ⟨b, rfl, hb⟩ := rd
          simp at hb
          subst hb
          exact ⟨ad, rfl, hi⟩
        · cases e2
    · rename_i o' o2
      obtain ⟨t, rfl, rg, ht⟩ := Ro.two ro2 a2.pre
      match t, ht with
      | [b], _ =>
        split at e2
        case isFalse => cases e2
        rename_i hf'
        obtain ⟨a3, S3⟩ := S1.back1 hi eo a2 hf'.1 rg
        split at e2
        · cases e2
          simp only [R] at rd
          obtain ⟨b', rfl, hb⟩ := rd
          simp at hb
          subst hb
          have hn : H1 b = none := by
            rcases a2.fr b (by simp) with z | z
            · have : b = ad := by simpa using z
              subst this
              have := ro2.nd
              simp at this
            · exact z
          have nb : b ∉ γ1 := fun z => S1.ex b z hn
          obtain ⟨S4, r4⟩ := S3.more nb (ro2.ex b (by simp)) hf'.2 (ro2.rt 1 o2 b rfl rfl)
          refine q _ H2 _ (a1.trans ⟨a3.tr, a3.ex, List.prefix_append _ _, fun c z => ?_⟩) S4 (by simpa using r4)
          rcases List.mem_append.mp z with z | z
          · exact .inl z
          · have : c = b := by simpa using z
            subst this
            exact .inr hn
        · cases e2
      | [], ht => simp at ht
      | _ :: _ :: _, ht => simp at ht
    · cases e2
  · split at e2
    case isFalse => cases e2
    rename_i him
    obtain ⟨⟨d1, Gr⟩, ef, e2⟩ := Option.bind_eq_some_iff.mp e2
    refine ⟨_, [], [], d1, Gr, Rs.im _ vs him r1, Ro.nil, ef, fun v H2 γ2 a2 ro2 rd => ?_⟩
    simp only at e2
    have s2 : Same H1 H2 := a2.same0
    split at e2
    · split at e2
      case isFalse => cases e2
      rename_i hi
      cases e2
      exact q v H2 γ1 (a1.trans (Aft.of_same s2)) (S1.same s2) (R.im _ _ hi rd)
    · rename_i o2
      split at e2
      case isFalse => cases e2
      rename_i hf'
      split at e2
      · cases e2
        match γ2, ro2.len with
        | [b], _ =>
          simp only [R] at rd
          obtain ⟨b', rfl, hb⟩ := rd
          simp at hb
          subst hb
          have hn : H1 b = none := by
            rcases a2.fr b (by simp) with z | z
            · simp at z
            · exact z
          have nb : b ∉ γ1 := fun z => S1.ex b z hn
          obtain ⟨S4, r4⟩ := (S1.same s2).more nb (ro2.ex b (by simp)) hf' (ro2.rt 0 o2 b rfl rfl)
          refine q _ H2 _ (a1.trans ⟨fun c o e _ => s2 c o e, fun c e => Same.none' s2 e, List.prefix_append _ _, fun c z => ?_⟩) S4 r4
          rcases List.mem_append.mp z with z | z
          · exact .inl z
          · have : c = b := by simpa using z
            subst this
            exact .inr hn
      · cases e2
    · cases e2
end
end FL
namespace FL
open PySem PySem.Spec PyProof.Rows L2

/-! ### data as the library's -/
mutual
def D.py : D → PyData
  | .non => .none | .bl b => .bool b | .int i => .int i | .str x => .str x
  | .tup ds => .tuple (pys ds) | .fl ds => .list (pys ds)
  | _ => .none
def pys : List D → List PyData
  | [] => []
  | d :: ds => d.py :: pys ds
end
mutual
/-- plain data: None, bools, ints, right texts, tuples, frozen lists -/
def D.ok : D → Bool
  | .non => true | .bl _ => true | .int _ => true | .str x => PyData.strOk x
  | .tup ds => oks ds | .fl ds => oks ds
  | _ => false
def oks : List D → Bool
  | [] => true
  | d :: ds => d.ok && oks ds
end
mutual
def D.dep : D → Nat
  | .tup ds => deps ds + 1 | .fl ds => deps ds + 1
  | _ => 0
def deps : List D → Nat
  | [] => 0
  | d :: ds => max d.dep (deps ds)
end
theorem pys_eq : ∀ ds : List D, pys ds = ds.map D.py
  | [] => rfl
  | d :: ds => by simp only [pys, List.map_cons, pys_eq ds]
theorem oks_mem : ∀ {ds : List D} {d : D}, oks ds = true → d ∈ ds → d.ok = true
  | [], _, _, h => by simp at h
  | e :: ds, d, h, hm => by
    simp only [oks, Bool.and_eq_true] at h
    rcases List.mem_cons.mp hm with rfl | hm
    · exact h.1
    · exact oks_mem h.2 hm
mutual
theorem D.lay : ∀ d : D, d.ok = true → d.py.canLay0 = true
  | .non, _ => by simp only [D.py, PyData.canLay0]
  | .bl _, _ => by simp only [D.py, PyData.canLay0]
  | .int _, _ => by simp only [D.py, PyData.canLay0]
  | .str x, h => by simpa only [D.py, PyData.canLay0, D.ok] using h
  | .tup ds, h => by
    simp only [D.py, PyData.canLay0]
    exact lays ds (by simpa only [D.ok] using h)
  | .fl ds, h => by
    simp only [D.py, PyData.canLay0]
    exact lays ds (by simpa only [D.ok] using h)
  | .obj _ _ _, h => by simp only [D.ok] at h; cases h
  | .scr _, h => by simp only [D.ok] at h; cases h
  | .fd _ _, h => by simp only [D.ok] at h; cases h
  | .rf _, h => by simp only [D.ok] at h; cases h
theorem lays : ∀ ds : List D, oks ds = true → PyData.canLayAll0 (pys ds) = true
  | [], _ => by simp only [pys, PyData.canLayAll0]
  | d :: ds, h => by
    simp only [oks, Bool.and_eq_true] at h
    simp only [pys, PyData.canLayAll0, Bool.and_eq_true]
    exact ⟨D.lay d h.1, lays ds h.2⟩
end
mutual
theorem D.depth : ∀ d : D, d.py.depth ≤ d.dep
  | .non => by simp only [D.py, PyData.depth]; exact Nat.zero_le _
  | .bl _ => by simp only [D.py, PyData.depth]; exact Nat.zero_le _
  | .int _ => by simp only [D.py, PyData.depth]; exact Nat.zero_le _
  | .str x => by simp only [D.py, PyData.depth]; exact Nat.zero_le _
  | .tup ds => by
    simp only [D.py, PyData.depth, D.dep]
    exact Nat.succ_le_succ (depths ds)
  | .fl ds => by
    simp only [D.py, PyData.depth, D.dep]
    exact Nat.succ_le_succ (depths ds)
  | .obj _ _ _ => by simp only [D.py, PyData.depth]; exact Nat.zero_le _
  | .scr _ => by simp only [D.py, PyData.depth]; exact Nat.zero_le _
  | .fd _ _ => by simp only [D.py, PyData.depth]; exact Nat.zero_le _
  | .rf _ => by simp only [D.py, PyData.depth]; exact Nat.zero_le _
theorem depths : ∀ ds : List D, PyData.depthAll (pys ds) ≤ deps ds
  | [] => by simp only [pys, PyData.depthAll]; exact Nat.zero_le _
  | d :: ds => by
    have h1 := D.depth d
    have h2 := depths ds
    simp only [pys, PyData.depthAll, deps]
    omega
end
theorem D.shaped {d : D} (h : d.ok = true) (hd : d.dep ≤ 60) : SeqAt.shaped d.py = true := by
  unfold SeqAt.shaped
  rw [Bool.and_eq_true, decide_eq_true_eq]
  have := D.depth d
  exact ⟨d.lay h, by omega⟩
section
variable {K : FK} {γ : List Addr} {H : Hp}
mutual
theorem R.dp : ∀ (d : D) (v : V), d.ok = true → R K γ H d v → Dp K H v d.py
  | .non, v, _, h => by simp only [R] at h; subst h; simp only [D.py]; exact .non
  | .bl b, v, _, h => by simp only [R] at h; subst h; simp only [D.py]; exact .bl b
  | .int i, v, _, h => by simp only [R] at h; subst h; simp only [D.py]; exact .int i
  | .str x, v, _, h => by simp only [R] at h; subst h; simp only [D.py]; exact .str x
  | .tup ds, v, o, h => by
    simp only [R] at h
    obtain ⟨a, vs, rfl, h1, h2⟩ := h
    simp only [D.py]
    exact .tup h1 (Rs.dp ds vs (by simpa only [D.ok] using o) h2)
  | .fl ds, v, o, h => by
    simp only [R] at h
    obtain ⟨a, vs, rfl, h1, h2⟩ := h
    simp only [D.py]
    exact .lst h1.sq (Rs.dp ds vs (by simpa only [D.ok] using o) h2)
  | .obj _ _ _, v, o, h => by simp only [D.ok] at o; cases o
  | .scr _, v, o, h => by simp only [D.ok] at o; cases o
  | .fd _ _, v, o, h => by simp only [D.ok] at o; cases o
  | .rf _, v, o, h => by simp only [D.ok] at o; cases o
theorem Rs.dp : ∀ (ds : List D) (vs : List V), oks ds = true → Rs K γ H ds vs → DpAll K H vs (pys ds)
  | [], vs, _, h => by
    rw [h.of_nil]
    simp only [pys]
    exact .nil
  | d :: ds, vs, o, h => by
    simp only [oks, Bool.and_eq_true] at o
    obtain ⟨v, r, rfl, h1, h2⟩ := h.of_cons
    simp only [pys]
    exact .cons (R.dp d v o.1 h1) (Rs.dp ds r o.2 h2)
end
end

/-! ### ints, data: operators -/
def fI2 (C : Int → Int → Bool) (g : Int → Int → D) : Hs → D → D → Option D := fun _ x y => match x, y with
  | .int i, .int j => if C i j = true then some (g i j) else none
  | _, _ => none
theorem fI2_ok {K : FK} {C : Int → Int → Bool} {P : Int → Int → Prop} {g : Int → Int → D} {gv : Int → Int → V} (hC : ∀ i j, C i j = true → P i j) (hg : ∀ i j γ H, R K γ H (g i j) (gv i j)) : OpG K (rI P gv) (fI2 C g) := by
  intro G γ H dx dy d v u Q r rx ry e q
  unfold fI2 at e
  split at e
  · rename_i i j
    split at e
    · rename_i hc
      cases e
      simp only [R] at rx ry
      subst rx ry
      exact ⟨i, j, rfl, rfl, hC i j hc, q _ H (Same.refl H) (hg i j γ H)⟩
    · cases e
  · cases e
def tt2 : Int → Int → Bool := fun _ _ => true
theorem rI0_of {f : Value → Value → Sem Value} {X : Cx} {g : Int → Int → V} (h : OpR X f (rI0 g)) : OpR X f (rI (fun _ _ => True) g) := by
  intro pins s σ H x y v u Q I rx ry q
  obtain ⟨i, j, e1, e2, _, q⟩ := q
  exact h pins s σ H x y v u Q I rx ry ⟨i, j, e1, e2, q⟩
abbrev fAdd := fI2 tt2 fun i j => .int (i + j)
abbrev fSub := fI2 tt2 fun i j => .int (i - j)
abbrev fMul := fI2 (fun i j => decide (i.natAbs.log2 + j.natAbs.log2 < 1000000)) fun i j => .int (i * j)
abbrev fMod := fI2 (fun _ j => decide (0 < j)) fun i j => .int (i % j)
abbrev fDiv := fI2 (fun _ j => decide (0 < j ∧ j.natAbs.log2 < 9000)) fun i j => .int (i / j)
abbrev fLt := fI2 tt2 fun i j => .bl (decide (i < j))
abbrev fLe := fI2 tt2 fun i j => .bl (decide (i ≤ j))
abbrev fGt := fI2 tt2 fun i j => .bl (decide (j < i))
abbrev fGe := fI2 tt2 fun i j => .bl (decide (j ≤ i))
section
variable {X : Cx}
theorem o_add : OpR X (binaryOp .Add) (rI (fun _ _ => True) fun i j => .int (i + j)) ∧ OpG X.F (rI (fun _ _ => True) fun i j => .int (i + j)) fAdd := ⟨rI0_of op_add, fI2_ok (fun _ _ _ => trivial) fun _ _ _ _ => by simp only [R]⟩
theorem o_sub : OpR X (binaryOp .Sub) (rI (fun _ _ => True) fun i j => .int (i - j)) ∧ OpG X.F (rI (fun _ _ => True) fun i j => .int (i - j)) fSub := ⟨rI0_of op_sub, fI2_ok (fun _ _ _ => trivial) fun _ _ _ _ => by simp only [R]⟩
theorem o_mul : OpR X (binaryOp .Mult) (rI CMulW fun i j => .int (i * j)) ∧ OpG X.F (rI CMulW fun i j => .int (i * j)) fMul := ⟨op_mulW, fI2_ok (fun _ _ h => by simpa [CMulW] using h) fun _ _ _ _ => by simp only [R]⟩
theorem o_mod : OpR X (binaryOp .Mod) (rI (fun _ j => 0 < j) fun i j => .int (i % j)) ∧ OpG X.F (rI (fun _ j => 0 < j) fun i j => .int (i % j)) fMod := ⟨op_mod, fI2_ok (fun _ _ h => by simpa using h) fun _ _ _ _ => by simp only [R]⟩
theorem o_div : OpR X (binaryOp .FloorDiv) (rI CDivW fun i j => .int (i / j)) ∧ OpG X.F (rI CDivW fun i j => .int (i / j)) fDiv := ⟨op_fdivW, fI2_ok (fun _ _ h => by simpa [CDivW] using h) fun _ _ _ _ => by simp only [R]⟩
theorem o_lt : OpR X (compareOp .Lt) (rI (fun _ _ => True) fun i j => .bl (decide (i < j))) ∧ OpG X.F (rI (fun _ _ => True) fun i j => .bl (decide (i < j))) fLt := ⟨rI0_of op_lt, fI2_ok (fun _ _ _ => trivial) fun _ _ _ _ => by simp only [R]⟩
theorem o_le : OpR X (compareOp .LtE) (rI (fun _ _ => True) fun i j => .bl (decide (i ≤ j))) ∧ OpG X.F (rI (fun _ _ => True) fun i j => .bl (decide (i ≤ j))) fLe := ⟨rI0_of op_le, fI2_ok (fun _ _ _ => trivial) fun _ _ _ _ => by simp only [R]⟩
theorem o_gt : OpR X (compareOp .Gt) (rI (fun _ _ => True) fun i j => .bl (decide (j < i))) ∧ OpG X.F (rI (fun _ _ => True) fun i j => .bl (decide (j < i))) fGt := ⟨rI0_of op_gt, fI2_ok (fun _ _ _ => trivial) fun _ _ _ _ => by simp only [R]⟩
theorem o_ge : OpR X (compareOp .GtE) (rI (fun _ _ => True) fun i j => .bl (decide (j ≤ i))) ∧ OpG X.F (rI (fun _ _ => True) fun i j => .bl (decide (j ≤ i))) fGe := ⟨rI0_of op_ge, fI2_ok (fun _ _ _ => trivial) fun _ _ _ _ => by simp only [R]⟩
end
/-- == as Python has it -/
def eqb (x y : D) : Bool := PyData.eqv x.py y.py
def fEq : Hs → D → D → Option D := fun _ x y => if (x.ok = true ∧ y.ok = true) ∧ x.dep ≤ 60 ∧ y.dep ≤ 60 then some (.bl (eqb x y)) else none
def fNe : Hs → D → D → Option D := fun _ x y => if (x.ok = true ∧ y.ok = true) ∧ x.dep ≤ 60 ∧ y.dep ≤ 60 then some (.bl (!eqb x y)) else none
theorem fEq_ok {K : FK} : OpG K (rEqD K) fEq := by
  intro G γ H dx dy d v u Q r rx ry e q
  unfold fEq at e
  split at e
  · rename_i h
    cases e
    exact ⟨dx.py, dy.py, R.dp _ _ h.1.1 rx, R.dp _ _ h.1.2 ry, D.shaped h.1.1 h.2.1, D.shaped h.1.2 h.2.2, q _ H (Same.refl H) (by simp only [R, eqb])⟩
  · cases e
theorem fNe_ok {K : FK} : OpG K (rNeD K) fNe := by
  intro G γ H dx dy d v u Q r rx ry e q
  unfold fNe at e
  split at e
  · rename_i h
    cases e
    exact ⟨dx.py, dy.py, R.dp _ _ h.1.1 rx, R.dp _ _ h.1.2 ry, D.shaped h.1.1 h.2.1, D.shaped h.1.2 h.2.2, q _ H (Same.refl H) (by simp only [R, eqb])⟩
  · cases e
theorem room64 {k : Nat} {A : Around} (r : Room k A) : A.units + 64 < cLine := r.units
theorem room65 {k : Nat} {A : Around} (r : Room k A) : A.units + 65 < cLine := by have := r.un; omega
/-- in a tuple, a list -/
def inB (x : D) (ds : List D) : Bool := ds.any fun z => eqb z x
def fIn (neg : Bool) : Hs → D → D → Option D := fun G x y => (seqG G y).bind fun ds => if (x.ok = true ∧ oks ds = true) ∧ x.dep ≤ 60 ∧ deps ds ≤ 59 then some (.bl (if neg = true then !inB x ds else inB x ds)) else none
def rInX (K : FK) (neg : Bool) : R2 := fun x y H Q => ∃ d ds, Dp K H x d ∧ (Dp K H y (.list ds) ∨ Dp K H y (.tuple ds)) ∧ SeqAt.shaped d = true ∧ PyData.canLayAll0 ds = true ∧ Q (.bl (if neg = true then !(ds.any fun z => PyData.eqv z d) else ds.any fun z => PyData.eqv z d)) H
theorem op_inX {X : Cx} (hu : X.A.units + 65 < cLine) : OpR X (compareOp .In) (rInX X.F false) := by
  intro pins s σ H x y v u Q I rx ry h
  obtain ⟨d, ds, hd, he, sd, se, q⟩ := h
  obtain ⟨as, r1⟩ := Dp.reads I d x v hd rx
  rcases he with he | he
  · obtain ⟨bs, r2⟩ := Dp.reads I (.list ds) y u he ry
    exact SeqAt.in_list_reads r2 r1 se (SeqAt.canLay_of_shaped sd) (room_in_shaped sd hu) ⟨.bl _, H, I, rfl, by simpa using q⟩
  · obtain ⟨bs, r2⟩ := Dp.reads I (.tuple ds) y u he ry
    exact SeqAt.in_tuple_reads r2 r1 se (SeqAt.canLay_of_shaped sd) (room_in_shaped sd hu) ⟨.bl _, H, I, rfl, by simpa using q⟩
theorem op_notInX {X : Cx} (hu : X.A.units + 65 < cLine) : OpR X (compareOp .NotIn) (rInX X.F true) := by
  intro pins s σ H x y v u Q I rx ry h
  obtain ⟨d, ds, hd, he, sd, se, q⟩ := h
  obtain ⟨as, r1⟩ := Dp.reads I d x v hd rx
  rcases he with he | he
  · obtain ⟨bs, r2⟩ := Dp.reads I (.list ds) y u he ry
    exact SeqAt.notIn_list_reads r2 r1 se (SeqAt.canLay_of_shaped sd) (room_in_shaped sd hu) ⟨.bl _, H, I, rfl, by simpa using q⟩
  · obtain ⟨bs, r2⟩ := Dp.reads I (.tuple ds) y u he ry
    exact SeqAt.notIn_tuple_reads r2 r1 se (SeqAt.canLay_of_shaped sd) (room_in_shaped sd hu) ⟨.bl _, H, I, rfl, by simpa using q⟩
theorem any_pys (x : D) : ∀ ds : List D, ((pys ds).any fun z => PyData.eqv z x.py) = inB x ds
  | [] => rfl
  | d :: ds => by simp only [pys, inB, List.any_cons, eqb]; rw [any_pys x ds]; rfl
theorem fIn_ok {K : FK} {neg : Bool} : OpG K (rInX K neg) (fIn neg) := by
  intro G γ H dx dy d v u Q r rx ry e q
  obtain ⟨ds, e1, e2⟩ := Option.bind_eq_some_iff.mp e
  split at e2
  case isFalse => cases e2
  rename_i h
  cases e2
  have hd := R.dp _ _ h.1.1 rx
  have out : Dp K H u (.list (pys ds)) ∨ Dp K H u (.tuple (pys ds)) := by
    cases dy with
    | tup es =>
      cases e1
      simp only [R] at ry
      obtain ⟨a, vs, rfl, h1, h2⟩ := ry
      exact .inr (.tup h1 (Rs.dp _ _ h.1.2 h2))
    | fl es =>
      cases e1
      simp only [R] at ry
      obtain ⟨a, vs, rfl, h1, h2⟩ := ry
      exact .inl (.lst h1.sq (Rs.dp _ _ h.1.2 h2))
    | rf k =>
      simp only [R] at ry
      obtain ⟨a, rfl, h1⟩ := ry
      simp only [seqG] at e1
      split at e1
      · rename_i es eg
        cases e1
        obtain ⟨vs, h2, h3⟩ := r.at eg h1
        exact .inl (.lst (.inl (.inl h2)) (Rs.dp _ _ h.1.2 h3))
      · cases e1
    | _ => cases e1
  exact ⟨dx.py, pys ds, hd, out, D.shaped h.1.1 h.2.1, lays ds h.1.2, q _ H (Same.refl H) (by simp only [R]; rw [any_pys])⟩
/-- is, is not of bools; is None -/
def fIs : Hs → D → D → Option D := fun _ x y => match x, y with
  | .bl a, .bl b => some (.bl (decide (a = b)))
  | _, _ => none
def fIsNot : Hs → D → D → Option D := fun _ x y => match x, y with
  | .bl a, .bl b => some (.bl (!decide (a = b)))
  | _, _ => none
theorem fIs_ok {K : FK} : OpG K (fun x y H Q => ∃ a b, x = .bl a ∧ y = .bl b ∧ Q (.bl (decide (a = b))) H) fIs := by
  intro G γ H dx dy d v u Q r rx ry e q
  unfold fIs at e
  split at e
  · cases e
    simp only [R] at rx ry
    subst rx ry
    exact ⟨_, _, rfl, rfl, q _ H (Same.refl H) (by simp only [R])⟩
  · cases e
theorem fIsNot_ok {K : FK} : OpG K (fun x y H Q => ∃ a b, x = .bl a ∧ y = .bl b ∧ Q (.bl (!decide (a = b))) H) fIsNot := by
  intro G γ H dx dy d v u Q r rx ry e q
  unfold fIsNot at e
  split at e
  · cases e
    simp only [R] at rx ry
    subst rx ry
    exact ⟨_, _, rfl, rfl, q _ H (Same.refl H) (by simp only [R])⟩
  · cases e
/-- None: is, is not -/
def D.isNon : D → Bool
  | .non => true
  | _ => false
def fIsN : Hs → D → D → Option D := fun _ x y => match y with
  | .non => some (.bl x.isNon)
  | _ => none
def fNotN : Hs → D → D → Option D := fun _ x y => match y with
  | .non => some (.bl (!x.isNon))
  | _ => none
theorem isNon_ok {K : FK} {γ : List Addr} {H : Hp} {d : D} {v : V} (h : R K γ H d v) : decide (v = .non) = d.isNon := by
  cases d with
  | non => simp only [R] at h; subst h; rfl
  | bl _ => simp only [R] at h; subst h; rfl
  | int _ => simp only [R] at h; subst h; rfl
  | str _ => simp only [R] at h; subst h; rfl
  | tup _ => simp only [R] at h; obtain ⟨a, vs, rfl, _⟩ := h; rfl
  | fl _ => simp only [R] at h; obtain ⟨a, vs, rfl, _⟩ := h; rfl
  | obj _ _ _ => simp only [R] at h; obtain ⟨a, dx, vs, C, rfl, _⟩ := h; rfl
  | scr _ => simp only [R] at h; obtain ⟨a, rfl, _⟩ := h; rfl
  | fd _ _ => simp only [R] at h; obtain ⟨a, o, vs, rfl, _⟩ := h; rfl
  | rf _ => simp only [R] at h; obtain ⟨a, rfl, _⟩ := h; rfl
theorem fIsN_ok {K : FK} : OpG K (fun x y H Q => y = .non ∧ Q (.bl (decide (x = .non))) H) fIsN := by
  intro G γ H dx dy d v u Q r rx ry e q
  unfold fIsN at e
  split at e
  · cases e
    simp only [R] at ry
    exact ⟨ry, q _ H (Same.refl H) (by simp only [R]; rw [isNon_ok rx])⟩
  · cases e
theorem fNotN_ok {K : FK} : OpG K (fun x y H Q => y = .non ∧ Q (.bl (!decide (x = .non))) H) fNotN := by
  intro G γ H dx dy d v u Q r rx ry e q
  unfold fNotN at e
  split at e
  · cases e
    simp only [R] at ry
    exact ⟨ry, q _ H (Same.refl H) (by simp only [R]; rw [isNon_ok rx])⟩
  · cases e
/-- < of alike data -/
def ltb (x y : D) : Bool := PySem.W.dataLt x.py y.py
def fLtD : Hs → D → D → Option D := fun _ x y => if (x.ok = true ∧ y.ok = true) ∧ PySem.W.alike x.py y.py = true ∧ x.isNon = false ∧ x.dep ≤ 60 then some (.bl (ltb x y)) else none
def fGeD : Hs → D → D → Option D := fun _ x y => if (x.ok = true ∧ y.ok = true) ∧ PySem.W.alike x.py y.py = true ∧ x.isNon = false ∧ x.dep ≤ 60 then some (.bl (!ltb x y)) else none
def fGtD : Hs → D → D → Option D := fun _ x y => if (x.ok = true ∧ y.ok = true) ∧ PySem.W.alike x.py y.py = true ∧ x.isNon = false ∧ x.dep ≤ 60 then some (.bl (ltb y x)) else none
def rOrd (K : FK) (f : PyData → PyData → Bool) : R2 := fun x y H Q => ∃ d e, Dp K H x d ∧ Dp K H y e ∧ PySem.W.alike d e = true ∧ d ≠ .none ∧ d.depth ≤ 60 ∧ Q (.bl (f d e)) H
theorem op_ltD {X : Cx} (hu : X.A.units + 64 < cLine) : OpR X (compareOp .Lt) (rOrd X.F PySem.W.dataLt) := by
  intro pins s σ H x y v u Q I rx ry h
  obtain ⟨d, e, hd, he, ha, hn, hp, q⟩ := h
  obtain ⟨as, r1⟩ := Dp.reads I d x v hd rx
  obtain ⟨bs, r2⟩ := Dp.reads I e y u he ry
  exact PySem.W.lt_data r1 r2 ha hn (by omega) ⟨.bl _, H, I, rfl, q⟩
theorem op_gtD {X : Cx} (hu : X.A.units + 64 < cLine) : OpR X (compareOp .Gt) (rOrd X.F fun a b => PySem.W.dataLt b a) := by
  intro pins s σ H x y v u Q I rx ry h
  obtain ⟨d, e, hd, he, ha, hn, hp, q⟩ := h
  obtain ⟨as, r1⟩ := Dp.reads I d x v hd rx
  obtain ⟨bs, r2⟩ := Dp.reads I e y u he ry
  exact PySem.W.gt_data r1 r2 ha hn (by omega) ⟨.bl _, H, I, rfl, q⟩
theorem op_geD {X : Cx} (hu : X.A.units + 64 < cLine) : OpR X (compareOp .GtE) (rOrd X.F fun a b => !PySem.W.dataLt a b) := by
  intro pins s σ H x y v u Q I rx ry h
  obtain ⟨d, e, hd, he, ha, hn, hp, q⟩ := h
  obtain ⟨as, r1⟩ := Dp.reads I d x v hd rx
  obtain ⟨bs, r2⟩ := Dp.reads I e y u he ry
  exact PySem.W.ge_data r1 r2 ha hn (by omega) ⟨.bl _, H, I, rfl, q⟩
theorem ord_ok {K : FK} {f : PyData → PyData → Bool} {g : Hs → D → D → Option D} (hg : ∀ G x y d, g G x y = some d → ((x.ok = true ∧ y.ok = true) ∧ PySem.W.alike x.py y.py = true ∧ x.isNon = false ∧ x.dep ≤ 60) ∧ d = .bl (f x.py y.py)) : OpG K (rOrd K f) g := by
  intro G γ H dx dy d v u Q r rx ry e q
  obtain ⟨⟨⟨o1, o2⟩, h2, h3, h4⟩, rfl⟩ := hg G dx dy d e
  have hd := D.depth dx
  refine ⟨dx.py, dy.py, R.dp _ _ o1 rx, R.dp _ _ o2 ry, h2, fun z => ?_, by omega, q _ H (Same.refl H) (by simp only [R])⟩
  cases dx <;> simp_all [D.py, D.isNon, D.ok]
theorem fLtD_ok {K : FK} : OpG K (rOrd K PySem.W.dataLt) fLtD := ord_ok fun G x y d h => by
  unfold fLtD at h
  split at h
  · rename_i c; cases h; exact ⟨c, rfl⟩
  · cases h
theorem fGtD_ok {K : FK} : OpG K (rOrd K fun a b => PySem.W.dataLt b a) fGtD := ord_ok fun G x y d h => by
  unfold fGtD at h
  split at h
  · rename_i c; cases h; exact ⟨c, rfl⟩
  · cases h
theorem fGeD_ok {K : FK} : OpG K (rOrd K fun a b => !PySem.W.dataLt a b) fGeD := ord_ok fun G x y d h => by
  unfold fGeD at h
  split at h
  · rename_i c; cases h; exact ⟨c, rfl⟩
  · cases h
/-- tuple + tuple -/
def fCatT : Hs → D → D → Option D := fun _ x y => match x, y with
  | .tup a, .tup b => if a.length + b.length ≤ 10000000 then some (.tup (a ++ b)) else none
  | _, _ => none
theorem line7' {n : Nat} (h : n ≤ 10000000) : n ≤ sizeLine := Nat.le_trans h (by decide)
theorem fCatT_ok {K : FK} : OpG K (rCatA K) fCatT := by
  intro G γ H dx dy d v u Q r rx ry e q
  unfold fCatT at e
  split at e
  · rename_i a b
    split at e
    case isFalse => cases e
    rename_i hl
    cases e
    have rx' := rx
    have ry' := ry
    simp only [R] at rx' ry'
    obtain ⟨p, vs, rfl, h1, h2⟩ := rx'
    obtain ⟨p', us, rfl, h3, h4⟩ := ry'
    refine ⟨p, p', vs, us, rfl, rfl, h1, h3, line7' (by rw [← h2.length, ← h4.length]; exact hl), fun z => ?_, fun _ z => ?_, fun _ _ t ht => ?_⟩
    · subst z
      have : a = [] := List.eq_nil_of_length_eq_zero h2.length
      subst this
      exact q _ H (Same.refl H) ry
    · subst z
      have : b = [] := List.eq_nil_of_length_eq_zero h4.length
      subst this
      rw [List.append_nil] at q
      exact q _ H (Same.refl H) rx
    · obtain ⟨s, r'⟩ := new_tup ht (h2.append h4)
      exact q _ _ s r'
  · cases e
/-- list + list: a new list, frozen -/
def fCatL : Hs → D → D → Option D := fun G x y => (lstG G x).bind fun a => (lstG G y).bind fun b => if a.length + b.length ≤ 10000000 then some (.fl (a ++ b)) else none
end FL
namespace FL
open PySem PySem.Spec PyProof.Rows L2

section
variable {X : Cx} {pins : List (Addr × Obj)} {σ : L2.St} {H : Hp} {s : Shared} {l b : Addr} {xs zs : List V}
/-- a list that is read, tracked or frozen: its object -/
theorem lstR (I : Inv X pins σ H s) (h : Rd H l (.lst xs)) : xs.length ≤ sizeLine ∧ ∃ (its : List Value) (n : Nat), Vals xs its ∧ xs.length = its.length ∧ s.heap.get? l = some { cls := .type "list", data := .seq its.toArray n } := by
  obtain ⟨z, its, n, r, e⟩ := h.ok I.hok
  exact ⟨z, its, n, r, r.length, e⟩
def rCatR : R2 := fun x y H Q => ∃ l b xs zs, x = .ref l ∧ y = .ref b ∧ Rd H l (.lst xs) ∧ Rd H b (.lst zs) ∧ xs.length + zs.length ≤ sizeLine ∧ ∀ p, H p = none → Q (.ref p) (upd H p (.lst (xs ++ zs)))
theorem op_catR : OpR X (binaryOp .Add) rCatR := by
  intro pins s σ H x y v u Q I rx ry h
  obtain ⟨l, b, xs, zs, rfl, rfl, hH, hB, hz, q⟩ := h
  cases rx
  cases ry
  obtain ⟨z, its, n, r, hl, e⟩ := lstR I hH
  obtain ⟨z2, its2, n2, r2, hl2, e2⟩ := lstR I hB
  refine PySem.P.add_list e e2 ?_ (by rw [List.size_toArray, List.size_toArray]; omega)
  have ea : its.toArray ++ its2.toArray = (its ++ its2).toArray := by simp
  rw [ea]
  exact ⟨.ref _, _, I.lnew (t' := s.toks) (r.append r2) (by rw [List.length_append]; omega), rfl, q _ I.fresh⟩
/-- an operation that makes a new list, frozen at once -/
theorem opr_frz {f : Value → Value → Sem Value} {r : R2} (h : OpR X f r) : OpR X f (fun x y H Q => r x y H fun v H1 => ∃ p vs, v = .ref p ∧ H1 p = some (.lst vs) ∧ ∀ od, Q v (upd H1 p (.frz od (.lst vs)))) := by
  intro pins s σ H x y v u Q I rx ry q
  refine thn (h pins s σ H x y v u _ I rx ry q) fun w s1 ⟨z, H1, I1, r1, p, vs, ev, hp, q⟩ => ?_
  obtain ⟨od, I2⟩ := I1.lock hp True.intro
  exact ⟨z, _, I2, r1, q od⟩
theorem calr_frz {f : Value} {r : List V → Hp → VK → Prop} (h : CallR X f r) : CallR X f (fun xs H Q => r xs H fun v H1 => ∃ p vs, v = .ref p ∧ H1 p = some (.lst vs) ∧ ∀ od, Q v (upd H1 p (.frz od (.lst vs)))) := by
  intro pins s σ H xs us Q I rx q
  refine thn (h pins s σ H xs us _ I rx q) fun w s1 ⟨z, H1, I1, r1, p, vs, ev, hp, q⟩ => ?_
  obtain ⟨od, I2⟩ := I1.lock hp True.intro
  exact ⟨z, _, I2, r1, q od⟩
theorem fCatL_ok {K : FK} : OpG K (fun x y H Q => rCatR x y H fun v H1 => ∃ p vs, v = .ref p ∧ H1 p = some (.lst vs) ∧ ∀ od, Q v (upd H1 p (.frz od (.lst vs)))) fCatL := by
  intro G γ H dx dy d v u Q r rx ry e q
  unfold fCatL at e
  simp only [Option.bind_eq_some_iff] at e
  obtain ⟨a, e1, b, e2, e3⟩ := e
  split at e3
  case isFalse => cases e3
  rename_i hl
  cases e3
  obtain ⟨p, vs, rfl, h1, h2⟩ := lstG_ok r rx e1
  obtain ⟨p', us, rfl, h3, h4⟩ := lstG_ok r ry e2
  exact ⟨p, p', vs, us, rfl, rfl, h1, h3, line7' (by rw [← h2.length, ← h4.length]; exact hl), fun t ht => frz_end ht (h2.append h4) q⟩
/-- [..] * n -/
def rRepR : R2 := fun x y H Q => ∃ l k xs, x = .ref l ∧ y = .int k ∧ Rd H l (.lst xs) ∧ -(2 ^ 63) ≤ k ∧ k < 2 ^ 63 ∧ xs.length * k.toNat ≤ sizeLine ∧
  ∀ p, H p = none → Q (.ref p) (upd H p (.lst (List.replicate k.toNat xs).flatten))
end

/-! ### methods that change a list at a root -/
abbrev MetG := D → List D → Hs → Option (D × Hs)
def eMet (g : MetG) (fo : RE) (gs : EA) : EE := fun δ G => (fo δ G).bind fun x => (lstG G x).bind fun _ => (gs δ G).bind fun ys => g x ys.1 ys.2
def MetOk (K : FK) (r : V → List V → Hp → VK → Prop) (g : MetG) : Prop :=
  ∀ δ σ G γ H dx ds d G' v vs Q, Sx K H δ G σ γ → R K γ H dx v → Rs K γ H ds vs → g dx ds G = some (d, G') → (∀ v' H' γ', Aft γ H γ' H' → Sx K H' δ G' σ γ' → R K γ' H' d v' → Q v' H') → r v vs H Q
section
variable {X : Cx} {o e : Expr} {es : List Expr} {fo : RE} {gs : EA} {T : String} {id : String} {name : Str} {r : V → List V → Hp → VK → Prop} {g : MetG} {apos cpos : Pos}
theorem met_e (hg : MetOk X.F r g) (σ : L2.St) (H : Hp) (Q : VK) (h : lE X.F (eMet g fo gs) σ H Q) : tBM X.F "list" r (lR X.F fo) (lEA X.F gs) σ H Q := by
  obtain ⟨δ, G, γ, d, G', S, ef, q⟩ := h
  simp only [eMet, Option.bind_eq_some_iff] at ef
  obtain ⟨x, e1, l, e2, ⟨ys, G1⟩, e3, e4⟩ := ef
  refine ⟨δ, G, γ, x, S, e1, fun v H1 s1 r1 => ?_⟩
  obtain ⟨a, vs, rfl, h1, h2⟩ := lstG_ok (S.same s1).toRo r1 e2
  refine ⟨Or.inl ⟨rfl, vs, .inl h1⟩, δ, G, γ, ys, G1, S.same s1, e3, fun us H2 γ2 a2 S2 r2 => ?_⟩
  exact hg δ σ G1 γ2 H2 x ys d G' _ us Q S2 (R.aft a2 r1) r2 e4 fun v' H' γ' a3 S3 r3 => q v' H' γ' ((Aft.of_same s1).trans (a2.trans a3)) S3 r3
theorem de_met (pa : PlainAttrs "list") (slot : Slot "list" name id) (hty : typeOf (.builtin id) = pure (.type "method_descriptor")) (hm : MtR X id r) (hg : MetOk X.F r g) (ho : DR X o fo) (ha : DEA X (e :: es) gs)
    (hbase : attributeBase o name X.env (eval o X.env) = eval o X.env := by rfl)
    (hfew : ((backTo cpos (starEach (e :: es) X.env)).all (fun x => !x.1) && (backToKw cpos (keywordEach [] X.env)).all (fun x => x.1.isSome)
      && decide ((e :: es).length + ([] : List Keyword).length + (if ([] : List Keyword).isEmpty then 0 else 1) < 30)) = true := by rfl)
    (hline : (apos.endLine == cpos.line) = true := by rfl) (hs : starEach (e :: es) X.env = (false, eval e X.env) :: starEach es X.env := by rfl) (hplain : (backTo cpos (starEach es X.env)).any (·.1) = false := by rfl) :
    DE X (.Call (.Attribute o name apos) (e :: es) [] cpos) (eMet g fo gs) := PE.imp (pe_bm pa slot hty hm ho ha hbase hfew hline hs hplain) (met_e hg)
/-- append -/
def gAppend : MetG := fun x ys G => match x, ys with
  | .rf k, [d] => match G[k]? with
    | some (.lst ds) => if ds.length < 10000000 then some (.non, G.set k (.lst (ds ++ [d]))) else none
    | _ => none
  | _, _ => none
theorem gAppend_ok {K : FK} : MetOk K rAppend gAppend := by
  intro δ σ G γ H dx ds d G' v vs Q S rx rs e q
  unfold gAppend at e
  split at e
  · rename_i k d1
    split at e
    · rename_i xs eg
      split at e
      case isFalse => cases e
      rename_i hl
      cases e
      simp only [R] at rx
      obtain ⟨a, rfl, hk⟩ := rx
      obtain ⟨w, r', rfl, h1, h2⟩ := rs.of_cons
      obtain rfl := h2.of_nil
      obtain ⟨us, hu, ru⟩ := S.toRo.at eg hk
      refine ⟨a, us, w, rfl, rfl, hu, line7 (by rw [← ru.length]; exact hl), ?_⟩
      obtain ⟨a1, S1⟩ := S.put hk eg hu (ru.append (Rs.cons h1 Rs.nil))
      exact q .non _ γ a1 S1 (by simp only [R])
    · cases e
  · cases e
theorem de_append (ho : DR X o fo) (ha : DEA X [e] gs)
    (hbase : attributeBase o "append" X.env (eval o X.env) = eval o X.env := by rfl)
    (hfew : ((backTo cpos (starEach [e] X.env)).all (fun x => !x.1) && (backToKw cpos (keywordEach [] X.env)).all (fun x => x.1.isSome)
      && decide ([e].length + ([] : List Keyword).length + (if ([] : List Keyword).isEmpty then 0 else 1) < 30)) = true := by rfl)
    (hline : (apos.endLine == cpos.line) = true := by rfl) (hs : starEach [e] X.env = (false, eval e X.env) :: starEach [] X.env := by rfl) (hplain : (backTo cpos (starEach [] X.env)).any (·.1) = false := by rfl) :
    DE X (.Call (.Attribute o "append" apos) [e] [] cpos) (eMet gAppend fo gs) := de_met PySem.F.plainAttrs_list PySem.F.slot_list_append PySem.F.type_list_append mt_append gAppend_ok ho ha hbase hfew hline hs hplain
/-- extend -/
def rExtR : V → List V → Hp → VK → Prop := fun x vs H Q => ∃ l b xs zs, x = .ref l ∧ vs = [.ref b] ∧ H l = some (.lst xs) ∧ Rd H b (.lst zs) ∧ xs.length + zs.length ≤ sizeLine ∧ Q .non (upd H l (.lst (xs ++ zs)))
theorem mt_extR : MtR X "list.extend" rExtR := by
  intro pins s σ H x vs v us Q I rx rv h
  obtain ⟨l, b, xs, zs, rfl, rfl, hH, hB, hz, q⟩ := h
  cases rx
  obtain ⟨u, rfl, ru⟩ := rv.one
  cases ru
  obtain ⟨z, its, n, r, hl, e⟩ := I.lstM hH
  obtain ⟨z2, its2, n2, r2, hl2, e2⟩ := lstR I hB
  have hsz : its.toArray.size + its2.toArray.size ≤ sizeLine := by rw [List.size_toArray, List.size_toArray]; omega
  have hlong : ¬ (!its.toArray.isEmpty && Builtin.List.listTooLong (its.toArray.size + its2.toArray.size)) = true := by
    rw [notLongL hsz, Bool.and_false]
    exact Bool.false_ne_true
  refine call_meets F.slot_list_extend ⟨_, e, rfl⟩ F.entry_list_extend (F.args_list_extend_2 _ _)
    (AutoSeq1.list_extend_list_list_0 l its.toArray n b its2.toArray n2 hlong (by rw [List.size_toArray]; omega) (by omega)) ⟨e, e2, ?_⟩
  refine ⟨.non, _, I.lset (its' := its ++ its2) hH e (by simp) (r.append r2) ?_, rfl, q⟩
  rw [List.length_append]
  omega
def gExtend : MetG := fun x ys G => match x, ys with
  | .rf k, [y] => match G[k]? with
    | some (.lst ds) => (lstG G y).bind fun es => if ds.length + es.length ≤ 10000000 then some (.non, G.set k (.lst (ds ++ es))) else none
    | _ => none
  | _, _ => none
theorem gExtend_ok {K : FK} : MetOk K rExtR gExtend := by
  intro δ σ G γ H dx ds d G' v vs Q S rx rs e q
  unfold gExtend at e
  split at e
  · rename_i k y
    split at e
    · rename_i xs eg
      obtain ⟨es, ee, e⟩ := Option.bind_eq_some_iff.mp e
      split at e
      case isFalse => cases e
      rename_i hl
      cases e
      simp only [R] at rx
      obtain ⟨a, rfl, hk⟩ := rx
      obtain ⟨w, r', rfl, h1, h2⟩ := rs.of_cons
      obtain rfl := h2.of_nil
      obtain ⟨us, hu, ru⟩ := S.toRo.at eg hk
      obtain ⟨b, zs, rfl, hb, rb⟩ := lstG_ok S.toRo h1 ee
      refine ⟨a, b, us, zs, rfl, rfl, hu, hb, line7' (by rw [← ru.length, ← rb.length]; exact hl), ?_⟩
      obtain ⟨a1, S1⟩ := S.put hk eg hu (ru.append rb)
      exact q .non _ γ a1 S1 (by simp only [R])
    · cases e
  · cases e
theorem de_extend (ho : DR X o fo) (ha : DEA X [e] gs)
    (hbase : attributeBase o "extend" X.env (eval o X.env) = eval o X.env := by rfl)
    (hfew : ((backTo cpos (starEach [e] X.env)).all (fun x => !x.1) && (backToKw cpos (keywordEach [] X.env)).all (fun x => x.1.isSome)
      && decide ([e].length + ([] : List Keyword).length + (if ([] : List Keyword).isEmpty then 0 else 1) < 30)) = true := by rfl)
    (hline : (apos.endLine == cpos.line) = true := by rfl) (hs : starEach [e] X.env = (false, eval e X.env) :: starEach [] X.env := by rfl) (hplain : (backTo cpos (starEach [] X.env)).any (·.1) = false := by rfl) :
    DE X (.Call (.Attribute o "extend" apos) [e] [] cpos) (eMet gExtend fo gs) := de_met PySem.F.plainAttrs_list PySem.F.slot_list_extend PySem.F.type_list_extend mt_extR gExtend_ok ho ha hbase hfew hline hs hplain
/-- pop() -/
def ePop (fo : RE) : EE := fun δ G => (fo δ G).bind fun x => match x with
  | .rf k => match G[k]? with
    | some (.lst ds) => (ds[ds.length - 1]?).bind fun d => some (d, G.set k (.lst ds.dropLast))
    | _ => none
  | _ => none
theorem Rs.dropLast {K : FK} {γ : List Addr} {ds : List D} {vs : List V} {H : Hp} (h : Rs K γ H ds vs) : Rs K γ H ds.dropLast vs.dropLast := by
  rw [List.dropLast_eq_take, List.dropLast_eq_take, ← h.length]
  exact h.take _
theorem de_pop (ho : DR X o fo) (hbase : attributeBase o "pop" X.env (eval o X.env) = eval o X.env := by rfl)
    (hline : (apos.endLine == cpos.line) = true := by rfl) : DE X (.Call (.Attribute o "pop" apos) [] [] cpos) (ePop fo) := by
  refine PE.imp (pe_bm0 PySem.F.plainAttrs_list PySem.F.slot_list_pop PySem.F.type_list_pop mt_pop ho hbase hline) fun σ H Q ⟨δ, G, γ, d, G', S, ef, q⟩ => ?_
  simp only [ePop, Option.bind_eq_some_iff] at ef
  obtain ⟨x, e1, e2⟩ := ef
  refine ⟨δ, G, γ, x, S, e1, fun v H1 s1 r1 => ?_⟩
  split at e2
  · rename_i k
    split at e2
    · rename_i ds eg
      obtain ⟨d1, e3, e4⟩ := Option.bind_eq_some_iff.mp e2
      cases e4
      simp only [R] at r1
      obtain ⟨a, rfl, hk⟩ := r1
      obtain ⟨us, hu, ru⟩ := (S.same s1).toRo.at eg hk
      obtain ⟨w, h1, h2⟩ := ru.get e3
      refine ⟨Or.inl ⟨rfl, us, .inl (.inl hu)⟩, a, us, w, rfl, rfl, hu, by rw [← ru.length]; exact h1, ?_⟩
      obtain ⟨a1, S1⟩ := (S.same s1).put hk eg hu ru.dropLast
      exact q w _ γ ((Aft.of_same s1).trans a1) S1 (R.aft a1 h2)
    · cases e2
  · cases e2
/-- pop(i) -/
def gPopAt : MetG := fun x ys G => match x, ys with
  | .rf k, [.int i] => match G[k]? with
    | some (.lst ds) => if 0 ≤ i ∧ i < 1000000 then (ds[i.toNat]?).bind fun d => some (d, G.set k (.lst (ds.eraseIdx i.toNat))) else none
    | _ => none
  | _, _ => none
theorem Rs.eraseIdx {K : FK} {γ : List Addr} {H : Hp} : ∀ {ds : List D} {vs : List V} (i : Nat), Rs K γ H ds vs → Rs K γ H (ds.eraseIdx i) (vs.eraseIdx i)
  | [], _, _, h => by
    rw [h.of_nil]
    simpa using Rs.nil
  | d :: ds, vs, 0, h => by
    obtain ⟨v, r, rfl, h1, h2⟩ := h.of_cons
    exact h2
  | d :: ds, vs, i + 1, h => by
    obtain ⟨v, r, rfl, h1, h2⟩ := h.of_cons
    exact Rs.cons h1 (Rs.eraseIdx i h2)
theorem seqIx {i : Int} {n : Nat} (h0 : 0 ≤ i) (h : i.toNat < n) : seqIndex? i n = some i.toNat := by
  have e : ixN n i = some i.toNat := by
    unfold ixN
    rw [if_pos h0, if_pos (by omega)]
  exact (ixN_seq e).1
theorem gPopAt_ok {K : FK} : MetOk K rPopAt gPopAt := by
  intro δ σ G γ H dx ds d G' v vs Q S rx rs e q
  unfold gPopAt at e
  split at e
  · rename_i k i
    split at e
    · rename_i xs eg
      split at e
      case isFalse => cases e
      rename_i hi
      obtain ⟨d1, e3, e4⟩ := Option.bind_eq_some_iff.mp e
      cases e4
      simp only [R] at rx
      obtain ⟨a, rfl, hk⟩ := rx
      obtain ⟨w, r', rfl, h1, h2⟩ := rs.of_cons
      obtain rfl := h2.of_nil
      simp only [R] at h1
      subst h1
      obtain ⟨us, hu, ru⟩ := S.toRo.at eg hk
      obtain ⟨z, h3, h4⟩ := ru.get e3
      have hlt := (List.getElem?_eq_some_iff.mp h3).1
      refine ⟨a, us, i, i.toNat, z, rfl, rfl, hu, by omega, by omega, seqIx hi.1 hlt, h3, ?_⟩
      obtain ⟨a1, S1⟩ := S.put hk eg hu (ru.eraseIdx i.toNat)
      exact q z _ γ a1 S1 (R.aft a1 h4)
    · cases e
  · cases e
theorem de_popAt (ho : DR X o fo) (ha : DEA X [e] gs)
    (hbase : attributeBase o "pop" X.env (eval o X.env) = eval o X.env := by rfl)
    (hfew : ((backTo cpos (starEach [e] X.env)).all (fun x => !x.1) && (backToKw cpos (keywordEach [] X.env)).all (fun x => x.1.isSome)
      && decide ([e].length + ([] : List Keyword).length + (if ([] : List Keyword).isEmpty then 0 else 1) < 30)) = true := by rfl)
    (hline : (apos.endLine == cpos.line) = true := by rfl) (hs : starEach [e] X.env = (false, eval e X.env) :: starEach [] X.env := by rfl) (hplain : (backTo cpos (starEach [] X.env)).any (·.1) = false := by rfl) :
    DE X (.Call (.Attribute o "pop" apos) [e] [] cpos) (eMet gPopAt fo gs) := de_met PySem.F.plainAttrs_list PySem.F.slot_list_pop PySem.F.type_list_pop mt_popAt gPopAt_ok ho ha hbase hfew hline hs hplain
end

/-! ### calls of built-ins -/
section
variable {X : Cx} {e : Expr} {es : List Expr} {fs : RA} {gs : EA} {p pos : Pos}
theorem dr_callB {x : Str} {id : String} {r : List V → Hp → VK → Prop} {g : Hs → List D → Option D} (hc : CallR X (.builtin id) r) (hr : CallG X.F r g) (hm : X.mg x = none) (hv : bootBuiltins x = some (.builtin id)) (ha : DRA X (e :: es) fs) (hg : Gl X x := by rfl)
    (hn : x ≠ "__name__" := by decide) (hd : (x == ("__debug__" : Str)) = false := by decide) (hs : starEach (e :: es) X.env = (false, eval e X.env) :: starEach es X.env := by rfl) (hpl : (backTo pos (starEach es X.env)).any (·.1) = false := by rfl) :
    DR X (.Call (.Name x p) (e :: es) [] pos) (rCal g fs) := PE.imp (pe_callB hc hg hm hv ha hn hd hs hpl) (cal_r hr)
theorem de_callBi {x : Str} {id : String} {r : List V → Hp → VK → Prop} {g : Hs → List D → Option D} (hc : CallR X (.builtin id) r) (hr : CallG X.F r g) (hm : X.mg x = none) (hv : bootBuiltins x = some (.builtin id)) (ha : DEA X (e :: es) gs) (hg : Gl X x := by rfl)
    (hn : x ≠ "__name__" := by decide) (hd : (x == ("__debug__" : Str)) = false := by decide) (hs : starEach (e :: es) X.env = (false, eval e X.env) :: starEach es X.env := by rfl) (hpl : (backTo pos (starEach es X.env)).any (·.1) = false := by rfl) :
    DE X (.Call (.Name x p) (e :: es) [] pos) (eCal g gs) := PE.imp (pe_callB hc hg hm hv ha hn hd hs hpl) (cal_e hr)
theorem dr_callT {x : Str} {T : String} {r : List V → Hp → VK → Prop} {g : Hs → List D → Option D} (hc : CallR X (.type T) r) (hr : CallG X.F r g) (hm : X.mg x = none) (hv : bootBuiltins x = some (.type T)) (ha : DRA X (e :: es) fs) (hg : Gl X x := by rfl)
    (hn : x ≠ "__name__" := by decide) (hd : (x == ("__debug__" : Str)) = false := by decide) (hs : starEach (e :: es) X.env = (false, eval e X.env) :: starEach es X.env := by rfl) (hpl : (backTo pos (starEach es X.env)).any (·.1) = false := by rfl) :
    DR X (.Call (.Name x p) (e :: es) [] pos) (rCal g fs) := PE.imp (pe_callTy hc hg hm hv ha hn hd hs hpl) (cal_r hr)
theorem de_callT {x : Str} {T : String} {r : List V → Hp → VK → Prop} {g : Hs → List D → Option D} (hc : CallR X (.type T) r) (hr : CallG X.F r g) (hm : X.mg x = none) (hv : bootBuiltins x = some (.type T)) (ha : DEA X (e :: es) gs) (hg : Gl X x := by rfl)
    (hn : x ≠ "__name__" := by decide) (hd : (x == ("__debug__" : Str)) = false := by decide) (hs : starEach (e :: es) X.env = (false, eval e X.env) :: starEach es X.env := by rfl) (hpl : (backTo pos (starEach es X.env)).any (·.1) = false := by rfl) :
    DE X (.Call (.Name x p) (e :: es) [] pos) (eCal g gs) := PE.imp (pe_callTy hc hg hm hv ha hn hd hs hpl) (cal_e hr)
end
section
variable {K : FK}
theorem Rs.one {γ : List Addr} {H : Hp} {d : D} {vs : List V} (h : Rs K γ H [d] vs) : ∃ v, vs = [v] ∧ R K γ H d v := by
  obtain ⟨v, r, rfl, h1, h2⟩ := h.of_cons
  rw [h2.of_nil]
  exact ⟨v, rfl, h1⟩
theorem Rs.two {γ : List Addr} {H : Hp} {d d' : D} {vs : List V} (h : Rs K γ H [d, d'] vs) : ∃ v v', vs = [v, v'] ∧ R K γ H d v ∧ R K γ H d' v' := by
  obtain ⟨v, r, rfl, h1, h2⟩ := h.of_cons
  obtain ⟨v', rfl, h3⟩ := h2.one
  exact ⟨v, v', rfl, h1, h3⟩
/-- len of a tuple, a list -/
def gLen : Hs → List D → Option D := fun G ds => match ds with
  | [.scr ns] => some (.int ns.length)
  | [d] => (seqG G d).bind fun xs => some (.int xs.length)
  | _ => none
theorem seqG_ok {γ : List Addr} {H : Hp} {G : Hs} {d : D} {v : V} {ds : List D} (r : Ro K H G γ) (h : R K γ H d v) (e : seqG G d = some ds) : ∃ a vs, v = .ref a ∧ (Rd H a (.lst vs) ∨ SqT K H a vs) ∧ Rs K γ H ds vs := by
  cases d with
  | tup xs =>
    cases e
    simp only [R] at h
    obtain ⟨a, vs, rfl, h1, h2⟩ := h
    exact ⟨a, vs, rfl, .inr h1, h2⟩
  | fl xs =>
    obtain ⟨a, vs, rfl, h1, h2⟩ := lstG_ok (d := .fl xs) r h e
    exact ⟨a, vs, rfl, .inl h1, h2⟩
  | rf k =>
    obtain ⟨a, vs, rfl, h1, h2⟩ := lstG_ok (d := .rf k) r h e
    exact ⟨a, vs, rfl, .inl h1, h2⟩
  | _ => cases e
theorem gLen_ok : CallG K (fun xs H Q => ∃ p ys, xs = [.ref p] ∧ (SqL K H p ys ∨ SqT K H p ys) ∧ Q (.int ys.length) H) gLen := by
  intro G γ H ds d vs Q r rs e q
  unfold gLen at e
  split at e
  · cases e
    obtain ⟨v, rfl, h⟩ := rs.one
    simp only [R] at h
    obtain ⟨a, rfl, h1⟩ := h
    exact ⟨a, _, rfl, .inl h1.sq, q _ H (Same.refl H) (by simp only [R, List.length_map])⟩
  · obtain ⟨xs, e1, e2⟩ := Option.bind_eq_some_iff.mp e
    cases e2
    obtain ⟨v, rfl, h⟩ := rs.one
    obtain ⟨a, us, rfl, h1, h2⟩ := seqG_ok r h e1
    exact ⟨a, us, rfl, h1.imp (fun z => .inl z) id, q _ H (Same.refl H) (by simp only [R]; rw [h2.length])⟩
  · cases e
/-- int(int), abs -/
def gInt : Hs → List D → Option D := fun _ ds => match ds with
  | [.int i] => some (.int i)
  | [.bl b] => some (.int (if b then 1 else 0))
  | _ => none
theorem gInt_ok : CallG K (fun xs H Q => (∃ i, xs = [.int i] ∧ Q (.int i) H) ∨ ∃ k, xs = [.bl k] ∧ Q (.int (if k then 1 else 0)) H) gInt := by
  intro G γ H ds d vs Q r rs e q
  unfold gInt at e
  split at e
  · cases e
    obtain ⟨v, rfl, h⟩ := rs.one
    simp only [R] at h
    subst h
    exact .inl ⟨_, rfl, q _ H (Same.refl H) (by simp only [R])⟩
  · cases e
    obtain ⟨v, rfl, h⟩ := rs.one
    simp only [R] at h
    subst h
    exact .inr ⟨_, rfl, q _ H (Same.refl H) (by simp only [R])⟩
  · cases e
def gAbs : Hs → List D → Option D := fun _ ds => match ds with
  | [.int i] => some (.int (if i < 0 then -i else i))
  | _ => none
theorem gAbs_ok : CallG K (fun xs H Q => ∃ i, xs = [.int i] ∧ Q (.int (if i < 0 then -i else i)) H) gAbs := by
  intro G γ H ds d vs Q r rs e q
  unfold gAbs at e
  split at e
  · cases e
    obtain ⟨v, rfl, h⟩ := rs.one
    simp only [R] at h
    subst h
    exact ⟨_, rfl, q _ H (Same.refl H) (by simp only [R])⟩
  · cases e
def gMax2 : Hs → List D → Option D := fun _ ds => match ds with
  | [.int i, .int j] => some (.int (if j > i then j else i))
  | _ => none
theorem gMax2_ok : CallG K (fun xs H Q => ∃ i j, xs = [.int i, .int j] ∧ Q (.int (if j > i then j else i)) H) gMax2 := by
  intro G γ H ds d vs Q r rs e q
  unfold gMax2 at e
  split at e
  · cases e
    obtain ⟨v, w, rfl, h, h'⟩ := rs.two
    simp only [R] at h h'
    subst h h'
    exact ⟨_, _, rfl, q _ H (Same.refl H) (by simp only [R])⟩
  · cases e
def gMin2 : Hs → List D → Option D := fun _ ds => match ds with
  | [.int i, .int j] => some (.int (if j < i then j else i))
  | _ => none
theorem gMin2_ok : CallG K (fun xs H Q => ∃ i j, xs = [.int i, .int j] ∧ Q (.int (if j < i then j else i)) H) gMin2 := by
  intro G γ H ds d vs Q r rs e q
  unfold gMin2 at e
  split at e
  · cases e
    obtain ⟨v, w, rfl, h, h'⟩ := rs.two
    simp only [R] at h h'
    subst h h'
    exact ⟨_, _, rfl, q _ H (Same.refl H) (by simp only [R])⟩
  · cases e
/-- all, any, sum -/
def blsD : List D → Option (List Bool)
  | [] => some []
  | .bl b :: ds => (blsD ds).bind fun bs => some (b :: bs)
  | _ => none
def intsD : List D → Option (List Int)
  | [] => some []
  | .int b :: ds => (intsD ds).bind fun bs => some (b :: bs)
  | _ => none
theorem blsD_ok {γ : List Addr} {H : Hp} : ∀ {ds : List D} {vs : List V} {bs : List Bool}, Rs K γ H ds vs → blsD ds = some bs → vs = bs.map V.bl
  | [], vs, bs, r, e => by
    cases e
    rw [r.of_nil]
    rfl
  | .bl b :: ds, vs, bs, r, e => by
    obtain ⟨bs', e1, e2⟩ := Option.bind_eq_some_iff.mp e
    cases e2
    obtain ⟨v, r', rfl, h1, h2⟩ := r.of_cons
    simp only [R] at h1
    subst h1
    rw [blsD_ok h2 e1]
    rfl
  | .non :: _, _, _, _, e => by cases e
  | .int _ :: _, _, _, _, e => by cases e
  | .str _ :: _, _, _, _, e => by cases e
  | .tup _ :: _, _, _, _, e => by cases e
  | .fl _ :: _, _, _, _, e => by cases e
  | .obj _ _ _ :: _, _, _, _, e => by cases e
  | .scr _ :: _, _, _, _, e => by cases e
  | .fd _ _ :: _, _, _, _, e => by cases e
  | .rf _ :: _, _, _, _, e => by cases e
theorem intsD_ok {γ : List Addr} {H : Hp} : ∀ {ds : List D} {vs : List V} {bs : List Int}, Rs K γ H ds vs → intsD ds = some bs → vs = bs.map V.int
  | [], vs, bs, r, e => by
    cases e
    rw [r.of_nil]
    rfl
  | .int b :: ds, vs, bs, r, e => by
    obtain ⟨bs', e1, e2⟩ := Option.bind_eq_some_iff.mp e
    cases e2
    obtain ⟨v, r', rfl, h1, h2⟩ := r.of_cons
    simp only [R] at h1
    subst h1
    rw [intsD_ok h2 e1]
    rfl
  | .non :: _, _, _, _, e => by cases e
  | .bl _ :: _, _, _, _, e => by cases e
  | .str _ :: _, _, _, _, e => by cases e
  | .tup _ :: _, _, _, _, e => by cases e
  | .fl _ :: _, _, _, _, e => by cases e
  | .obj _ _ _ :: _, _, _, _, e => by cases e
  | .scr _ :: _, _, _, _, e => by cases e
  | .fd _ _ :: _, _, _, _, e => by cases e
  | .rf _ :: _, _, _, _, e => by cases e
def gAll : Hs → List D → Option D := fun G ds => match ds with
  | [d] => (lstG G d).bind fun xs => (blsD xs).bind fun bs => some (.bl (bs.all id))
  | _ => none
def gAny : Hs → List D → Option D := fun G ds => match ds with
  | [d] => (lstG G d).bind fun xs => (blsD xs).bind fun bs => some (.bl (bs.any id))
  | _ => none
def gSum : Hs → List D → Option D := fun G ds => match ds with
  | [d] => (lstG G d).bind fun xs => (intsD xs).bind fun bs => some (.int bs.sum)
  | _ => none
theorem gAll_ok : CallG K (rAll K) gAll := by
  intro G γ H ds d vs Q r rs e q
  unfold gAll at e
  split at e
  · simp only [Option.bind_eq_some_iff, Option.some.injEq] at e
    obtain ⟨xs, e1, bs, e2, rfl⟩ := e
    obtain ⟨v, rfl, h⟩ := rs.one
    obtain ⟨a, us, rfl, h1, h2⟩ := lstG_ok r h e1
    obtain rfl := blsD_ok h2 e2
    exact ⟨a, bs, rfl, .inl h1, q _ H (Same.refl H) (by simp only [R])⟩
  · cases e
theorem gAny_ok : CallG K (rAny K) gAny := by
  intro G γ H ds d vs Q r rs e q
  unfold gAny at e
  split at e
  · simp only [Option.bind_eq_some_iff, Option.some.injEq] at e
    obtain ⟨xs, e1, bs, e2, rfl⟩ := e
    obtain ⟨v, rfl, h⟩ := rs.one
    obtain ⟨a, us, rfl, h1, h2⟩ := lstG_ok r h e1
    obtain rfl := blsD_ok h2 e2
    exact ⟨a, bs, rfl, .inl h1, q _ H (Same.refl H) (by simp only [R])⟩
  · cases e
theorem gSum_ok : CallG K (rSum K) gSum := by
  intro G γ H ds d vs Q r rs e q
  unfold gSum at e
  split at e
  · simp only [Option.bind_eq_some_iff, Option.some.injEq] at e
    obtain ⟨xs, e1, bs, e2, rfl⟩ := e
    obtain ⟨v, rfl, h⟩ := rs.one
    obtain ⟨a, us, rfl, h1, h2⟩ := lstG_ok r h e1
    obtain rfl := intsD_ok h2 e2
    exact ⟨a, bs, rfl, .inl h1, q _ H (Same.refl H) (by simp only [R])⟩
  · cases e
/-- tuple(..), list(..) of a sequence -/
def gTuple : Hs → List D → Option D := fun G ds => match ds with
  | [d] => (seqG G d).bind fun xs => some (.tup xs)
  | _ => none
theorem gTuple_ok : CallG K (fun xs H Q => ∃ p ys, xs = [.ref p] ∧ ((SqL K H p ys ∧ ∀ l, H l = none → Q (.ref l) (upd H l (.tup ys))) ∨ (SqT K H p ys ∧ Q (.ref p) H))) gTuple := by
  intro G γ H ds d vs Q r rs e q
  unfold gTuple at e
  split at e
  · obtain ⟨xs, e1, e2⟩ := Option.bind_eq_some_iff.mp e
    cases e2
    obtain ⟨v, rfl, h⟩ := rs.one
    obtain ⟨a, us, rfl, h1, h2⟩ := seqG_ok r h e1
    rcases h1 with h1 | h1
    · refine ⟨a, us, rfl, .inl ⟨.inl h1, fun t ht => ?_⟩⟩
      obtain ⟨s, r'⟩ := new_tup ht h2
      exact q _ _ s r'
    · refine ⟨a, us, rfl, .inr ⟨h1, q _ H (Same.refl H) ?_⟩⟩
      simp only [R]
      exact ⟨a, us, rfl, h1, h2⟩
  · cases e
def gList : Hs → List D → Option D := fun G ds => match ds with
  | [d] => (seqG G d).bind fun xs => some (.fl xs)
  | _ => none
theorem gList_ok : CallG K (fun xs H Q => ∃ p ys, xs = [.ref p] ∧ (SqL K H p ys ∨ SqT K H p ys) ∧ ∀ l, H l = none → ∃ p vs, V.ref l = .ref p ∧ (upd H l (.lst ys)) p = some (.lst vs) ∧ ∀ od, Q (.ref l) (upd (upd H l (.lst ys)) p (.frz od (.lst vs)))) gList := by
  intro G γ H ds d vs Q r rs e q
  unfold gList at e
  split at e
  · obtain ⟨xs, e1, e2⟩ := Option.bind_eq_some_iff.mp e
    cases e2
    obtain ⟨v, rfl, h⟩ := rs.one
    obtain ⟨a, us, rfl, h1, h2⟩ := seqG_ok r h e1
    exact ⟨a, us, rfl, h1.imp (fun z => .inl z) id, fun l hl => frz_end hl h2 q⟩
  · cases e
/-- sorted of a list of alike data -/
def srtd (ds : List D) : List D := ds.mergeSort (PySem.W.dataLe false D.py)
def sortable (ds : List D) : Bool := ds.all (fun x => ds.all fun y => PySem.W.alike x.py y.py) && ds.all (fun x => x.ok && decide (x.dep ≤ 60)) && decide (ds.length ≤ 10000000) &&
  (ds.all (fun x => match x with | .tup (_ :: _) => true | _ => false) || ds.all fun x => match x with | .tup _ => false | .non => false | _ => true)
def gSorted : Hs → List D → Option D := fun G ds => match ds with
  | [d] => (lstG G d).bind fun xs => if sortable xs = true then some (.fl (srtd xs)) else none
  | _ => none
end
end FL
namespace FL
open PySem PySem.Spec PyProof.Rows L2

/-! ### sorted -/
section
variable {X : Cx}
def srel (H : Hp) (K : FK) (γ : List Addr) : Value → D → Prop := fun u d => ∃ v, RelV v u ∧ R K γ H d v
theorem each_of {K : FK} {γ : List Addr} {H : Hp} : ∀ {ds : List D} {vs : List V} {us : List Value}, Rs K γ H ds vs → Vals vs us → PySem.W.EachIs (srel H K γ) us ds
  | [], vs, us, r, w => by
    rw [r.of_nil] at w
    cases w
    exact .nil
  | d :: ds, vs, us, r, w => by
    obtain ⟨v, vs', rfl, r1, r2⟩ := r.of_cons
    cases w with
    | cons w1 w2 => exact .cons ⟨v, w1, r1⟩ (each_of r2 w2)
theorem of_each {K : FK} {γ : List Addr} {H : Hp} : ∀ {us : List Value} {ds : List D}, PySem.W.EachIs (srel H K γ) us ds → ∃ vs, Vals vs us ∧ Rs K γ H ds vs
  | _, _, .nil => ⟨[], .nil, Rs.nil⟩
  | _, _, .cons ⟨v, w, r⟩ t => by
    obtain ⟨vs, w', r'⟩ := of_each t
    exact ⟨v :: vs, .cons w w', Rs.cons r r'⟩
theorem EachIs.imp' {α β : Type} {R S : α → β → Prop} : ∀ {as : List α} {bs : List β}, PySem.W.EachIs R as bs → (∀ a b, b ∈ bs → R a b → S a b) → PySem.W.EachIs S as bs
  | _, _, .nil, _ => .nil
  | _, _, .cons h t, f => .cons (f _ _ List.mem_cons_self h) (EachIs.imp' t fun a b m => f a b (List.mem_cons_of_mem _ m))
def rSrt (K : FK) : List V → Hp → VK → Prop := fun vs H Q => ∃ (a : Addr) (us : List V) (ds : List D) (γ : List Addr), vs = [V.ref a] ∧ Rd H a (.lst us) ∧ Rs K γ H ds us ∧ sortable ds = true ∧
  ∀ ws p, Rs K γ H (srtd ds) ws → H p = none → Q (.ref p) (upd H p (.lst ws))
theorem sortable_facts {ds : List D} (h : sortable ds = true) : (∀ x ∈ ds, ∀ y ∈ ds, PySem.W.alike x.py y.py = true) ∧ (∀ x ∈ ds, x.ok = true ∧ x.dep ≤ 60) ∧ ds.length ≤ 10000000 ∧
    ((∀ x ∈ ds, ∃ y r, x = .tup (y :: r)) ∨ ∀ x ∈ ds, x.py ≠ .none ∧ ∀ xs, x.py ≠ .tuple xs) := by
  unfold sortable at h
  simp only [Bool.and_eq_true, List.all_eq_true, decide_eq_true_eq, Bool.or_eq_true] at h
  obtain ⟨⟨⟨h1, h2⟩, h3⟩, h4⟩ := h
  refine ⟨h1, h2, h3, ?_⟩
  rcases h4 with h4 | h4
  · left
    intro x hx
    have := h4 x hx
    split at this
    · exact ⟨_, _, rfl⟩
    · cases this
  · right
    intro x hx
    have q := h4 x hx
    have o := (h2 x hx).1
    cases x <;> simp_all [D.py, D.ok]
theorem cr_srt {k : Nat} (hr : Room k X.A) : CallR X (.builtin "sorted") (rSrt X.F) := by
  intro pins s σ H vs us Q I r h
  obtain ⟨a, xs, ds, γ, rfl, hs, rs, so, q⟩ := h
  obtain ⟨h1, h2, h3, h4⟩ := sortable_facts so
  obtain ⟨its, rv, hl, hz⟩ := I.list (.inl hs)
  obtain ⟨u, rfl, ru⟩ := vals1 r
  obtain rfl : u = Value.ref a := ru
  have e1 := each_of rs rv
  have e2 : PySem.W.EachIs (fun v b => ∃ as, Reads s.heap v (D.py b) as) its ds := EachIs.imp' e1 fun u d hd ⟨v, w, rr⟩ => Dp.reads I d.py v u (R.dp d v (h2 d hd).1 rr) w
  refine PySem.W.sorted_data (enc := D.py) hl.isList e1 e2 ?_ ?_ (line7' h3) (fun d hd => ?_) fun out hlen ho => ?_
  · intro d hd d' hd'
    obtain ⟨x, hx, rfl⟩ := List.mem_map.mp hd
    obtain ⟨y, hy, rfl⟩ := List.mem_map.mp hd'
    exact h1 x hx y hy
  · rcases h4 with h4 | h4
    · left
      intro d hd
      obtain ⟨x, hx, rfl⟩ := List.mem_map.mp hd
      obtain ⟨y, r, rfl⟩ := h4 x hx
      exact ⟨y.py, pys r, by simp only [D.py, pys]⟩
    · right
      intro d hd
      obtain ⟨x, hx, rfl⟩ := List.mem_map.mp hd
      exact h4 x hx
  · have q1 := (h2 d hd).2
    have q2 := D.depth d
    have q3 := hr.un
    omega
  · obtain ⟨ws, w1, w2⟩ := of_each ho
    have kp : ∀ b o, s.heap.get? b = some o → (sortedAll s.heap its (List.toArray out)).get? b = some o := fun b o e => sortedAll_old e
    obtain ⟨n, hn⟩ := sortedAll_at s.heap its (List.toArray out)
    have hf : s.heap.objs.size ≤ s.heap.objs.size + 1 := Nat.le_succ _
    refine ⟨.ref (s.heap.objs.size + 1), upd H (s.heap.objs.size + 1) (.lst ws), I.laid (t' := s.toks) kp hf ⟨?_, out, n, w1, hn⟩, rfl, q ws _ w2 (I.hok.fresh hf)⟩
    rw [w1.length, hlen]
    exact line7' h3
theorem gSorted_ok {K : FK} : CallG K (fun xs H Q => rSrt K xs H fun v H1 => ∃ p vs, v = .ref p ∧ H1 p = some (.lst vs) ∧ ∀ od, Q v (upd H1 p (.frz od (.lst vs)))) gSorted := by
  intro G γ H ds d vs Q r rs e q
  unfold gSorted at e
  split at e
  · obtain ⟨xs, e1, e2⟩ := Option.bind_eq_some_iff.mp e
    split at e2
    case isFalse => cases e2
    rename_i so
    cases e2
    obtain ⟨v, rfl, h⟩ := rs.one
    obtain ⟨a, us, rfl, h1, h2⟩ := lstG_ok r h e1
    exact ⟨a, us, xs, γ, rfl, h1, h2, so, fun ws p hw hp => frz_end hp hw q⟩
  · cases e
end

/-! ### isinstance of a built-in class -/
def tyN (G : Hs) : D → Option String
  | .non => some "NoneType" | .bl _ => some "bool" | .int _ => some "int" | .str _ => some "str"
  | .tup _ => some "tuple" | .fl _ => some "list" | .fd _ _ => some "dict"
  | .rf k => match G[k]? with
    | some (.lst _) => some "list"
    | _ => none
  | .obj _ _ _ => none
  | .scr _ => none
def rIsT (f : String → Bool) (fa : RE) : RE := fun δ G => (fa δ G).bind fun x => (tyN G x).bind fun t => some (.bl (f t))
def isTy (T : String) (t : String) : Bool := t == T || (T == "int" && t == "bool")
section
variable {X : Cx} {e c : Expr} {fa : RE} {p pos : Pos}
theorem tyN_ok {K : FK} {γ : List Addr} {H : Hp} {G : Hs} {d : D} {v : V} {t : String} (r : Ro K H G γ) (h : R K γ H d v) (e : tyN G d = some t) : TyX K H v (.type t) := by
  cases d with
  | non => cases e; simp only [R] at h; subst h; exact .base .non
  | bl b => cases e; simp only [R] at h; subst h; exact .base (.bl b)
  | int i => cases e; simp only [R] at h; subst h; exact .base (.int i)
  | str x => cases e; simp only [R] at h; subst h; exact .base (.str x)
  | tup ds =>
    cases e
    simp only [R] at h
    obtain ⟨a, vs, rfl, h1, h2⟩ := h
    rcases h1 with (h1 | ⟨o, h1⟩) | ⟨o, its, n, hk, hc, _⟩
    · exact .base (.tup h1)
    · exact .fTuple h1
    · exact .kTuple hk hc
  | fl ds =>
    cases e
    simp only [R] at h
    obtain ⟨a, vs, rfl, ⟨o, h1⟩, h2⟩ := h
    exact .base (.frz h1)
  | obj _ _ _ => cases e
  | scr _ => cases e
  | fd _ _ =>
    cases e
    simp only [R] at h
    obtain ⟨a, o, kvs, rfl, h1, _⟩ := h
    exact .fDict h1
  | rf k =>
    simp only [R] at h
    obtain ⟨a, rfl, h1⟩ := h
    simp only [tyN] at e
    split at e
    · rename_i ds eg
      cases e
      obtain ⟨vs, h2, _⟩ := r.at eg h1
      exact .base (.lst h2)
    · cases e
theorem dr_isT {T : String} {x : Str} {q : Pos} (ha : DR X e fa) (hm : X.mg "isinstance" = none) (hmT : X.mg x = none) (hvT : bootBuiltins x = some (.type T))
    (hk : ∀ t ∈ ["NoneType", "bool", "int", "str", "tuple", "list", "dict"], PySem.W.kitOne X.F (.type t) (.type T) = some (isTy T t)) (hc : ClsV (.ty T) (.type T))
    (hg : Gl X "isinstance" := by rfl) (hgT : Gl X x := by rfl) (hn : x ≠ "__name__" := by decide) (hd : (x == ("__debug__" : Str)) = false := by decide)
    (hs : starEach [e, .Name x q] X.env = (false, eval e X.env) :: starEach [.Name x q] X.env := by rfl) (hs2 : starEach [.Name x q] X.env = (false, eval (.Name x q) X.env) :: starEach [] X.env := by rfl) (hpl : (backTo pos (starEach [.Name x q] X.env)).any (·.1) = false := by rfl)
    (hv : bootBuiltins "isinstance" = some (.builtin "isinstance") := by decide +kernel) :
    DR X (.Call (.Name "isinstance" p) [e, .Name x q] [] pos) (rIsT (isTy T) fa) := by
  refine PE.imp (pe_callB call_isi hg hm hv (pa_cons ha (pa_cons (pe_bltn (v := .ty T) hgT hmT hvT rfl hn hd) pa_nil hs2) hs) (by decide) (by decide) hs hpl) fun σ H Q ⟨δ, G, γ, d, S, ef, q⟩ => ?_
  simp only [rIsT, Option.bind_eq_some_iff, Option.some.injEq] at ef
  obtain ⟨x, e1, t, e2, rfl⟩ := ef
  refine ⟨δ, G, γ, x, S, e1, fun v H1 s1 r1 => ?_⟩
  have ht := tyN_ok (S.same s1).toRo r1 e2
  refine ⟨v, .ty T, .type t, .type T, isTy T t, rfl, hc, ht, hk t ?_, q _ H1 s1 (by simp only [R])⟩
  cases x <;> simp_all [tyN]
  · rename_i k
    split at e2
    · cases e2; simp
    · cases e2
end

/-! ### a < b < c -/
def rChn (g1 g2 : Hs → D → D → Option D) (fa fb fc : RE) : RE := fun δ G => (fa δ G).bind fun x => (fb δ G).bind fun y => (g1 G x y).bind fun d => (toB d).bind fun k => if k = true then (fc δ G).bind fun z => g2 G y z else some (.bl false)
section
variable {X : Cx} {a b c : Expr} {fa fb fc : RE} {pos : Pos} {g1 g2 : Hs → D → D → Option D} {r r' : R2} {op op' : CmpOp}
theorem chn_r (h1 : OpG X.F r g1) (h2 : OpG X.F r' g2) (σ : L2.St) (H : Hp) (Q : VK) (h : lR X.F (rChn g1 g2 fa fb fc) σ H Q) : tChain r r' (lR X.F fa) (lR X.F fb) (lR X.F fc) σ H Q := by
  obtain ⟨δ, G, γ, d, S, ef, q⟩ := h
  simp only [rChn, Option.bind_eq_some_iff] at ef
  obtain ⟨x, e1, y, e2, d1, e3, k, e4, e5⟩ := ef
  obtain rfl := toB_some e4
  refine ⟨δ, G, γ, x, S, e1, fun v H1 s1 r1 => ⟨δ, G, γ, y, S.same s1, e2, fun u H2 s2 r2 => ?_⟩⟩
  refine h1 G γ H2 x y _ v u _ ((S.same s1).same s2).toRo (R.same s2 r1) r2 e3 fun z H3 s3 r3 => ?_
  simp only [R] at r3
  refine ⟨k, r3, ?_⟩
  have s13 := s1.trans (s2.trans s3)
  cases k with
  | false =>
    have : D.bl false = d := by simpa using e5
    subst this
    simp only [Bool.false_eq_true, if_false]
    exact q _ H3 s13 (by simp only [R])
  | true =>
    simp only [if_true, Option.bind_eq_some_iff] at e5 ⊢
    obtain ⟨z, e6, e7⟩ := e5
    exact ⟨δ, G, γ, z, S.same s13, e6, fun w H4 s4 r4 => h2 G γ H4 y z d u w Q ((S.same s13).same s4).toRo (R.same s4 (R.same s3 r2)) r4 e7 fun v' H5 s5 r5 => q v' H5 (s13.trans (s4.trans s5)) r5⟩
theorem dr_chn (ho : OpR X (compareOp op) r) (ho' : OpR X (compareOp op') r') (h1 : OpG X.F r g1) (h2 : OpG X.F r' g2) (ha : DR X a fa) (hb : DR X b fb) (hc : DR X c fc)
    (hm : lastMarks [op, op'] [b, c] = false := by with_unfolding_all rfl) : DR X (.Compare a [op, op'] [b, c] pos) (rChn g1 g2 fa fb fc) := PE.imp (pe_chain ho ho' ha hb hc hm) (chn_r h1 h2)
theorem drt_chn (ho : OpR X (compareOp op) r) (ho' : OpR X (compareOp op') r') (h1 : OpG X.F r g1) (h2 : OpG X.F r' g2) (ha : DR X a fa) (hb : DR X b fb) (hc : DR X c fc)
    (hm : lastMarks [op, op'] [b, c] = false := by with_unfolding_all rfl) : DRT X (.Compare a [op, op'] [b, c] pos) (rB (rChn g1 g2 fa fb fc)) := PT.imp (pt_chain ho ho' ha hb hc hm) (test_r (chn_r h1 h2))
end

/-! ### slices -/
def partD (f : Option RE) : Env' → Hs → Option (Option Int) := fun δ G => match f with
  | none => some none
  | some f => (f δ G).bind fun x => match x with
    | .int i => some (some i)
    | _ => none
def cutD (ds : List D) (lo hi : Option Int) : List D := (ds.drop (HT.sIx ds.length 0 lo)).take (HT.sIx ds.length ds.length hi - HT.sIx ds.length 0 lo)
def slD (G : Hs) (d : D) (lo hi : Option Int) : Option D := match d with
  | .tup ds => some (.tup (cutD ds lo hi))
  | _ => (lstG G d).bind fun ds => some (.fl (cutD ds lo hi))
def lP (K : FK) (f : Env' → Hs → Option (Option Int)) : TO := fun σ H Q => ∃ δ G γ o, Sx K H δ G σ γ ∧ f δ G = some o ∧ ∀ H', Same H H' → Q o H'
abbrev DP (X : Cx) (e : Option Expr) (f : Env' → Hs → Option (Option Int)) : Prop := PO X e (lP X.F f)
theorem PO.imp {X : Cx} {e : Option Expr} {t t' : TO} (h : PO X e t) (i : ∀ σ H Q, t' σ H Q → t σ H Q) : PO X e t' := ⟨fun pins s σ H Q I q => h.run pins s σ H Q I (i σ H Q q)⟩
def rSl (fa : RE) (fl fh : Env' → Hs → Option (Option Int)) : RE := fun δ G => (fa δ G).bind fun x => (fl δ G).bind fun l => (fh δ G).bind fun h => slD G x l h
section
variable {X : Cx} {a e : Expr} {lo hi : Option Expr} {fa : RE} {fl fh : Env' → Hs → Option (Option Int)} {pos p2 : Pos}
theorem dp_none : DP X none (partD none) := PO.imp po_none fun σ H Q ⟨δ, G, γ, o, S, ef, q⟩ => by
  cases ef
  exact q H (Same.refl H)
theorem dp_some (h : DR X e fa) : DP X (some e) (partD (some fa)) := PO.imp (po_some h) fun σ H Q ⟨δ, G, γ, o, S, ef, q⟩ => by
  simp only [partD, Option.bind_eq_some_iff] at ef
  obtain ⟨x, e1, e2⟩ := ef
  split at e2
  · cases e2
    refine ⟨δ, G, γ, _, S, e1, fun v H1 s1 r1 => ?_⟩
    simp only [R] at r1
    exact ⟨_, r1, q H1 s1⟩
  · cases e2
theorem cut_rs {K : FK} {γ : List Addr} {H : Hp} {ds : List D} {vs : List V} (h : Rs K γ H ds vs) (lo hi : Option Int) : Rs K γ H (cutD ds lo hi) (cutV vs lo hi) := by
  unfold cutD cutV
  rw [h.length]
  exact (h.drop _).take _
theorem dr_sl_t (he : DR X a fa) (hl : DP X lo fl) (hu : DP X hi fh) : DR X (.Subscript a (.Slice lo hi none p2) pos) (fun δ G => (fa δ G).bind fun x => (fl δ G).bind fun l => (fh δ G).bind fun h => match x with
    | .tup ds => some (.tup (cutD ds l h))
    | _ => none) := PE.imp (pe_slice sl_tupA he hl hu) fun σ H Q ⟨δ, G, γ, d, S, ef, q⟩ => by
  simp only [Option.bind_eq_some_iff] at ef
  obtain ⟨x, e1, l, e2, h, e3, e4⟩ := ef
  split at e4
  · rename_i ds
    cases e4
    refine ⟨δ, G, γ, _, S, e1, fun v H1 s1 r1 => ⟨δ, G, γ, l, S.same s1, e2, fun H2 s2 => ⟨δ, G, γ, h, (S.same s1).same s2, e3, fun H3 s3 => ?_⟩⟩⟩
    have s13 := s1.trans (s2.trans s3)
    have r3 := R.same s3 (R.same s2 r1)
    have r3' := r3
    simp only [R] at r3
    obtain ⟨p, vs, rfl, h1, h2⟩ := r3
    refine ⟨p, vs, rfl, h1, fun z => ?_, fun _ t ht => ?_⟩
    · have : cutD ds l h = ds := by
        unfold cutD
        rw [h2.length, z.1, z.2, ← h2.length]
        simp
      rw [this] at q
      exact q _ H3 s13 r3'
    · obtain ⟨s4, r4⟩ := new_tup ht (cut_rs h2 l h)
      exact q _ _ (s13.trans s4) r4
  · cases e4
theorem dr_sl_l (he : DR X a fa) (hl : DP X lo fl) (hu : DP X hi fh) : DR X (.Subscript a (.Slice lo hi none p2) pos) (fun δ G => (fa δ G).bind fun x => (fl δ G).bind fun l => (fh δ G).bind fun h => (lstG G x).bind fun ds => some (.fl (cutD ds l h))) := PE.imp (pe_frz (pe_slice sl_list he hl hu)) fun σ H Q ⟨δ, G, γ, d, S, ef, q⟩ => by
  simp only [Option.bind_eq_some_iff, Option.some.injEq] at ef
  obtain ⟨x, e1, l, e2, h, e3, ds, e4, rfl⟩ := ef
  refine ⟨δ, G, γ, _, S, e1, fun v H1 s1 r1 => ⟨δ, G, γ, l, S.same s1, e2, fun H2 s2 => ⟨δ, G, γ, h, (S.same s1).same s2, e3, fun H3 s3 => ?_⟩⟩⟩
  have s13 := s1.trans (s2.trans s3)
  obtain ⟨p, vs, rfl, h1, h2⟩ := lstG_ok (S.same s13).toRo (R.same s3 (R.same s2 r1)) e4
  exact ⟨p, vs, rfl, .inl h1, fun t ht => frz_end ht (cut_rs h2 l h) fun v H4 s4 r4 => q v H4 (s13.trans s4) r4⟩
/-- xs[::-1] of a list -/
def rRevL (fa : RE) : RE := fun δ G => (fa δ G).bind fun x => (lstG G x).bind fun ds => some (.fl ds.reverse)
theorem dr_revL {k : Nat} {p1 p3 : Pos} (he : DR X a fa) : DR X (.Subscript a (.Slice none none (some (.UnaryOp .USub (.Constant (.int 1) k p1) p2)) p3) pos) (rRevL fa) := PE.imp (pe_frz (pe_revL he)) fun σ H Q ⟨δ, G, γ, d, S, ef, q⟩ => by
  simp only [rRevL, Option.bind_eq_some_iff, Option.some.injEq] at ef
  obtain ⟨x, e1, ds, e2, rfl⟩ := ef
  refine ⟨δ, G, γ, x, S, e1, fun v H1 s1 r1 => ?_⟩
  obtain ⟨p, vs, rfl, h1, h2⟩ := lstG_ok (S.same s1).toRo r1 e2
  exact ⟨p, vs, rfl, .inl h1, fun t ht => frz_end ht h2.reverse fun v H4 s4 r4 => q v H4 (s1.trans s4) r4⟩
/-- .. as a root -/
def eRevL (fa : RE) : EE := fun δ G => (fa δ G).bind fun x => (lstG G x).bind fun ds => some (.rf G.length, G ++ [.lst ds.reverse])
theorem de_revL {k : Nat} {p1 p3 : Pos} (he : DR X a fa) : DE X (.Subscript a (.Slice none none (some (.UnaryOp .USub (.Constant (.int 1) k p1) p2)) p3) pos) (eRevL fa) := PE.imp (pe_revL he) fun σ H Q ⟨δ, G, γ, d, G', S, ef, q⟩ => by
  simp only [eRevL, Option.bind_eq_some_iff, Option.some.injEq, Prod.mk.injEq] at ef
  obtain ⟨x, e1, ds, e2, rfl, rfl⟩ := ef
  refine ⟨δ, G, γ, x, S, e1, fun v H1 s1 r1 => ?_⟩
  obtain ⟨p, vs, rfl, h1, h2⟩ := lstG_ok (S.same s1).toRo r1 e2
  refine ⟨p, vs, rfl, .inl h1, fun t ht => ?_⟩
  obtain ⟨a2, S2, r2⟩ := (S.same s1).push ht h2.reverse
  exact q _ _ _ ((Aft.of_same s1).trans a2) S2 r2
/-- list(range(..)) -/
def rgL (f : List D → Option (List D)) (fs : RA) : EE := fun δ G => (fs δ G).bind fun ds => (f ds).bind fun xs => some (.rf G.length, G ++ [.lst xs])
theorem rs_range {K : FK} {γ : List Addr} {H : Hp} (a b : Int) : Rs K γ H (rangeD a (b - a).toNat) (rgV a b) := by
  refine Rs.mk (by simp [rangeD, rgV]) fun i d v e1 e2 => ?_
  unfold rangeD at e1
  unfold rgV at e2
  simp only [List.getElem?_map, Option.map_eq_some_iff] at e1 e2
  obtain ⟨j, h1, rfl⟩ := e1
  obtain ⟨j', h2, rfl⟩ := e2
  rw [h1] at h2
  cases h2
  simp only [R]
theorem de_listRg1 {p q : Pos} {a : Expr} {fa : RE} (hc : X.calm = true) (ha : DR X a fa) (hm : X.mg "list" = none) (hm2 : X.mg "range" = none) (hg : Gl X "list" := by rfl) (hg2 : Gl X "range" := by rfl)
    (na : starEach [a] X.env = (false, eval a X.env) :: starEach [] X.env := by rfl) (na2 : starEach [.Call (.Name "range" q) [a] [] p2] X.env = (false, eval (.Call (.Name "range" q) [a] [] p2) X.env) :: starEach [] X.env := by rfl) :
    DE X (.Call (.Name "list" p) [.Call (.Name "range" q) [a] [] p2] [] pos) (rgL rng1 (rCons fa rNil)) := PE.imp (pe_listRg hc hg hm (prg_1 hg2 hm2 ha na) na2) fun σ H Q ⟨δ, G, γ, d, G', S, ef, q⟩ => by
  simp only [rgL, rCons, rNil, Option.bind_eq_some_iff, Option.some.injEq, Prod.mk.injEq] at ef
  obtain ⟨ds, ⟨x, e1, xs, rfl, rfl⟩, ys, e3, rfl, rfl⟩ := ef
  unfold rng1 at e3
  split at e3
  case h_2 => cases e3
  rename_i j hj
  have hx : x = .int j := by simpa using hj
  subst hx
  split at e3
  case isFalse => cases e3
  rename_i hb
  cases e3
  refine ⟨δ, G, γ, _, S, e1, fun v H1 s1 r1 => ?_⟩
  simp only [R] at r1
  refine ⟨j, r1, ⟨by omega, by omega, by omega, by omega, by omega⟩, fun t ht => ?_⟩
  have := rs_range (K := X.F) (γ := γ) (H := H1) 0 j
  rw [Int.sub_zero] at this
  obtain ⟨a2, S2, r2⟩ := (S.same s1).push ht this
  exact q _ _ _ ((Aft.of_same s1).trans a2) S2 r2
end

/-! ### attributes of frozen instances -/
def rAttr (f : Str) (fa : RE) : RE := fun δ G => (fa δ G).bind fun x => match x with
  | .obj _ ns ds => (ns.zip ds).lookup f
  | _ => none
theorem zip_mem {α : Type} {f : Str} {d : α} : ∀ {ns : List Str} {ds : List α}, (ns.zip ds).lookup f = some d → f ∈ ns
  | [], _, e => by simp at e
  | _ :: _, [], e => by simp at e
  | n :: ns, x :: ds, e => by
    rw [List.zip_cons_cons, List.lookup_cons] at e
    cases hf : f == n with
    | true => exact List.mem_cons.mpr (.inl (eq_of_beq hf))
    | false =>
      rw [hf] at e
      exact List.mem_cons_of_mem _ (zip_mem e)
theorem zip_lookup {K : FK} {γ : List Addr} {H : Hp} {f : Str} : ∀ {ns : List Str} {ds : List D} {vs : List V} {d : D}, Rs K γ H ds vs → (ns.zip ds).lookup f = some d → ∃ v, (ns.zip vs).lookup f = some v ∧ R K γ H d v
  | [], ds, vs, d, _, e => by simp at e
  | n :: ns, [], vs, d, _, e => by simp at e
  | n :: ns, x :: ds, vs, d, r, e => by
    obtain ⟨v, r', rfl, h1, h2⟩ := r.of_cons
    rw [List.zip_cons_cons, List.lookup_cons] at e ⊢
    cases hf : f == n with
    | true =>
      rw [hf] at e
      cases e
      exact ⟨v, rfl, h1⟩
    | false =>
      rw [hf] at e
      exact zip_lookup h2 e
section
variable {X : Cx} {a : Expr} {f : Str} {fa : RE} {pos : Pos}
theorem dr_attr (ha : DR X a fa) (hb : attributeBase a f X.env (eval a X.env) = eval a X.env := by rfl) :
    DR X (.Attribute a f pos) (rAttr f fa) := PE.imp (pe_fld ha hb) fun σ H Q ⟨δ, G, γ, d, S, ef, q⟩ => by
  simp only [rAttr, Option.bind_eq_some_iff] at ef
  obtain ⟨x, e1, e2⟩ := ef
  split at e2
  · rename_i C ns ds
    refine ⟨δ, G, γ, _, S, e1, fun v H1 s1 r1 => ?_⟩
    simp only [R] at r1
    obtain ⟨p, dx, vs, C', rfl, h1, hc, h2⟩ := r1
    obtain ⟨w, h3, h4⟩ := zip_lookup h2 e2
    exact ⟨p, C', dx, _, w, rfl, h1, hc.1.2.1, hc.1.2.2.1 f (zip_mem e2), h3, q w H1 s1 h4⟩
  · cases e2
end
end FL
namespace FL
open PySem PySem.Spec PyProof.Rows L2

/-! ### operators of more than one kind -/
def fOr (g1 g2 : Hs → D → D → Option D) : Hs → D → D → Option D := fun G x y => match g1 G x y with
  | some d => some d
  | none => g2 G x y
def rOr2 (r1 r2 : R2) : R2 := fun x y H Q => r1 x y H Q ∨ r2 x y H Q
theorem opr_or {X : Cx} {f : Value → Value → Sem Value} {r1 r2 : R2} (h1 : OpR X f r1) (h2 : OpR X f r2) : OpR X f (rOr2 r1 r2) := by
  intro pins s σ H x y v u Q I rx ry h
  rcases h with h | h
  · exact h1 pins s σ H x y v u Q I rx ry h
  · exact h2 pins s σ H x y v u Q I rx ry h
theorem opg_or {K : FK} {r1 r2 : R2} {g1 g2 : Hs → D → D → Option D} (h1 : OpG K r1 g1) (h2 : OpG K r2 g2) : OpG K (rOr2 r1 r2) (fOr g1 g2) := by
  intro G γ H dx dy d v u Q r rx ry e q
  unfold fOr at e
  split at e
  · rename_i d' e'
    cases e
    exact .inl (h1 G γ H dx dy d v u Q r rx ry e' q)
  · exact .inr (h2 G γ H dx dy d v u Q r rx ry e q)
/-- list * int, a new frozen list -/
def fRepL : Hs → D → D → Option D := fun G x y => match y with
  | .int k => (lstG G x).bind fun ds => if k < 1000000000 ∧ -1000000000 < k ∧ ds.length * k.toNat ≤ 10000000 then some (.fl (List.replicate k.toNat ds).flatten) else none
  | _ => none
section
variable {X : Cx}
theorem op_repR : OpR X (binaryOp .Mult) rRepR := by
  intro pins s σ H x y v u Q I rx ry h
  obtain ⟨l, k, xs, rfl, rfl, hH, h1, h2, hz, q⟩ := h
  cases rx
  obtain ⟨t, rfl⟩ := ry
  obtain ⟨z, its, n, r, hl, e⟩ := lstR I hH
  have hlen : its.toArray.size * k.toNat ≤ sizeLine := by rw [List.size_toArray, ← hl]; exact hz
  have hcap : ¬ its.toArray.size * k.toNat > (2 ^ 63 - 1) / 8 := by
    have : (sizeLine : Nat) ≤ (2 ^ 63 - 1) / 8 := by decide
    omega
  have hfit : ¬ (!Builtin.List.listFitsIndex k) = true := by
    rw [fitsIndex_both h1 h2]
    exact Bool.false_ne_true
  have hlong : ¬ Builtin.List.listTooLong (its.toArray.size * k.toNat) = true := by
    rw [notLongL hlen]
    exact Bool.false_ne_true
  have hnew : List.foldl (fun x1 x2 => x1 ++ x2) #[] (List.replicate (if its.toArray.isEmpty = true then 0 else k.toNat) its.toArray) = (List.replicate k.toNat its).flatten.toArray := by
    have f0 : ∀ m : Nat, List.foldl (fun x1 x2 => x1 ++ x2) #[] (List.replicate m its.toArray) = (List.replicate m its).flatten.toArray := fun m => by
      have := foldl_rep its m []
      rw [List.nil_append] at this
      exact this
    rw [f0]
    cases its with
    | nil => simp
    | cons a r' => rw [if_neg (by simp)]
  refine wpAny_binaryOp_repeat_ref (T := "list") (U := "int") (by decide) ⟨_, e, rfl⟩ (fun s' => typeIs_int s' k t) noFill_list_mul F.fills_int_mul F.slot_int_rmul repeat_list F.slot_int_index.lookup
    (call_meets F.slot_int_rmul (typeIs_int s k t) F.entry_int_rmul (F.args_int_rmul_2 _ _) (int___rmul___int_list k t l its.toArray n)
      ⟨e, rfl, ⟨_, e, rfl⟩, call_meets F.slot_list_mul ⟨_, e, rfl⟩ F.entry_list_mul (F.args_list_mul_2 _ _) (AutoListH.list___mul___list_int_3 l its.toArray n k t hfit hcap hlong) ⟨e, ?_⟩⟩)
  rw [hnew]
  exact ⟨.ref _, _, I.lnew (t' := s.toks) (r.rep k.toNat) (by rw [PyProof.Rows.lm_len_rep_flat, Nat.mul_comm]; exact hz), rfl, q _ I.fresh⟩
end
theorem fRepL_ok {K : FK} : OpG K (fun x y H Q => rRepR x y H fun v H1 => ∃ p vs, v = .ref p ∧ H1 p = some (.lst vs) ∧ ∀ od, Q v (upd H1 p (.frz od (.lst vs)))) fRepL := by
  intro G γ H dx dy d v u Q r rx ry e q
  unfold fRepL at e
  split at e
  case h_2 => cases e
  rename_i k
  obtain ⟨ds, e1, e2⟩ := Option.bind_eq_some_iff.mp e
  split at e2
  case isFalse => cases e2
  rename_i hl
  cases e2
  simp only [R] at ry
  subst ry
  obtain ⟨p, vs, rfl, h1, h2⟩ := lstG_ok r rx e1
  refine ⟨p, k, vs, rfl, rfl, h1, by omega, by omega, line7' (by rw [← h2.length]; exact hl.2.2), fun t ht => frz_end ht ?_ q⟩
  clear hl
  generalize k.toNat = n
  induction n with
  | zero => exact Rs.nil
  | succ n ih =>
    rw [List.replicate_succ, List.replicate_succ, List.flatten_cons, List.flatten_cons]
    exact h2.append ih
abbrev OpB (X : Cx) (f : Value → Value → Sem Value) (g : Hs → D → D → Option D) : Prop := ∃ r : R2, OpR X f r ∧ OpG X.F r g
theorem OpB.or {X : Cx} {f : Value → Value → Sem Value} {g1 g2 : Hs → D → D → Option D} (h1 : OpB X f g1) (h2 : OpB X f g2) : OpB X f (fOr g1 g2) := by
  obtain ⟨r1, a1, b1⟩ := h1
  obtain ⟨r2, a2, b2⟩ := h2
  exact ⟨_, opr_or a1 a2, opg_or b1 b2⟩
abbrev g_addA := fOr fAdd (fOr fCatT fCatL)
abbrev g_mulA := fOr fMul fRepL
abbrev g_sub := fSub
abbrev g_mod := fMod
abbrev g_div := fDiv
abbrev g_ltA := fOr fLt fLtD
abbrev g_le := fLe
abbrev g_gtA := fOr fGt fGtD
abbrev g_geA := fOr fGe fGeD
abbrev g_eq := fEq
abbrev g_ne := fNe
abbrev g_in_ := fIn false
abbrev g_nin := fIn true
abbrev g_isA := fOr fIs fIsN
abbrev g_isnA := fOr fIsNot fNotN
section
variable {X : Cx} {j : Nat}
theorem w_addA (hr : RoomG j X.A) : OpB X (binaryOp .Add) g_addA := .or ⟨_, o_add.1, o_add.2⟩ (.or ⟨_, op_catA, fCatT_ok⟩ ⟨_, opr_frz op_catR, fCatL_ok⟩)
theorem w_mulA (hr : RoomG j X.A) : OpB X (binaryOp .Mult) g_mulA := .or ⟨_, o_mul.1, o_mul.2⟩ ⟨_, opr_frz op_repR, fRepL_ok⟩
theorem w_sub (hr : RoomG j X.A) : OpB X (binaryOp .Sub) g_sub := ⟨_, o_sub.1, o_sub.2⟩
theorem w_mod (hr : RoomG j X.A) : OpB X (binaryOp .Mod) g_mod := ⟨_, o_mod.1, o_mod.2⟩
theorem w_div (hr : RoomG j X.A) : OpB X (binaryOp .FloorDiv) g_div := ⟨_, o_div.1, o_div.2⟩
theorem w_ltA (hr : RoomG j X.A) : OpB X (compareOp .Lt) g_ltA := .or ⟨_, o_lt.1, o_lt.2⟩ ⟨_, op_ltD (room64 hr.toRoom), fLtD_ok⟩
theorem w_le (hr : RoomG j X.A) : OpB X (compareOp .LtE) g_le := ⟨_, o_le.1, o_le.2⟩
theorem w_gtA (hr : RoomG j X.A) : OpB X (compareOp .Gt) g_gtA := .or ⟨_, o_gt.1, o_gt.2⟩ ⟨_, op_gtD (room64 hr.toRoom), fGtD_ok⟩
theorem w_geA (hr : RoomG j X.A) : OpB X (compareOp .GtE) g_geA := .or ⟨_, o_ge.1, o_ge.2⟩ ⟨_, op_geD (room64 hr.toRoom), fGeD_ok⟩
theorem w_eq (hr : RoomG j X.A) : OpB X (compareOp .Eq) g_eq := ⟨_, op_eqD (room64 hr.toRoom), fEq_ok⟩
theorem w_ne (hr : RoomG j X.A) : OpB X (compareOp .NotEq) g_ne := ⟨_, op_neD (room64 hr.toRoom), fNe_ok⟩
theorem w_in_ (hr : RoomG j X.A) : OpB X (compareOp .In) g_in_ := ⟨_, op_inX (room65 hr.toRoom), fIn_ok⟩
theorem w_nin (hr : RoomG j X.A) : OpB X (compareOp .NotIn) g_nin := ⟨_, op_notInX (room65 hr.toRoom), fIn_ok⟩
theorem w_isA (hr : RoomG j X.A) : OpB X (compareOp .Is) g_isA := .or ⟨_, op_is_bl, fIs_ok⟩ ⟨_, op_isN, fIsN_ok⟩
theorem w_isnA (hr : RoomG j X.A) : OpB X (compareOp .IsNot) g_isnA := .or ⟨_, op_isnot_bl, fIsNot_ok⟩ ⟨_, op_notN, fNotN_ok⟩
end
end FL
namespace FL
open PySem PySem.Spec PyProof.Rows L2

section
variable {X : Cx} {a b c e : Expr} {es rest : List Expr} {pos p2 : Pos} {fa fb fc : RE} {ga gb gc : EE} {fs : RA} {gs : EA}
/-! ### - int -/
def rNeg (fa : RE) : RE := fun δ G => (fa δ G).bind fun x => match x with
  | .int i => some (.int (-i))
  | _ => none
theorem dr_neg (ha : DR X a fa) : DR X (.UnaryOp .USub a pos) (rNeg fa) := PE.imp (pe_un un_neg ha) fun σ H Q ⟨δ, G, γ, d, S, ef, q⟩ => by
  simp only [rNeg, Option.bind_eq_some_iff] at ef
  obtain ⟨x, e1, e2⟩ := ef
  split at e2
  · cases e2
    refine ⟨δ, G, γ, _, S, e1, fun v H1 s1 r1 => ?_⟩
    simp only [R] at r1
    exact ⟨_, r1, q _ H1 s1 (by simp only [R])⟩
  · cases e2

/-! ### t[a:b:c] of a tuple -/
def stepL {α : Type} (xs : List α) (lo hi : Option Int) (st : Int) : List α := (List.range (Builtin.Slice.slicePlaces (Builtin.Slice.sliceAdjust lo hi st (xs.length : Int)).1 (Builtin.Slice.sliceAdjust lo hi st (xs.length : Int)).2 st)).filterMap fun (k : Nat) => xs[((Builtin.Slice.sliceAdjust lo hi st (xs.length : Int)).1 + (k : Int) * st).toNat]?
def stepC {α : Type} (xs : List α) (lo hi : Option Int) (st : Int) : Nat := Builtin.Slice.slicePlaces (Builtin.Slice.sliceAdjust lo hi st (xs.length : Int)).1 (Builtin.Slice.sliceAdjust lo hi st (xs.length : Int)).2 st
theorem stepL_len {α : Type} (xs : List α) (lo hi : Option Int) (st : Int) : (stepL xs lo hi st).length ≤ stepC xs lo hi st := by
  unfold stepL
  refine Nat.le_trans (List.length_filterMap_le _ _) ?_
  rw [List.length_range]
  exact Nat.le_refl _
theorem Rs.picks {K : FK} {γ : List Addr} {H : Hp} {ds : List D} {vs : List V} (h : Rs K γ H ds vs) (f : Nat → Nat) : ∀ ks : List Nat, Rs K γ H (ks.filterMap fun k => ds[f k]?) (ks.filterMap fun k => vs[f k]?)
  | [] => Rs.nil
  | k :: ks => by
    rw [List.filterMap_cons, List.filterMap_cons]
    cases hd : ds[f k]? with
    | none =>
      have : vs[f k]? = none := by
        rw [List.getElem?_eq_none_iff] at hd ⊢
        rw [← h.length]
        exact hd
      rw [this]
      exact Rs.picks h f ks
    | some d =>
      obtain ⟨v, e1, e2⟩ := h.get hd
      rw [e1]
      exact Rs.cons e2 (Rs.picks h f ks)
theorem step_rs {K : FK} {γ : List Addr} {H : Hp} {ds : List D} {vs : List V} (h : Rs K γ H ds vs) (lo hi : Option Int) (st : Int) : Rs K γ H (stepL ds lo hi st) (stepL vs lo hi st) := by
  unfold stepL
  rw [h.length]
  exact h.picks (fun k => ((Builtin.Slice.sliceAdjust lo hi st (vs.length : Int)).1 + (k : Int) * st).toNat) _
theorem vals_picks {vs : List V} {us : List Value} (h : Vals vs us) (f : Nat → Nat) : ∀ ks : List Nat, Vals (ks.filterMap fun k => vs[f k]?) (ks.filterMap fun k => us[f k]?)
  | [] => .nil
  | k :: ks => by
    rw [List.filterMap_cons, List.filterMap_cons]
    cases hd : vs[f k]? with
    | none =>
      have : us[f k]? = none := by
        rw [List.getElem?_eq_none_iff] at hd ⊢
        rw [← h.length]
        exact hd
      rw [this]
      exact vals_picks h f ks
    | some d =>
      obtain ⟨v, e1, e2⟩ := h.get hd
      rw [e1]
      exact .cons e2 (vals_picks h f ks)
section
variable {prog : Program} {w : World} {A : Around} {E : Value → Shared → Prop} {s : Shared}
theorem sliceApplied_st {sl : Addr} {vl vu vs : Value} {lo hi : Option Int} {st : Int} {n : Nat} {Q : Int × Int × Nat → Shared → Prop} (hs : s.heap.IsSliceOf sl vl vu vs) (pl : IsPart vl lo) (pu : IsPart vu hi) (ps : IsPart vs (some st)) (h0 : st ≠ 0)
    (h : Q ((Builtin.Slice.sliceAdjust lo hi st (n : Int)).1, st, Builtin.Slice.slicePlaces (Builtin.Slice.sliceAdjust lo hi st (n : Int)).1 (Builtin.Slice.sliceAdjust lo hi st (n : Int)).2 st) s) : wpAny (model prog w) A (Builtin.Slice.sliceApplied (.ref sl) (pure (n : Int))) Q E s := by
  obtain ⟨os, hos, hcs, hds⟩ := id hs
  unfold Builtin.Slice.sliceApplied Builtin.Slice.sliceFields
  refine wpAny_bind (wpAny_bind (wpAny_field hos hds (x := vl) rfl (wpAny_bind (wpAny_field hos hds (x := vu) rfl (wpAny_bind (wpAny_field hos hds (x := vs) rfl (wpAny_pure ?_)))))))
  refine wpAny_bind (HT.slicePart_ ps ?_)
  show wpAny _ _ (if (st == 0) = true then _ else _) _ _ s
  rw [if_neg (by simpa using h0)]
  refine wpAny_bind (HT.slicePart_ pl (wpAny_bind (HT.slicePart_ pu (wpAny_bind (wpAny_pure ?_)))))
  exact wpAny_pure h
theorem getItem_tuple_st {t sl : Addr} {items : Array Value} {vl vu vs : Value} {lo hi : Option Int} {st : Int} {Q : Value → Shared → Prop} (ht : IsTup s.heap t items) (hs : s.heap.IsSliceOf sl vl vu vs) (pl : IsPart vl lo) (pu : IsPart vu hi) (ps : IsPart vs (some st)) (h0 : st ≠ 0) (h1 : st ≠ 1)
    (hc : stepC items.toList lo hi st ≤ sizeLine)
    (h : Q (.ref s.heap.objs.size) { s with heap := s.heap.push { cls := .type "tuple", data := .seq (stepL items.toList lo hi st).toArray } }) : wpAny (model prog w) A (getItem (.ref t) (.ref sl)) Q E s := by
  have hsz : sizeOk (.seq (stepL items.toList lo hi st).toArray) := by
    show (stepL items.toList lo hi st).toArray.size ≤ sizeLine
    rw [List.size_toArray]
    exact Nat.le_trans (stepL_len _ _ _ _) hc
  obtain ⟨os, hos, hcs, hds⟩ := id hs
  have hTs : s.TypeIs (.ref sl) "slice" := ⟨os, hos, hcs⟩
  unfold getItem
  try with_reducible refine wpAny_holding ?_
  first | refine wpAny_bind (wpAny_pure ?_) | skip
  refine wpAny_bind (wpAny_sequenceKey ht.typeIs (by decide) ?_)
  refine wpAny_bind (wpAny_callSpecial?_slot (name := Str.ofString "__getitem__") ht.typeIs PyProof.Rows.slot_tuple_getitem
    (wpAny_call_entry PyProof.Rows.slot_tuple_getitem ht.typeIs entry_tuple_getitem ?_ (args_tuple_getitem _ _)))
  show wpAny _ _ (Builtin.Tuple.tupleItemsOf (.ref t) >>= _) _ _ s
  refine wpAny_bind (tupleItemsOf_ ht ?_)
  refine wpAny_bind (wpAny_typeOf hTs ?_)
  rw [if_pos (by decide)]
  refine wpAny_bind (sliceApplied_st hs pl pu ps h0 ?_)
  have hno : ∀ (u : Int) (m : Nat), ¬ ((u == 0 && st == 1 && m == items.size) = true) := fun u m => by
    have : (st == 1) = false := by simpa using h1
    rw [this]
    simp
  show wpAny _ _ (if ((Builtin.Slice.sliceAdjust lo hi st (items.size : Int)).1 == 0 && st == 1 && _ == items.size) = true then _ else _) _ _ s
  rw [if_neg (hno _ _)]
  have e : ((List.range (Builtin.Slice.slicePlaces (Builtin.Slice.sliceAdjust lo hi st (items.size : Int)).1 (Builtin.Slice.sliceAdjust lo hi st (items.size : Int)).2 st)).filterMap fun (k : Nat) => items[((Builtin.Slice.sliceAdjust lo hi st (items.size : Int)).1 + (k : Int) * st).toNat]?).toArray = (stepL items.toList lo hi st).toArray := by
    unfold stepL
    rw [Array.length_toList]
    simp only [Array.getElem?_toList]
  rw [e]
  first
    | exact wpAny_bind (m := Builtin.Tuple.tupleExact _) (wpAny_newObj_type (wpAny_pure ⟨_, rfl, wpAny_pure h⟩) hsz)
    | exact wpAny_bind (m := Builtin.Tuple.tupleExact _) (wpAny_newObj_type (wpAny_bind (wpAny_pure (wpAny_pure ⟨_, rfl, wpAny_pure h⟩))) hsz)
    | exact wpAny_bind (wpAny_bind (m := Builtin.Tuple.tupleExact _) (wpAny_newObj_type (wpAny_pure (wpAny_pure ⟨_, rfl, wpAny_pure h⟩)) hsz))
    | exact wpAny_bind (wpAny_bind (m := Builtin.Tuple.tupleExact _) (wpAny_newObj_type (wpAny_pure ⟨_, rfl, wpAny_pure h⟩) hsz))
end
def tSlT3 (K : FK) (te : TE) (tl th ts : TO) : TE := fun σ H Q => te σ H fun x H1 => tl σ H1 fun l H2 => th σ H2 fun u H3 => ts σ H3 fun o H4 => ∃ p xs st, x = .ref p ∧ SqT K H4 p xs ∧ o = some st ∧ st ≠ 0 ∧ st ≠ 1 ∧ stepC xs l u st ≤ sizeLine ∧ ∀ q, H4 q = none → Q (.ref q) (upd H4 q (.tup (stepL xs l u st)))
theorem pe_slT3 {lo hi : Option Expr} {st : Expr} {te : TE} {tl th ts : TO} (he : PE X e te) (hl : PO X lo tl) (hu : PO X hi th) (hs : PO X (some st) ts) : PE X (.Subscript e (.Slice lo hi (some st) p2) pos) (tSlT3 X.F te tl th ts) := by
  refine ⟨fun pins s σ H Q I h => ?_⟩
  refine Subscript_ (thn (he.run pins s σ H _ I h) fun v s1 ⟨x, H1, I1, r1, q1⟩ => ?_)
  refine wpAny_Slice (thn (hl.run pins s1 σ H1 _ I1 q1) fun vl s2 ⟨l, H2, I2, pl, q2⟩ => ?_)
  refine thn (hu.run pins s2 σ H2 _ I2 q2) fun vu s3 ⟨u, H3, I3, pu, q3⟩ => ?_
  refine thn (hs.run pins s3 σ H3 _ I3 q3) fun vs s4 ⟨o, H4, I4, ps, q4⟩ => ?_
  obtain ⟨p, xs, k, rfl, hx, rfl, h0, h1, hc, q⟩ := q4
  cases r1
  have I5 : Inv X pins σ H4 { s4 with heap := s4.heap.push { cls := .type "slice", data := .fields #[vl, vu, vs] } } := I4.kept (t' := s4.toks) fun b ob q => Heap.get?_push_of_some _ q
  obtain ⟨its, r, ht, hz⟩ := I5.tuple hx
  have hlen := r.length
  show wpAny (model X.prog X.w) X.A (subscriptTail e (.Slice lo hi (some st) p2) (.ref p) (.ref s4.heap.objs.size)) (EP X pins σ Q) X.xe { s4 with heap := s4.heap.push { cls := .type "slice", data := .fields #[vl, vu, vs] } }
  refine tail_any (ops := [.ref p, .ref s4.heap.objs.size]) ht.typeIs (PyProof.Rows.slot_tuple_getitem.lookup) ?_ (by with_unfolding_all rfl)
  have ec : stepC its l u k = stepC xs l u k := by
    unfold stepC
    rw [hlen]
  refine getItem_tuple_st ht (Heap.IsSliceOf.new _ vl vu vs) pl pu ps h0 h1 (by rw [List.toList_toArray, ec]; exact hc) ?_
  rw [List.toList_toArray]
  have rp : Vals (stepL xs l u k) (stepL its l u k) := by
    unfold stepL
    rw [hlen]
    exact vals_picks r (fun j => ((Builtin.Slice.sliceAdjust l u k (its.length : Int)).1 + (j : Int) * k).toNat) _
  refine ⟨.ref _, _, I5.laid (t' := s4.toks) (o := .tup (stepL xs l u k)) (fun b ob q => Heap.get?_push_of_some _ q) (Nat.le_refl _) ?_, rfl, q _ (I5.hok.fresh (Nat.le_refl _))⟩
  exact ⟨Nat.le_trans (stepL_len _ _ _ _) hc, _, rp, ⟨_, Heap.get?_push_size _ rfl, rfl, _, rfl⟩⟩
def rSt (fa : RE) (fl fh fs : Env' → Hs → Option (Option Int)) : RE := fun δ G => (fa δ G).bind fun x => (fl δ G).bind fun l => (fh δ G).bind fun h => (fs δ G).bind fun o => match x, o with
  | .tup ds, some st => if st ≠ 0 ∧ st ≠ 1 ∧ stepC ds l h st ≤ 10000000 then some (.tup (stepL ds l h st)) else none
  | _, _ => none
theorem dr_st {lo hi : Option Expr} {st : Expr} {fl fh fs : Env' → Hs → Option (Option Int)} (he : DR X a fa) (hl : DP X lo fl) (hu : DP X hi fh) (hs : DP X (some st) fs) : DR X (.Subscript a (.Slice lo hi (some st) p2) pos) (rSt fa fl fh fs) := PE.imp (pe_slT3 he hl hu hs) fun σ H Q ⟨δ, G, γ, d, S, ef, q⟩ => by
  simp only [rSt, Option.bind_eq_some_iff] at ef
  obtain ⟨x, e1, l, e2, h, e3, o, e4, e5⟩ := ef
  split at e5
  case h_2 => cases e5
  rename_i ds st' 
  split at e5
  case isFalse => cases e5
  rename_i hc
  cases e5
  refine ⟨δ, G, γ, _, S, e1, fun v H1 s1 r1 => ⟨δ, G, γ, l, S.same s1, e2, fun H2 s2 => ⟨δ, G, γ, h, (S.same s1).same s2, e3, fun H3 s3 => ⟨δ, G, γ, _, ((S.same s1).same s2).same s3, e4, fun H4 s4 => ?_⟩⟩⟩⟩
  have s14 := s1.trans (s2.trans (s3.trans s4))
  have r4 := R.same s4 (R.same s3 (R.same s2 r1))
  simp only [R] at r4
  obtain ⟨p, vs, rfl, h1, h2⟩ := r4
  refine ⟨p, vs, st', rfl, h1, rfl, hc.1, hc.2.1, ?_, fun t ht => ?_⟩
  · have : stepC vs l h st' = stepC ds l h st' := by
      unfold stepC
      rw [h2.length]
    rw [this]
    exact line7' hc.2.2
  · obtain ⟨s5, r5⟩ := new_tup ht (step_rs h2 l h st')
    exact q _ _ (s14.trans s5) r5
def rSlT (fa : RE) (fl fh : Env' → Hs → Option (Option Int)) : RE := fun δ G => (fa δ G).bind fun x => (fl δ G).bind fun l => (fh δ G).bind fun h => match x with
    | .tup ds => some (.tup (cutD ds l h))
    | _ => none
theorem dr_slT {lo hi : Option Expr} {fl fh : Env' → Hs → Option (Option Int)} (he : DR X a fa) (hl : DP X lo fl) (hu : DP X hi fh) : DR X (.Subscript a (.Slice lo hi none p2) pos) (rSlT fa fl fh) := dr_sl_t he hl hu
def rSlL (fa : RE) (fl fh : Env' → Hs → Option (Option Int)) : RE := fun δ G => (fa δ G).bind fun x => (fl δ G).bind fun l => (fh δ G).bind fun h => (lstG G x).bind fun ds => some (.fl (cutD ds l h))
theorem dr_slL {lo hi : Option Expr} {fl fh : Env' → Hs → Option (Option Int)} (he : DR X a fa) (hl : DP X lo fl) (hu : DP X hi fh) : DR X (.Subscript a (.Slice lo hi none p2) pos) (rSlL fa fl fh) := dr_sl_l he hl hu
end
end FL
namespace FL
open PySem PySem.Spec PyProof.Rows L2

section
variable {X : Cx} {a b c e tg iter elt : Expr} {ifs : List Expr} {scope : Scope} {es rest : List Expr} {pos spos py : Pos} {fa fb fc : RE} {ga gb gc : EE} {fs : RA} {gs : EA} {st : Stmt} {i : Nat} {t : TE} {p : Bool}
/-! ### range(i, j, c) -/
def rangeS (lo c : Int) (n : Nat) : List D := (List.range n).map fun i => .int (lo + (i : Nat) * c)
def rng3 : List D → Option (List D)
  | [.int i, .int j, .int c] => if c ≠ 0 ∧ c.natAbs < 1073741824 ∧ Builtin.Range.small i j c = true ∧ 0 ≤ Builtin.Range.rangeSize i j c then some (rangeS i c (Builtin.Range.rangeSize i j c).toNat) else none
  | _ => none
theorem itOk_rangeC {K : FK} {γ : List Addr} {H : Hp} {p : Bool} (lo c : Int) (n : Nat) : ItOk K p γ (rangeS lo c n) (Itc lo c n) H := by
  intro H1 s i
  unfold rangeS
  refine ⟨fun hi => (by simpa using hi : i < n), fun hi => (by simpa using hi : n ≤ i), fun hlt x H2 y => ?_⟩
  obtain ⟨rfl, rfl⟩ := y
  refine ⟨Same.refl _, ?_⟩
  have hi : i < n := by simpa using hlt
  exact ⟨.int (lo + i * c), by simp [hi], by simp only [R]⟩
theorem dir_rng3 {q : Pos} (ha : DRA X [a, b, c] fs) (hm : X.mg "range" = none) (hg : Gl X "range" := by rfl)
    (hs : starEach [a, b, c] X.env = (false, eval a X.env) :: starEach [b, c] X.env := by rfl) (hpl : (backTo pos (starEach [b, c] X.env)).any (·.1) = false := by rfl) :
    DIR X p tg (.Call (.Name "range" q) [a, b, c] [] pos) (iRgR rng3 fs) := PI.imp (pi_range3 hg hm ha hs hpl) fun σ H Q ⟨δ, G, γ, ds, S, ef, q⟩ => by
  obtain ⟨xs, e1, e2⟩ := Option.bind_eq_some_iff.mp ef
  refine ⟨δ, G, γ, xs, S, e1, fun vs H1 s1 r1 => ?_⟩
  unfold rng3 at e2
  split at e2
  case h_2 => cases e2
  rename_i i j k
  split at e2
  case isFalse => cases e2
  rename_i hc
  cases e2
  obtain ⟨v, r', rfl, h1, h2⟩ := r1.of_cons
  obtain ⟨v2, v3, rfl, h3, h4⟩ := h2.two
  simp only [R] at h1 h3 h4
  subst h1 h3 h4
  exact ⟨i, j, k, _, rfl, ⟨hc.1, hc.2.1, hc.2.2.1, (Int.toNat_of_nonneg hc.2.2.2).symm⟩, q _ H1 s1 (itOk_rangeC i k _)⟩

/-! ### name = [..] on one line -/
def tFrzI (i : Nat) (t : TS) : TS := fun D σ H => t { D with nx := fun σ' H' => ∃ p vs, σ'[i]? = some (some (.ref p)) ∧ H' p = some (.lst vs) ∧ ∀ od, D.nx σ' (upd H' p (.frz od (.lst vs))) } σ H
theorem ps_frzI {t : TS} (h : PS X st t) : PS X st (tFrzI i t) := by
  refine ⟨fun pins s σ H D I hw => ?_⟩
  refine thn (h.run pins s σ H _ I hw) fun f s1 q => ?_
  cases f with
  | next =>
    obtain ⟨σ', H', I1, p, vs, _, hp, q⟩ := q
    obtain ⟨od, I2⟩ := I1.lock hp True.intro
    exact ⟨σ', _, I2, q od⟩
  | brk => exact q
  | cont => exact q
  | ret u => exact q
theorem ds_setE (himp : ∀ σ H Q, lE X.F ga σ H Q → t σ H Q) (h : PS X st (tAsg t (gName i))) : DS X st (sAsg ga (setN i)) := PS.imp h fun D σ H hh => himp σ H _ (asg_e (gg_name i) D σ H hh)
theorem ds_setF (himp : ∀ σ H Q, lE X.F ga σ H Q → tFrz t σ H Q) (h : PS X st (tAsg t (gName i))) : DS X st (sAsg ga (setN i)) := PS.imp (ps_frzI (i := i) h) fun D σ H hh => by
  have hl : i < σ.length := by
    obtain ⟨δ, G, γ, k, δ', G', S, ef, q⟩ := hh
    simp only [sAsg, Option.bind_eq_some_iff, Option.some.injEq, Prod.mk.injEq] at ef
    obtain ⟨⟨d, G1⟩, e1, δ1, e2, rfl, rfl, rfl⟩ := ef
    unfold setN at e2
    split at e2
    · rw [← S.dl]; assumption
    · cases e2
  have h2 : lE X.F ga σ H (fun v H1 => D.nx (σ.set i (some v)) H1) := asg_e (gg_name i) D σ H hh
  have h3 := himp σ H _ h2
  have e : (fun (x : V) (H1 : Hp) => gName i x σ H1 (fun σ' H' => ∃ p vs, σ'[i]? = some (some (.ref p)) ∧ H' p = some (.lst vs) ∧ ∀ od, D.nx σ' (upd H' p (.frz od (.lst vs))))) =
      fun v H1 => ∃ p vs, v = V.ref p ∧ H1 p = some (.lst vs) ∧ ∀ od, D.nx (σ.set i (some v)) (upd H1 p (.frz od (.lst vs))) := by
    funext x H1
    show (∃ p vs, (σ.set i (some x))[i]? = some (some (V.ref p)) ∧ H1 p = some (HO.lst vs) ∧ ∀ od, D.nx (σ.set i (some x)) (upd H1 p (.frz od (.lst vs)))) = _
    rw [List.getElem?_set_self hl]
    apply propext
    constructor
    · rintro ⟨p, vs, e, h⟩
      simp only [Option.some.injEq] at e
      exact ⟨p, vs, e, h⟩
    · rintro ⟨p, vs, e, h⟩
      exact ⟨p, vs, by rw [e], h⟩
  show t σ H _
  rw [e]
  exact h3
theorem lE_ofR {K : FK} {σ : L2.St} {H : Hp} {Q : VK} (h : lE K (ofR fa) σ H Q) : lR K fa σ H Q := by
  obtain ⟨δ, G, γ, d, G', S, ef, q⟩ := h
  simp only [ofR, Option.bind_eq_some_iff, Option.some.injEq, Prod.mk.injEq] at ef
  obtain ⟨d', e1, e2, e3⟩ := ef
  subst e2 e3
  exact ⟨δ, G, γ, d', S, e1, fun v H' s r => q v H' γ (Aft.of_same s) (S.same s) r⟩
section
variable {set : Sets} {g : TG} {is : List Nat} {y : Str}
theorem ds_setLcR (i : Nat) {src : RA} {cond : RT} {fe : RE} (own : List (Str × Nat)) (hc : X.calm = true) (hN : X.N.Nodup) (hi : DIR X true tg iter src) (ok : BlkOk X.N X.env.scope scope own)
    (hp : ∀ (s : Shared) (H : Hp) (C : Addr) (cl : List (Str × Addr)) (fp : List Addr), PG (X.blk s H scope (compEnvC scope cl C X.env) fp) tg g) (hg : GG X.F g set is)
    (ht : ∀ (s : Shared) (H : Hp) (C : Addr) (cl : List (Str × Addr)) (fp : List Addr), DRTs (X.blk s H scope (compEnvC scope cl C X.env) fp) ifs cond)
    (he : ∀ (s : Shared) (H : Hp) (C : Addr) (cl : List (Str × Addr)) (fp : List Addr), DR (X.blk s H scope (compEnvC scope cl C X.env) fp) elt fe)
    (hv : ∀ i ∈ is, i ∈ own.map (·.2) := by decide) (hs : ∀ x, foldedSetIterable iter X.env x = pure x := by intro _; rfl)
    (hy : X.N[i]? = some y := by rfl) (hyl : X.env.scope.names.lookup y = some .local := by rfl) (hsw : swapsWith (.ListComp elt [⟨tg, iter, ifs, 0⟩] scope pos) (some (.Name y py)) spos.line X.env = pure true := by rfl) :
    DS X (.Assign [.Name y py] (.ListComp elt [⟨tg, iter, ifs, 0⟩] scope pos) spos) (sAsg (ofR (rLc src set cond fe (own.map (·.2)))) (setN i)) :=
  ds_setF (fun σ H Q h => lc_r hg hv σ H Q (lE_ofR h)) (ps_setLc hc hN hy hyl hsw hi ok hp ht he hs)
theorem ds_setLcE (i : Nat) {src : EA} {cond : ET} {fe : EE} (own : List (Str × Nat)) (hc : X.calm = true) (hN : X.N.Nodup) (hi : DI X false tg iter src) (ok : BlkOk X.N X.env.scope scope own)
    (hp : ∀ (s : Shared) (H : Hp) (C : Addr) (cl : List (Str × Addr)) (fp : List Addr), PG (X.blk s H scope (compEnvC scope cl C X.env) fp) tg g) (hg : GG X.F g set is)
    (ht : ∀ (s : Shared) (H : Hp) (C : Addr) (cl : List (Str × Addr)) (fp : List Addr), DETs (X.blk s H scope (compEnvC scope cl C X.env) fp) ifs cond)
    (he : ∀ (s : Shared) (H : Hp) (C : Addr) (cl : List (Str × Addr)) (fp : List Addr), DE (X.blk s H scope (compEnvC scope cl C X.env) fp) elt fe)
    (hv : ∀ i ∈ is, i ∈ own.map (·.2) := by decide) (hs : ∀ x, foldedSetIterable iter X.env x = pure x := by intro _; rfl)
    (hy : X.N[i]? = some y := by rfl) (hyl : X.env.scope.names.lookup y = some .local := by rfl) (hsw : swapsWith (.ListComp elt [⟨tg, iter, ifs, 0⟩] scope pos) (some (.Name y py)) spos.line X.env = pure true := by rfl) :
    DS X (.Assign [.Name y py] (.ListComp elt [⟨tg, iter, ifs, 0⟩] scope pos) spos) (sAsg (eLc src set cond fe (own.map (·.2))) (setN i)) :=
  ds_setF (fun σ H Q h => lc_e hg hv σ H Q h) (ps_setLc hc hN hy hyl hsw hi ok hp ht he hs)
theorem ds_setLcL (i : Nat) {src : EA} {cond : ET} {fe : EE} (own : List (Str × Nat)) (hc : X.calm = true) (hN : X.N.Nodup) (hi : DI X false tg iter src) (ok : BlkOk X.N X.env.scope scope own)
    (hp : ∀ (s : Shared) (H : Hp) (C : Addr) (cl : List (Str × Addr)) (fp : List Addr), PG (X.blk s H scope (compEnvC scope cl C X.env) fp) tg g) (hg : GG X.F g set is)
    (ht : ∀ (s : Shared) (H : Hp) (C : Addr) (cl : List (Str × Addr)) (fp : List Addr), DETs (X.blk s H scope (compEnvC scope cl C X.env) fp) ifs cond)
    (he : ∀ (s : Shared) (H : Hp) (C : Addr) (cl : List (Str × Addr)) (fp : List Addr), DE (X.blk s H scope (compEnvC scope cl C X.env) fp) elt fe)
    (hv : ∀ i ∈ is, i ∈ own.map (·.2) := by decide) (hs : ∀ x, foldedSetIterable iter X.env x = pure x := by intro _; rfl)
    (hy : X.N[i]? = some y := by rfl) (hyl : X.env.scope.names.lookup y = some .local := by rfl) (hsw : swapsWith (.ListComp elt [⟨tg, iter, ifs, 0⟩] scope pos) (some (.Name y py)) spos.line X.env = pure true := by rfl) :
    DS X (.Assign [.Name y py] (.ListComp elt [⟨tg, iter, ifs, 0⟩] scope pos) spos) (sAsg (eLcL src set cond fe (own.map (·.2))) (setN i)) :=
  ds_setE (fun σ H Q h => lc_l hg hv σ H Q h) (ps_setLc hc hN hy hyl hsw hi ok hp ht he hs)
end

/-! ### what is never run -/
def sNever : SS := fun _ _ => none
theorem ps_never : PS X st (fun _ _ _ => False) := ⟨fun _ _ _ _ _ _ h => h.elim⟩
theorem ds_never : DS X st sNever := PS.imp ps_never fun D σ H ⟨δ, G, γ, k, δ', G', S, ef, q⟩ => by cases ef

/-! ### list(..) as a root -/
def eListR (fa : RE) : EE := fun δ G => (fa δ G).bind fun x => (seqG G x).bind fun ds => some (.rf G.length, G ++ [.lst ds])
theorem de_listR {np : Pos} (ha : DR X a fa) (hm : X.mg "list" = none) (hg : Gl X "list" := by rfl) (hs : starEach [a] X.env = (false, eval a X.env) :: starEach [] X.env := by rfl) :
    DE X (.Call (.Name "list" np) [a] [] pos) (eListR fa) := PE.imp (pe_callTy call_list_of hg hm (by decide +kernel) (pa_cons ha pa_nil hs) (by decide) (by decide) hs rfl) fun σ H Q ⟨δ, G, γ, d, G', S, ef, q⟩ => by
  simp only [eListR, Option.bind_eq_some_iff, Option.some.injEq, Prod.mk.injEq] at ef
  obtain ⟨x, e1, ds, e2, rfl, rfl⟩ := ef
  refine ⟨δ, G, γ, x, S, e1, fun v H1 s1 r1 => ?_⟩
  obtain ⟨p, vs, rfl, h1, h2⟩ := seqG_ok (S.same s1).toRo r1 e2
  refine ⟨p, vs, rfl, h1.imp (fun z => .inl z) id, fun l hl => ?_⟩
  obtain ⟨a2, S2, r2⟩ := (S.same s1).push hl h2
  exact q _ _ _ ((Aft.of_same s1).trans a2) S2 r2

/-! ### repr -/
def rRepr (K : FK) : List V → Hp → VK → Prop := fun xs H Q => ∃ x d, xs = [x] ∧ Dp K H x d ∧ d.showable = true ∧ d.shown.length ≤ sizeLine ∧ d.depth ≤ 60 ∧ d.hasDict = false ∧ Q (.str d.shown) H
theorem call_reprD {j : Nat} (hr : RoomG j X.A) : CallR X (.builtin "repr") (rRepr X.F) := by
  intro pins s σ H xs us Q I r h
  obtain ⟨x, d, rfl, hd, hs, hz, hp, hn, q⟩ := h
  obtain ⟨u, rfl, ru⟩ := vals1 r
  obtain ⟨as, rd⟩ := Dp.reads I d x u hd ru
  have hu := hr.un
  cases rd with
  | none => exact PySem.P.repr_of_none ⟨.str _, H, I.tok _, ⟨_, rfl⟩, q⟩
  | bool b => exact PySem.P.repr_of_bool ⟨.str _, H, I.tok _, ⟨_, rfl⟩, q⟩
  | int i t => exact PySem.P.repr_of_int (by simpa [PyData.showable] using hs) ⟨.str _, H, I.tok _, ⟨_, rfl⟩, q⟩
  | str x t => exact PySem.P.repr_of_str ⟨.str _, H, I.tok _, ⟨_, rfl⟩, q⟩ (by simpa only [PyData.shown] using hz)
  | list h1 h2 h3 h4 =>
    exact repr_of_reads' (.list h1 h2 h3 h4) hs (PyData.noDict_hsm hn) hr.gd (by omega) (fun _ _ e => e) (fun h' u tk hk => ⟨.str _, H, I.kept (t' := tk) hk, ⟨u, rfl⟩, q⟩) hz
  | tuple h1 h2 h3 h4 =>
    exact repr_of_reads' (.tuple h1 h2 h3 h4) hs (PyData.noDict_hsm hn) hr.gd (by omega) (fun _ _ e => e) (fun h' u tk hk => ⟨.str _, H, I.kept (t' := tk) hk, ⟨u, rfl⟩, q⟩) hz
  | dict h1 h2 h3 h4 h5 => simp [PyData.hasDict] at hn
mutual
def D.sh : D → Bool
  | .non => true | .bl _ => true | .str _ => true
  | .int i => decide (i.natAbs.log2 < 1920)
  | .tup ds => shs ds | .fl ds => shs ds
  | _ => false
def shs : List D → Bool
  | [] => true
  | d :: ds => d.sh && shs ds
end
mutual
theorem D.sh_ok : ∀ d : D, d.sh = true → d.py.showable = true
  | .non, _ => by simp only [D.py, PyData.showable]
  | .bl _, _ => by simp only [D.py, PyData.showable]
  | .str _, _ => by simp only [D.py, PyData.showable]
  | .int _, h => by simpa only [D.py, PyData.showable, D.sh] using h
  | .tup ds, h => by
    simp only [D.py, PyData.showable]
    exact shs_ok ds (by simpa only [D.sh] using h)
  | .fl ds, h => by
    simp only [D.py, PyData.showable]
    exact shs_ok ds (by simpa only [D.sh] using h)
  | .obj _ _ _, h => by simp only [D.sh] at h; cases h
  | .scr _, h => by simp only [D.sh] at h; cases h
  | .fd _ _, h => by simp only [D.sh] at h; cases h
  | .rf _, h => by simp only [D.sh] at h; cases h
theorem shs_ok : ∀ ds : List D, shs ds = true → PyData.showableAll (pys ds) = true
  | [], _ => by simp only [pys, PyData.showableAll]
  | d :: ds, h => by
    simp only [shs, Bool.and_eq_true] at h
    simp only [pys, PyData.showableAll, Bool.and_eq_true]
    exact ⟨D.sh_ok d h.1, shs_ok ds h.2⟩
end
def gRepr : Hs → List D → Option D := fun _ ds => match ds with
  | [d] => if d.ok = true ∧ d.sh = true ∧ d.dep ≤ 60 ∧ d.py.shown.length ≤ 10000000 then some (.str d.py.shown) else none
  | _ => none
theorem gRepr_ok {K : FK} : CallG K (rRepr K) gRepr := by
  intro G γ H ds d vs Q r rs e q
  unfold gRepr at e
  split at e
  · split at e
    · rename_i hc
      cases e
      obtain ⟨v, rfl, h⟩ := rs.one
      rename_i x
      have hd := D.depth x
      exact ⟨v, x.py, rfl, R.dp x v hc.1 h, x.sh_ok hc.2.1, line7' hc.2.2.2, by omega, PyData.hasDict_of_canLay _ (x.lay hc.1), q _ H (Same.refl H) (by simp only [R])⟩
    · cases e
  · cases e
end
end FL
namespace PySem
open Sem (wp)
open AutoSeq1 (wpAny_loadPart')
set_option maxHeartbeats 1000000 in
theorem meets_enumerate_newB1 {v : Value} {o : Obj} {H : Heap → Prop} (B : Begins v o H) :
    Meets (Builtin.«enumerate.__new__» ⟨[.type "enumerate", v], []⟩) (fun _ R s => H s.heap ∧
      R (.ok (.ret (.ref (s.heap.push o).objs.size))) { s with heap := (s.heap.push o).push { cls := .type "enumerate", data := .fields #[.none, .bool false, .ref s.heap.objs.size, rawInt 0, .none, .none] } }) :=
  .of_wp fun prog w A R s h => by
    obtain ⟨hp, g, d, tk, os⟩ := s; obtain ⟨h1, h⟩ := h
    have hsub := sub_enumerate
    have q1 : ∀ {A' : Around} {E : Value → Shared → Prop} {Q : Value → Shared → Prop}, Q (.ref hp.objs.size) ⟨hp.push o, g, d, tk, os⟩ → wpAny (model prog w) A' (pyIter v) Q E ⟨hp, g, d, tk, os⟩ :=
      fun q => B.iter prog w _ _ ⟨hp, g, d, tk, os⟩ _ h1 q
    wp_walk using q1
    refine wpAny_stack_any fun st => wpAny_pure ?_
    split
    · rename_i c _ _ _ _ _
      cases (c == Value.type "enumerate")
      · wp_walk using q1
        exact ⟨_, rfl, h⟩
      · wp_walk using q1
        exact ⟨_, rfl, h⟩
    · wp_walk using q1
      exact ⟨_, rfl, h⟩
section
variable {prog : Program} {w : World} {A : Around} {E : Value → Shared → Prop} {s : Shared}
theorem enum_begins1 {v : Value} {o : Obj} {H : Heap → Prop} {Q : Value → Shared → Prop} (B : Begins v o H) (h1 : H s.heap)
    (h : ∀ h', IsEnum h' (s.heap.objs.size + 1) s.heap.objs.size 0 .none → h'.get? s.heap.objs.size = some o → h'.objs.size = s.heap.objs.size + 2 →
      (∀ b o, s.heap.get? b = some o → h'.get? b = some o) → Q (.ref (s.heap.objs.size + 1)) { s with heap := h' }) :
    wpAny (model prog w) A (call (.type "enumerate") [v]) Q E s := by
  refine callType_new F.called_enumerate (by decide) (F.typeCall_enumerate_1 _) (F.newCall_enumerate_1 _) (fun obj => F.args_object_init_2 obj _) F.entry_enumerate_new
    (meets_enumerate_newB1 B) ⟨h1, ?_⟩
  have hz : (s.heap.push o).objs.size = s.heap.objs.size + 1 := Heap.size_push ..
  show _ ∧ _
  rw [hz]
  have he : IsEnum ((s.heap.push o).push { cls := .type "enumerate", data := .fields #[.none, .bool false, .ref s.heap.objs.size, rawInt 0, .none, .none] }) (s.heap.objs.size + 1) s.heap.objs.size 0 .none := by
    have := Heap.get?_push_size (s.heap.push o) (o := { cls := .type "enumerate", data := .fields #[.none, .bool false, .ref s.heap.objs.size, rawInt 0, .none, .none] }) rfl
    rw [hz] at this; exact this
  refine ⟨⟨_, he, rfl⟩, h _ he (Heap.get?_push_of_some _ (Heap.get?_push_size _ B.free)) (by rw [Heap.size_push, hz]) fun b o x => Heap.get?_push_of_some _ (Heap.get?_push_of_some _ x)⟩
end
end PySem
namespace FL
open PySem PySem.Spec PyProof.Rows L2
/-- the tuple at a, each item in a new pair with its number -/
def IteT (K : PySem.W.Frag) (a : Addr) : It :=
  ⟨fun i H => ∃ (xs : List V) (x : V), SqT K H a xs ∧ xs[i]? = some x, fun i H v H' => ∃ T x, v = .ref T ∧ H T = none ∧ H' = upd H T (.tup [.int (i : Nat), x]) ∧ ∀ xs, SqT K H a xs → xs[i]? = some x, fun i H => ∃ xs : List V, SqT K H a xs ∧ xs.length ≤ i⟩
theorem turn_enumT {P : Program} {w : World} {K : PySem.W.Frag} {elts : List Expr} {kk : Nat} {tpos : Pos} (a e it : Addr) :
    Turn P w K (.Tuple elts kk tpos) (IteT K a) [e, it] e (fun i h => (∃ old, IsEnum h e it ((i : Nat) : Int) old) ∧ h.IsTupleIter it a i ∧ e ≠ it) where
  mem := by simp
  obj := fun i h st b hb => by
    obtain ⟨⟨old, he⟩, ⟨o, ho, hc, hd⟩, _⟩ := st
    have e' : b = e ∨ b = it := by simpa using hb
    rcases e' with z | z
    · rw [z]; exact ⟨_, he, fun v q => nomatch q⟩
    · rw [z]; exact ⟨o, ho, fun v q => by rw [hd] at q; cases q⟩
  keep := fun i h h' st k => let ⟨⟨old, he⟩, hi, hne⟩ := st; ⟨⟨old, k e (by simp) _ he⟩, hi.at fun o q => k it (by simp) o q, hne⟩
  item := by
    intro X hP hw hK hc i pins s σ H E I hf st hg
    subst hP hw hK
    obtain ⟨⟨old, he⟩, hit, hne⟩ := st
    obtain ⟨xs, x, hq, hx⟩ := hg
    obtain ⟨its, rv, p, hz⟩ := I.tuple hq
    obtain ⟨u, hu, ru⟩ := rv.get hx
    have hel : e < s.heap.objs.size := Heap.lt_size he
    have hil : it < s.heap.objs.size := by obtain ⟨_, q, _⟩ := hit; exact Heap.lt_size q
    have hai : a ≠ it := fun z => by
      obtain ⟨o, q, c, _⟩ := hit
      obtain ⟨o', q', c', _⟩ := p
      rw [z, q] at q'
      cases q'
      rw [c] at c'
      exact absurd c' (by decide)
    have hea : e ∉ [it, a] := fun z => by
      have z' : e = it ∨ e = a := by simpa using z
      rcases z' with z | z
      · exact hne z
      · obtain ⟨o', q', c', _⟩ := p
        rw [← z] at q'
        have he' : s.heap.get? e = _ := he
        rw [he'] at q'
        cases q'
        have c2 : Value.type "enumerate" = Value.type "tuple" := c'
        exact absurd c2 (by decide)
    have hh : X.A.in1.handled = none := I.ok.hd hc
    refine wpAny_pyNext_enum_itemD (Draws.tuple hh it a hai its.toArray) he ⟨hit, p⟩ (by simpa using (List.getElem?_eq_some_iff.mp hu).1) hne hea fun x' h' tk hP ho st' hT hsz hk => ?_
    have ex : x' = u := by
      have hP' : its.toArray[i]? = some x' := hP
      rw [List.getElem?_toArray, hu] at hP'
      exact (Option.some.inj hP').symm
    subst ex
    refine ⟨_, rfl, wpAny_letOwnedTupleGo_enum (s := { s with heap := h', toks := tk + 1 }) ho fun h'' he' sb => ?_⟩
    have hT2 : h''.get? s.heap.objs.size = some { cls := .type "tuple", data := .seq #[.int i tk, x'] } := (sb.2 _ (Nat.ne_of_gt hel)).trans hT
    have new : ObjOk X.prog X.w (upd H s.heap.objs.size (.tup [.int (i : Nat), x])) h'' s.heap.objs.size (.tup [.int (i : Nat), x]) :=
      ⟨by show 2 ≤ sizeLine; decide, [.int i tk, x'], .cons ⟨_, rfl⟩ (.cons ru .nil), ⟨_, hT2, rfl, _, rfl⟩⟩
    have I1 : L2.Inv X pins σ (upd H s.heap.objs.size (.tup [.int (i : Nat), x])) { s with heap := h'', toks := tk + 1 } :=
      I.turnedNew (ch := [e, it]) (fun b ob hb q => (sb.2 b (fun z => hb (by simp [z]))).trans (hk b ob (fun z => hb (by simp [z])) (fun z => hb (by simp [z])) q)) hf (Nat.le_refl _) new
    refine ⟨.ref s.heap.objs.size, _, I1, rfl, ⟨_, x, rfl, I.hok.fresh (Nat.le_refl _), rfl, fun ys hy => ?_⟩, ⟨⟨x', ?_⟩, st'.1.at fun o q => (sb.2 it (Ne.symm hne)).trans q, hne⟩, fun b hb => ?_⟩
    · obtain ⟨its2, rv2, p2, hz2⟩ := I.tuple hy
      have : ys = xs := I.tuple_inj hy hq
      rw [this]; exact hx
    · have e1 : ((i + 1 : Nat) : Int) = (i : Int) + 1 := by omega
      rw [e1]; exact he'
    · have hb' : b < s.heap.objs.size := by
        have e' : b = e ∨ b = it := by simpa using hb
        rcases e' with z | z
        · rw [z]; exact hel
        · rw [z]; exact hil
      rw [upd_ne (Nat.ne_of_lt hb')]
      exact (hf b hb).1
  done := by
    intro X hP hw hK hc i pins s σ H E I hf st hg
    subst hP hw hK
    obtain ⟨⟨old, he⟩, hit, hne⟩ := st
    obtain ⟨xs, hq, hx⟩ := hg
    obtain ⟨its, rv, p, hz⟩ := I.tuple hq
    obtain ⟨f0, f1, f2, f3, f4, f5⟩ := hf it (by simp)
    have hl := rv.length
    have hh : X.A.in1.handled = none := I.ok.hd hc
    have hT : s.TypeIs (.ref e) "enumerate" := ⟨_, he, rfl⟩
    have hn : its.toArray[i]? = none := by
      rw [Array.getElem?_eq_none_iff, List.size_toArray]
      omega
    have fin : ∀ h', Heap.ExtBut it s.heap h' → L2.Inv X pins σ H { s with heap := h' } := fun h' eb => I.turned (t' := s.toks) (fun b o hb e => eb b o hb e) f0 f1 f3 f4 f5
    unfold pyNext
    refine wpAny_bind (wpAny_attempt (wpAny_callSpecial?_slot (name := Str.ofString "__next__") hT F.slot_enumerate_next
      (wpAny_call_entry F.slot_enumerate_next hT F.entry_enumerate_next ?_ (F.args_enumerate_next_1 _))))
    show wpAny _ _ (field (.ref e) 2 >>= _) _ _ _
    refine wpAny_bind (wpAny_field he rfl (x := .ref it) rfl ?_)
    refine wpAny_bind (wpAny_nextOf_tuple_end hh hit p hn fun h' x he' hx' => ?_)
    obtain ⟨o, ho, hcl⟩ := hx'
    refine wpAny_bind (wpAny_isInstance (T := "StopIteration") (b := true) ⟨o, ho, hcl⟩ isSubtype_stop ?_)
    exact wpAny_pure ⟨rfl, fin _ he'⟩
  self := fun A i s Q E st h => let ⟨⟨_, he⟩, _⟩ := st; wpAny_pyIter_enum he h
def iEnumT (K : PySem.W.Frag) (ta : TA) : TI := fun σ H R => ta σ H fun vs H1 => ∃ a xs, vs = [.ref a] ∧ SqT K H1 a xs ∧ R (IteT K a) H1
theorem pi_enumT {X : Cx} {e : Expr} {ta : TA} {p pos tpos : Pos} {elts : List Expr} {kk : Nat} (hg : Gl X "enumerate") (hm : X.mg "enumerate" = none) (ha : PA X [e] ta) (hs : starEach [e] X.env = [(false, eval e X.env)] := by rfl) :
    PI X (.Tuple elts kk tpos) (.Call (.Name "enumerate" p) [e] [] pos) (iEnumT X.F ta) := by
  refine ⟨fun pins s σ H R I h => ?_⟩
  refine Call_ (ld_blt I hg hm boot_enumerate (PyProof.Rows.callWith_type1 (thn (ha.run pos pins s σ H _ I h) fun us s1 ⟨vs, H1, I1, r1, q1⟩ => ?_) hs rfl))
  obtain ⟨a, xs, ex, hq, q⟩ := q1
  subst ex
  cases r1 with
  | cons r rr =>
    cases rr
    cases r
    obtain ⟨its, rv, p', hz⟩ := I1.tuple hq
    refine enum_begins1 (begins_tuple a its.toArray) p' fun h' he hit hsz hk => wpAny_pyIter_enum he ?_
    have I2 : L2.Inv X pins σ H1 { s1 with heap := h' } := I1.kept (t' := s1.toks) hk
    refine ⟨s1.heap.objs.size + 1, [s1.heap.objs.size + 1, s1.heap.objs.size], _, _, H1, rfl, I2, turn_enumT a (s1.heap.objs.size + 1) s1.heap.objs.size, ⟨⟨.none, he⟩, ⟨_, hit, rfl, rfl⟩, Nat.succ_ne_self _⟩, fun b hb => ?_, q⟩
    have e' : b = s1.heap.objs.size + 1 ∨ b = s1.heap.objs.size := by simpa using hb
    have hle : s1.heap.objs.size ≤ b := by
      rcases e' with z | z
      · rw [z]; exact Nat.le_add_right _ _
      · rw [z]; exact Nat.le_refl _
    exact I1.fpOk hle (I1.hok.fresh hle)
/-- 0, 1, .. beside the items -/
def numD (ds : List D) : List D := ds.zipIdx.map fun p => .tup [.int (p.2 : Nat), p.1]
theorem numD_len (ds : List D) : (numD ds).length = ds.length := by simp [numD]
theorem numD_get {ds : List D} {i : Nat} {d : D} (h : ds[i]? = some d) : (numD ds)[i]? = some (.tup [.int (i : Nat), d]) := by
  simp [numD, List.getElem?_zipIdx, h]
section
variable {K : FK} {γ : List Addr} {H : Hp} {p : Bool}
theorem itOk_enumT {a : Addr} {ds : List D} {vs : List V} (h : SqT K H a vs) (r : Rs K γ H ds vs) : ItOk K p γ (numD ds) (IteT K a) H := by
  intro H1 s i
  have h1 := s.kp.sqT h
  have r1 := Rs.mono s.kp Pre.refl _ _ r
  rw [numD_len]
  refine ⟨fun hi => ?_, fun hi => ⟨vs, h1, by rw [← r1.length]; exact hi⟩, fun hlt x H2 y => ?_⟩
  · obtain ⟨v, e, _⟩ := r1.get (List.getElem?_eq_getElem hi)
    exact ⟨vs, v, h1, e⟩
  · obtain ⟨T, u, rfl, hT, rfl, f⟩ := y
    obtain ⟨d, e1, e2⟩ := r1.get' (f vs h1)
    obtain ⟨s2, r2⟩ := new_tup (xs := [.int (i : Nat), d]) (vs := [.int (i : Nat), u]) hT (Rs.cons (by simp only [R]) (Rs.cons e2 Rs.nil))
    exact ⟨s2, _, numD_get e1, r2⟩
theorem itOk_enumL {a : Addr} {ds : List D} {vs : List V} (h : Rd H a (.lst vs)) (hp : p = true ∨ SqF H a vs) (r : Rs K γ H ds vs) : ItOk K p γ (numD ds) (Ite K a) H := by
  intro H1 s i
  have h1 : SqL K H1 a vs := by
    rcases hp with hp | hp
    · subst hp
      have s' : Same H H1 := by simpa [Stp] using s
      rcases h with h | ⟨o, h⟩
      · exact .inl (.inl (s' _ _ h))
      · exact .inl (.inr ⟨o, s' _ _ h⟩)
    · exact (s.kp.sqF hp).sq
  have r1 := Rs.mono s.kp Pre.refl _ _ r
  rw [numD_len]
  refine ⟨fun hi => ?_, fun hi => ⟨vs, h1, by rw [← r1.length]; exact hi⟩, fun hlt x H2 y => ?_⟩
  · obtain ⟨v, e, _⟩ := r1.get (List.getElem?_eq_getElem hi)
    exact ⟨vs, v, h1, e⟩
  · obtain ⟨T, u, rfl, hT, rfl, f⟩ := y
    obtain ⟨d, e1, e2⟩ := r1.get' (f vs h1)
    obtain ⟨s2, r2⟩ := new_tup (xs := [.int (i : Nat), d]) (vs := [.int (i : Nat), u]) hT (Rs.cons (by simp only [R]) (Rs.cons e2 Rs.nil))
    exact ⟨s2, _, numD_get e1, r2⟩
end
section
variable {X : Cx} {e : Expr} {fa : RE} {ga : EE} {q pos tpos : Pos} {elts : List Expr} {kk : Nat} {p : Bool}
def iEnT (f : RE) : RA := fun δ G => (f δ G).bind fun x => match x with
  | .tup ds => some (numD ds)
  | _ => none
theorem dir_enT (ha : DR X e fa) (hm : X.mg "enumerate" = none) (hg : Gl X "enumerate" := by rfl) (hs : starEach [e] X.env = [(false, eval e X.env)] := by rfl) :
    DIR X p (.Tuple elts kk tpos) (.Call (.Name "enumerate" q) [e] [] pos) (iEnT fa) := PI.imp (pi_enumT hg hm (pa_cons ha pa_nil hs) hs) fun σ H Q ⟨δ, G, γ, ds, S, ef, q⟩ => by
  obtain ⟨x, e1, e2⟩ := Option.bind_eq_some_iff.mp ef
  split at e2
  case h_2 => cases e2
  cases e2
  refine ⟨δ, G, γ, _, S, e1, fun v H1 s1 r1 => ?_⟩
  simp only [R] at r1
  obtain ⟨a, vs, rfl, h1, h2⟩ := r1
  exact ⟨a, vs, rfl, h1, q _ H1 s1 (itOk_enumT h1 h2)⟩
/-- a list that the block leaves as it is -/
def iEnL (f : RE) : RA := fun δ G => (f δ G).bind fun x => (lstG G x).bind fun ds => some (numD ds)
theorem dir_enL (ha : DR X e fa) (hm : X.mg "enumerate" = none) (hg : Gl X "enumerate" := by rfl) (hs : starEach [e] X.env = [(false, eval e X.env)] := by rfl) :
    DIR X true (.Tuple elts kk tpos) (.Call (.Name "enumerate" q) [e] [] pos) (iEnL fa) := PI.imp (pi_enum hg hm (pa_cons ha pa_nil hs) hs) fun σ H Q ⟨δ, G, γ, ds, S, ef, q⟩ => by
  simp only [iEnL, Option.bind_eq_some_iff, Option.some.injEq] at ef
  obtain ⟨x, e1, xs, e2, rfl⟩ := ef
  refine ⟨δ, G, γ, _, S, e1, fun v H1 s1 r1 => ?_⟩
  obtain ⟨a, vs, rfl, h1, h2⟩ := lstG_ok (S.same s1).toRo r1 e2
  exact ⟨a, vs, rfl, .inl h1, q _ H1 s1 (itOk_enumL h1 (.inl rfl) h2)⟩
/-- a frozen list -/
def iEnF (f : EE) : EA := fun δ G => (f δ G).bind fun x => match x.1 with
  | .fl ds => some (numD ds, x.2)
  | _ => none
theorem di_enF (ha : DE X e ga) (hm : X.mg "enumerate" = none) (hg : Gl X "enumerate" := by rfl) (hs : starEach [e] X.env = [(false, eval e X.env)] := by rfl) :
    DI X p (.Tuple elts kk tpos) (.Call (.Name "enumerate" q) [e] [] pos) (iEnF ga) := PI.imp (pi_enum hg hm (pa_cons ha pa_nil hs) hs) fun σ H Q ⟨δ, G, γ, ds, G', S, ef, q⟩ => by
  simp only [iEnF, Option.bind_eq_some_iff] at ef
  obtain ⟨⟨x, G1⟩, e1, e2⟩ := ef
  split at e2
  case h_2 => cases e2
  rename_i xs hx
  have hx' : x = .fl xs := hx
  subst hx'
  cases e2
  refine ⟨δ, G, γ, _, _, S, e1, fun v H1 γ1 a1 S1 r1 => ?_⟩
  simp only [R] at r1
  obtain ⟨a, vs, rfl, h1, h2⟩ := r1
  exact ⟨a, vs, rfl, h1.sq, q _ H1 γ1 a1 S1 (itOk_enumL (by obtain ⟨o, h⟩ := h1; exact .inr ⟨o, h⟩) (.inr h1) h2)⟩
end
end FL
namespace FL
open PySem PySem.Spec PyProof.Rows L2

/-! ### a class of frozen instances: __init__ checks, then sets each field from a slot -/
mutual
theorem R.off {K : FK} {γ : List Addr} {H H' : Hp} {x C dx : Addr} (hx : H x = some (.ins C dx [])) (k : ∀ b o, H b = some o → Imm o = true → b ≠ x → H' b = some o) : ∀ (d : D) (v : V), R K γ H d v → R K γ H' d v
  | .non, v, h => by simpa only [R] using h
  | .bl b, v, h => by simpa only [R] using h
  | .int i, v, h => by simpa only [R] using h
  | .str x, v, h => by simpa only [R] using h
  | .tup ds, v, h => by
    simp only [R] at h ⊢
    obtain ⟨a, vs, e, h1, h2⟩ := h
    refine ⟨a, vs, e, ?_, Rs.off hx k ds vs h2⟩
    rcases h1 with (h1 | ⟨o, h1⟩) | h1
    · exact .inl (.inl (k _ _ h1 rfl fun z => by rw [z, hx] at h1; cases h1))
    · exact .inl (.inr ⟨o, k _ _ h1 rfl fun z => by rw [z, hx] at h1; cases h1⟩)
    · exact .inr h1
  | .fl ds, v, h => by
    simp only [R] at h ⊢
    obtain ⟨a, vs, e, ⟨o, h1⟩, h2⟩ := h
    exact ⟨a, vs, e, ⟨o, k _ _ h1 rfl fun z => by rw [z, hx] at h1; cases h1⟩, Rs.off hx k ds vs h2⟩
  | .obj y ns ds, v, h => by
    simp only [R] at h ⊢
    obtain ⟨a, dx', vs, C', e, h1, hc, h2⟩ := h
    refine ⟨a, dx', vs, C', e, k _ _ h1 (imm_ins hc.2.1 hc.2.2 h2.length) fun z => ?_, hc, Rs.off hx k ds vs h2⟩
    rw [z, hx] at h1
    have hl := h2.length
    have e2 : ([] : List (Str × V)) = ns.zip vs := by
      have h1' : some (HO.ins C dx []) = some (HO.ins C' dx' (ns.zip vs)) := h1
      injection h1' with h1'
      injection h1'
    have e3 := congrArg List.length e2
    rw [List.length_zip, ← hl, ← hc.2.1, Nat.min_self] at e3
    exact hc.1.2.2.2 (List.eq_nil_of_length_eq_zero e3.symm)
  | .scr ns, v, h => by
    simp only [R] at h ⊢
    obtain ⟨a, e, h1⟩ := h
    exact ⟨a, e, h1.imp (fun ⟨o, h1⟩ => ⟨o, k _ _ h1 rfl (fun z => by rw [z, hx] at h1; cases h1)⟩) id⟩
  | .fd ks ds, v, h => by
    simp only [R] at h ⊢
    obtain ⟨a, o, vs, e, h1, hl, h2⟩ := h
    exact ⟨a, o, vs, e, k _ _ h1 rfl (fun z => by rw [z, hx] at h1; cases h1), hl, Rs.off hx k ds vs h2⟩
  | .rf n, v, h => by simpa only [R] using h
theorem Rs.off {K : FK} {γ : List Addr} {H H' : Hp} {x C dx : Addr} (hx : H x = some (.ins C dx [])) (k : ∀ b o, H b = some o → Imm o = true → b ≠ x → H' b = some o) : ∀ (ds : List D) (vs : List V), Rs K γ H ds vs → Rs K γ H' ds vs
  | [], vs, h => by
    rw [h.of_nil]
    exact Rs.nil
  | d :: ds, vs, h => by
    obtain ⟨v, r, rfl, h1, h2⟩ := h.of_cons
    exact Rs.cons (R.off hx k d v h1) (Rs.off hx k ds r h2)
end
def pickD (δ : Env') : List Nat → Option (List D)
  | [] => some []
  | i :: is => (rVar i δ []).bind fun d => (pickD δ is).bind fun ds => some (d :: ds)
def putAll : List (Str × V) → List Str → List V → List (Str × V)
  | fs, f :: ns, w :: ws => putAll (putF f w fs) ns ws
  | fs, _, _ => fs
theorem putF_new {f : Str} {w : V} : ∀ {fs : List (Str × V)}, f ∉ fs.map (·.1) → putF f w fs = fs ++ [(f, w)]
  | [], _ => rfl
  | (g, y) :: r, h => by
    have h1 : g ≠ f := fun z => h (by simp [z])
    rw [show putF f w ((g, y) :: r) = (if g = f then (g, w) :: r else (g, y) :: putF f w r) from rfl, if_neg h1, putF_new (fun z => h (by simp at z ⊢; exact .inr z))]
    rfl
theorem putAll_eq : ∀ {ns : List Str} {ws : List V} {fs : List (Str × V)}, ns.Nodup → (∀ f ∈ ns, f ∉ fs.map (·.1)) → ns.length = ws.length → putAll fs ns ws = fs ++ ns.zip ws
  | [], [], fs, _, _, _ => by simp [putAll]
  | [], _ :: _, _, _, _, h => by simp at h
  | _ :: _, [], _, _, _, h => by simp at h
  | f :: ns, w :: ws, fs, nd, hf, hl => by
    rw [putAll, putF_new (hf f List.mem_cons_self), putAll_eq (List.nodup_cons.mp nd).2 (fun g hg z => ?_) (by simpa using hl), List.zip_cons_cons, List.append_assoc]
    · rfl
    · rw [List.map_append, List.mem_append] at z
      rcases z with z | z
      · exact hf g (List.mem_cons_of_mem _ hg) z
      · have : g = f := by simpa using z
        subst this
        exact (List.nodup_cons.mp nd).1 hg
def slotV (σ : L2.St) : List Nat → List V → Prop
  | [], ws => ws = []
  | i :: is, ws => ∃ w r, ws = w :: r ∧ σ[i]? = some (some w) ∧ slotV σ is r
theorem slotV_len {σ : L2.St} : ∀ {is : List Nat} {ws : List V}, slotV σ is ws → ws.length = is.length
  | [], ws, h => by
    have : ws = [] := h
    rw [this]
    rfl
  | i :: is, ws, h => by
    obtain ⟨w, r, rfl, _, h2⟩ := h
    simp [slotV_len h2]
/-- the sets alone -/
def tK (K : FK) (C : Addr) (L : List (Str × Nat)) : TS := fun D σ H => ∃ x dx fs ws, σ[0]? = some (some (.ref x)) ∧ H x = some (.ins C dx fs) ∧ fs.length + L.length < 1000 ∧ slotV σ (L.map (·.2)) ws ∧ D.nx σ (upd H x (.ins C dx (putAll fs (L.map (·.1)) ws)))
theorem len_putF (f : Str) (v : V) : ∀ fs : List (Str × V), (putF f v fs).length ≤ fs.length + 1
  | [] => by simp [putF]
  | (g, y) :: r => by
    rw [show putF f v ((g, y) :: r) = (if g = f then (g, v) :: r else (g, y) :: putF f v r) from rfl]
    split
    · simp
    · simpa using len_putF f v r
section
variable {X : Cx} {st : Stmt} {sts : List Stmt} {C : Addr} {ns : List Str} {is : List Nat} {g h : SS}
theorem pk_sets_nil {f : Str} {i : Nat} (h : PS X st (sFld X.F (tVar 0) (tVar i) f)) (c : Cls X.F C) (n : NoAttr X.F C f) : PSs X [st] (tK X.F C [(f, i)]) := PSs.imp (pss_one h) fun D σ H ⟨x, dx, fs, ws, h0, hx, hl, hs, q⟩ => by
  obtain ⟨w, r, rfl, h1, h2⟩ := hs
  obtain rfl : r = [] := h2
  exact ⟨w, h1, .ref x, h0, x, C, dx, fs, rfl, hx, c, n, by simp at hl; omega, q⟩
theorem pk_sets_cons {f : Str} {i : Nat} {L : List (Str × Nat)} (h : PS X st (sFld X.F (tVar 0) (tVar i) f)) (c : Cls X.F C) (n : NoAttr X.F C f) (hr : PSs X sts (tK X.F C L)) : PSs X (st :: sts) (tK X.F C ((f, i) :: L)) := PSs.imp (pss_cons h hr) fun D σ H ⟨x, dx, fs, ws, h0, hx, hl, hs, q⟩ => by
  obtain ⟨w, r, rfl, h1, h2⟩ := hs
  have hl' := len_putF f w fs
  refine ⟨w, h1, .ref x, h0, x, C, dx, fs, rfl, hx, c, n, by simp at hl; omega, x, dx, putF f w fs, r, h0, upd_same, by simp at hl; omega, h2, ?_⟩
  rw [upd_upd]
  exact q
/-- checks, then the sets -/
def tI (K : FK) (x : Str) (C : Addr) (ns : List Str) (is : List Nat) (h : SS) : TS := fun D σ H => ∃ δ G γ a δ' G' out, Sx K H δ G σ γ ∧ γ[0]? = some a ∧ PySem.W.nsIn K mainGlobals x = some (some (.ref C)) ∧ h δ G = some (.nx, δ', G') ∧ δ'[0]? = some (some (.rf 0)) ∧ G'[0]? = some (.ins x [] []) ∧ pickD δ' is = some out ∧
  ∀ σ' H1 γ1 ws dx, Aft γ H γ1 H1 → H1 a = some (.ins C dx []) → Rs K γ1 H1 out ws → D.nx σ' (upd H1 a (.ins C dx (ns.zip ws)))
theorem dsi_cons {x : Str} (h1 : DS X st g) (h2 : PSs X sts (tI X.F x C ns is h)) : PSs X (st :: sts) (tI X.F x C ns is (sSeq g h)) := PSs.imp (pss_cons h1 h2) fun D σ H ⟨δ, G, γ, a, δ', G', out, S, hγ, hx, e, e0, eg, ep, q⟩ => by
  simp only [sSeq, Option.bind_eq_some_iff] at e
  obtain ⟨⟨c1, δ1, G1⟩, e1, e2⟩ := e
  refine ⟨δ, G, γ, c1, δ1, G1, S, e1, fun σ1 H1 γ1 a1 S1 => ?_⟩
  cases c1 with
  | nx => exact ⟨δ1, G1, γ1, a, δ', G', out, S1, a1.pr 0 a hγ, hx, e2, e0, eg, ep, fun σ2 H2 γ2 ws dx a2 hd r2 => q σ2 H2 γ2 ws dx (a1.trans a2) hd r2⟩
  | bk => cases e2
  | ct => cases e2
  | rt d => cases e2
theorem pick_ok {K : FK} {H : Hp} {δ : Env'} {G : Hs} {σ : L2.St} {γ : List Addr} (S : Sx K H δ G σ γ) : ∀ {is : List Nat} {out : List D}, pickD δ is = some out → ∃ ws, slotV σ is ws ∧ Rs K γ H out ws
  | [], out, e => by
    cases e
    exact ⟨[], rfl, Rs.nil⟩
  | i :: is, out, e => by
    simp only [pickD, Option.bind_eq_some_iff, Option.some.injEq] at e
    obtain ⟨d, e1, ds, e2, rfl⟩ := e
    obtain ⟨ws, h1, h2⟩ := pick_ok S e2
    unfold rVar at e1
    split at e1
    · rename_i d' ed
      cases e1
      obtain ⟨v, h3, h4⟩ := S.sl i _ ed
      exact ⟨v :: ws, ⟨v, ws, rfl, h3, h1⟩, Rs.cons h4 h2⟩
    · cases e1
theorem pickD_len {δ : Env'} : ∀ {is : List Nat} {out : List D}, pickD δ is = some out → out.length = is.length
  | [], out, e => by cases e; rfl
  | i :: is, out, e => by
    simp only [pickD, Option.bind_eq_some_iff, Option.some.injEq] at e
    obtain ⟨d, e1, ds, e2, rfl⟩ := e
    simp [pickD_len e2]
theorem dsi_sets {x : Str} (hs : PSs X sts (tK X.F C (ns.zip is))) (hn : ns.Nodup) (hl : ns.length = is.length) (hl2 : ns.length < 1000) : PSs X sts (tI X.F x C ns is sNil) := PSs.imp hs fun D σ H ⟨δ, G, γ, a, δ', G', out, S, hγ, hC, e, e0, eg, ep, q⟩ => by
  cases e
  obtain ⟨v0, h0, r0⟩ := S.sl 0 _ e0
  simp only [R] at r0
  obtain ⟨x', rfl, hx'⟩ := r0
  rw [hγ] at hx'
  cases hx'
  obtain ⟨C', dx, vs, hx, ⟨⟨hC', _⟩, _⟩, _⟩ := S.toRo.at eg hγ
  have eC : (some (some (Value.ref C)) : Option (Option Value)) = some (some (.ref C')) := hC.symm.trans hC'
  cases eC
  have hx : H a = some (.ins C dx []) := hx
  obtain ⟨ws, h1, h2⟩ := pick_ok S ep
  have m2 : (ns.zip is).map (·.2) = is := List.map_snd_zip (by omega)
  have m1 : (ns.zip is).map (·.1) = ns := List.map_fst_zip (by omega)
  have hw := slotV_len h1
  refine ⟨a, dx, [], ws, h0, hx, by simp; omega, by rw [m2]; exact h1, ?_⟩
  rw [m1, putAll_eq hn (by simp) (by omega), List.nil_append]
  exact q σ H γ ws dx Aft.refl hx h2
end
/-- what __init__ leaves: the attributes' values -/
def fnI (x : Str) (n : Nat) (is : List Nat) (body : SS) : List D → Option (List D) := fun ds => (body (slots n (.rf 0 :: ds)) [.ins x [] []]).bind fun y => match y.1 with
  | .nx => match y.2.1[0]? with
    | some (some (D.rf 0)) => match y.2.2[0]? with
      | some (GO.ins z [] []) => if z = x then pickD y.2.1 is else none
      | _ => none
    | _ => none
  | _ => none
def spI (K : FK) (np : Nat) (C : Addr) (ns : List Str) (F : List D → Option (List D)) : Sp := fun vs H Q _ => ∃ (x dx : Addr) (us : List V) (ds out : List D), vs = .ref x :: us ∧ us.length = np ∧ H x = some (.ins C dx []) ∧ Rs K [] H ds us ∧ F ds = some out ∧ ims out = true ∧
  ∀ ws H' H1 dx', (∀ b o, b ≠ x → H b = some o → H1 b = some o) → H1 x = some (.ins C dx' []) → Rs K [] H1 out ws → H' = upd H1 x (.ins C dx' (ns.zip ws)) → Q .non H'
section
variable {P : Program} {K : FK} {mg : Str → Option Value} {base : Heap}
theorem makI {x qual : Str} {C : Addr} {st : Stmt} {f : Addr} {fd : FuncData} {N ps : List Str} {ns : List Str} {is : List Nat} {k : Nat} {body : SS} (M : Mk K C f) (hm : mg x = some (.ref C)) (hc : ObjC K x C ns) (F : C8.Fun K "__init__" qual st f fd) (b : Binds K fd ("self" :: ps) []) (S : FnScope N ("self" :: ps) (C8.fnScope st))
    (hbody : ∀ (cdv : Value) (A : Around) (outer : List Env) (s : Shared) (H : Hp) (E : XK), RoomG k (A.deeper (envOfC qual (C8.fnScope st) s.heap.objs.size f cdv)) →
      PSs (cxOf C8.CX0 P K.wd K mg base N qual (C8.fnScope st) f cdv A outer s H E).nox (C8.fnBody st) (tI K x C ns is body)) : C8.MakG P K.wd K mg base (k + 1) x C (spI K ps.length C ns (fnI x N.length is body)) [] := by
  refine C8.makG M hm F b .nil S (fun vs H Q E h => ?_) fun cdv A outer s H vs Q E hr h => ⟨_, hbody cdv A outer s H E hr, ?_⟩
  · obtain ⟨x, dx, us, ds, out, rfl, hl, _⟩ := h
    simp [hl]
  · obtain ⟨a, dx, us, ds, out, rfl, hl, hx, r, e, him, q⟩ := h
    unfold fnI at e
    obtain ⟨⟨c, δ', G'⟩, e1, e2⟩ := Option.bind_eq_some_iff.mp e
    have ro : Ro K H [.ins x [] []] [a] := ⟨rfl, by simp, fun b z => by
      have : b = a := by simpa using z
      rw [this, hx]; simp, fun j o b e1 e2 => by
      cases j with
      | zero =>
        simp at e1 e2
        subst e1 e2
        exact ⟨C, dx, [], hx, ⟨⟨hc.1, hc.2.1, fun f hf => by simp at hf⟩, rfl, by decide⟩, Rs.nil⟩
      | succ j => simp at e1⟩
    cases c with
    | nx =>
      simp only at e2
      split at e2
      case h_2 => cases e2
      rename_i h0
      split at e2
      case h_2 => cases e2
      rename_i z eg
      split at e2
      case isFalse => cases e2
      rename_i ez
      subst ez
      refine ⟨slots N.length (.rf 0 :: ds), [.ins z [] []], [a], a, δ', G', out, start_ok ro (Rs.cons (by simp only [R]; exact ⟨a, rfl, rfl⟩) (Rs.mono Kp.refl (fun k a h => by simp at h) _ _ r)), rfl, hc.1, e1, h0, eg, e2, fun σ' H1 γ1 ws dx1 A1 hd r1 => ?_⟩
      exact q ws _ H1 dx1 (fun b o nb eb => A1.tr b o eb (.inl (by simpa using nb))) hd (Rs.im out ws him r1) rfl
    | rt d => cases e2
    | bk => cases e2
    | ct => cases e2
end
/-! C(..) -/
def mkF (x : Str) (ns : List Str) (F : List D → Option (List D)) : List D → Option D := fun ds => (F ds).bind fun out => if ims out = true ∧ ns.length = out.length ∧ immN ns = true then some (.obj x ns out) else none
section
variable {X : Cx} {k j : Nat} {x : Str} {C : Addr} {p pos : Pos} {e : Expr} {es : List Expr} {fs : RA} {gs : EA} {np : Nat} {ns : List Str} {F : List D → Option (List D)}
theorem mk_end {K : FK} {γ : List Addr} {H1 : Hp} {ds out : List D} {vs : List V} {Q : VK} (hc : ObjC K x C ns) (hnl : ns.length = out.length ∧ immN ns = true) (hl : vs.length = np) (r : Rs K [] H1 ds vs) (e : F ds = some out) (him : ims out = true)
    (q : ∀ v H', Same H1 H' → R K γ H' (.obj x ns out) v → Q v H') : ∀ xx dx, H1 xx = none → H1 dx = none → dx ≠ xx → spI K np C ns F (.ref xx :: (vs ++ [])) (upd (upd H1 dx (.own xx)) xx (.ins C dx [])) (fun v H2 => v = .non ∧ Q (.ref xx) H2) C8.E0 := by
  intro xx dx h1 h2 hne
  have s0 : Same H1 (upd (upd H1 dx (.own xx)) xx (.ins C dx [])) := fun b o eb => by
    rw [upd_ne (ne_of_none eb h1), upd_ne (ne_of_none eb h2)]
    exact eb
  rw [List.append_nil]
  refine ⟨xx, dx, vs, ds, out, rfl, hl, upd_same, Rs.same s0 r, e, him, fun ws H' H2 dx' s2 hx2 r2 eH => ⟨rfl, ?_⟩⟩
  subst eH
  refine q _ _ (fun b o eb => ?_) ?_
  · have nb := ne_of_none eb h1
    rw [upd_ne nb]
    exact s2 _ _ nb (s0 b o eb)
  · simp only [R]
    exact ⟨xx, dx', ws, C, rfl, upd_same, ⟨hc, hnl⟩, Rs.im out ws him (Rs.off hx2 (fun b o eb _ hb => by rw [upd_ne hb]; exact eb) out ws r2)⟩
theorem dr_mk (hc : ObjC X.F x C ns) (c : C8.MakG X.prog X.w X.F X.mg X.base k x C (spI X.F np C ns F) []) (hr : RoomG j X.A) (ha : DRA X (e :: es) fs) (hk : k + 1 ≤ j := by decide) (hg : Gl X x := by rfl)
    (hdb : (x == ("__debug__" : Str)) = false := by decide) (he : starEach (e :: es) X.env = (false, eval e X.env) :: starEach es X.env := by rfl) (hpl : (backTo pos (starEach es X.env)).any (·.1) = false := by rfl) :
    DR X (.Call (.Name x p) (e :: es) [] pos) (rCallP np (mkF x ns F) fs) := PE.imp (C8.pe_mkG c hr hk hg ha hdb he hpl) fun σ H Q ⟨δ, G, γ, d, S, ef, q⟩ => by
  simp only [rCallP, Option.bind_eq_some_iff] at ef
  obtain ⟨ds, e1, e2⟩ := ef
  split at e2
  case isFalse => cases e2
  rename_i hi
  unfold mkF at e2
  obtain ⟨out, e3, e4⟩ := Option.bind_eq_some_iff.mp e2
  split at e4
  case isFalse => cases e4
  rename_i ho
  cases e4
  exact ⟨δ, G, γ, ds, S, e1, fun vs H1 s1 r1 => mk_end (γ := γ) hc ho.2 (by rw [← r1.length]; exact hi.2) (Rs.im ds vs hi.1 r1) e3 ho.1 fun v H2 s2 r2 => q v H2 (s1.trans s2) r2⟩
theorem de_mk (hc : ObjC X.F x C ns) (c : C8.MakG X.prog X.w X.F X.mg X.base k x C (spI X.F np C ns F) []) (hr : RoomG j X.A) (ha : DEA X (e :: es) gs) (hk : k + 1 ≤ j := by decide) (hg : Gl X x := by rfl)
    (hdb : (x == ("__debug__" : Str)) = false := by decide) (he : starEach (e :: es) X.env = (false, eval e X.env) :: starEach es X.env := by rfl) (hpl : (backTo pos (starEach es X.env)).any (·.1) = false := by rfl) :
    DE X (.Call (.Name x p) (e :: es) [] pos) (eCallP np (mkF x ns F) gs) := PE.imp (C8.pe_mkG c hr hk hg ha hdb he hpl) fun σ H Q ⟨δ, G, γ, d, G', S, ef, q⟩ => by
  simp only [eCallP, Option.bind_eq_some_iff] at ef
  obtain ⟨⟨ds, G1⟩, e1, e2⟩ := ef
  split at e2
  case isFalse => cases e2
  rename_i hi
  obtain ⟨d', e3, e4⟩ := Option.bind_eq_some_iff.mp e2
  cases e4
  unfold mkF at e3
  obtain ⟨out, e5, e6⟩ := Option.bind_eq_some_iff.mp e3
  split at e6
  case isFalse => cases e6
  rename_i ho
  cases e6
  exact ⟨δ, G, γ, ds, G1, S, e1, fun vs H1 γ1 a1 S1 r1 => mk_end (γ := γ1) hc ho.2 (by rw [← r1.length]; exact hi.2) (Rs.im ds vs hi.1 r1) e5 ho.1 fun v H2 s2 r2 => q v H2 γ1 (a1.trans (Aft.of_same s2)) (S1.same s2) r2⟩
end
end FL
namespace FL
open PySem PySem.Spec PyProof.Rows L2

/-! ### dicts at a root, keys tuples without texts -/
section
variable {X : Cx} {pins : List (Addr × Obj)} {σ : L2.St} {H H' : Hp} {s : Shared} {γ : List Addr} {a b : Addr}
mutual
theorem R.nest (I : L2.Inv X pins σ H s) : ∀ (d : D) (k : NestedKey) (v : V) (u : Value), nk d = some k → R X.F γ H d v → RelV v u → NestedIs s.heap k u
  | .non, k, v, u, e, r, w => by
    simp only [nk, Option.some.injEq] at e; subst e
    simp only [R] at r; subst r
    cases (show u = .none from w)
    exact .none
  | .bl b, k, v, u, e, r, w => by
    simp only [nk, Option.some.injEq] at e; subst e
    simp only [R] at r; subst r
    cases (show u = .bool b from w)
    exact .bool rfl
  | .int i, k, v, u, e, r, w => by
    simp only [nk, Option.some.injEq] at e; subst e
    simp only [R] at r; subst r
    obtain ⟨t, rfl⟩ := (show ∃ t, u = .int i t from w)
    exact .int i t
  | .tup ds, k, v, u, e, r, w => by
    simp only [nk, Option.map_eq_some_iff] at e
    obtain ⟨ks, e1, rfl⟩ := e
    simp only [R] at r
    obtain ⟨a, vs, rfl, h1, h2⟩ := r
    cases (show u = .ref a from w)
    obtain ⟨its, rv, ⟨o, ho, hc, n, hd⟩, _⟩ := I.tuple h1
    exact .tup ho hc hd (by rw [List.toList_toArray]; exact Rs.nest I ds ks vs its e1 h2 rv)
  | .str x, k, v, u, e, r, w => by
    simp only [nk, Option.some.injEq] at e; subst e
    simp only [R] at r; subst r
    obtain ⟨t, rfl⟩ := (show ∃ t, u = .str x t from w)
    exact .text x t
  | .fl _, _, _, _, e, _, _ => by simp [nk] at e
  | .obj _ _ _, _, _, _, e, _, _ => by simp [nk] at e
  | .scr _, _, _, _, e, _, _ => by simp [nk] at e
  | .fd _ _, _, _, _, e, _, _ => by simp [nk] at e
  | .rf _, _, _, _, e, _, _ => by simp [nk] at e
theorem Rs.nest (I : L2.Inv X pins σ H s) : ∀ (ds : List D) (ks : List NestedKey) (vs : List V) (us : List Value), nks ds = some ks → Rs X.F γ H ds vs → Vals vs us → NestedAll s.heap ks us
  | [], ks, vs, us, e, r, w => by
    simp only [nks, Option.some.injEq] at e; subst e
    rw [r.of_nil] at w
    cases w
    exact .nil
  | d :: ds, ks, vs, us, e, r, w => by
    simp only [nks, Option.bind_eq_some_iff, Option.some.injEq] at e
    obtain ⟨k, e1, ks', e2, rfl⟩ := e
    obtain ⟨v, vs', rfl, h1, h2⟩ := r.of_cons
    cases w with
    | cons w1 w2 => exact .cons (R.nest I d k v _ e1 h1 w1) (Rs.nest I ds ks' vs' _ e2 h2 w2)
end
theorem DK.is (I : L2.Inv X pins σ H s) : ∀ {kvs : List (D × D)} {xs : List (NestedKey × Addr × Value)}, DK X.F γ H kvs xs → ∀ x ∈ xs, (nestedKind X.prog X.w).is s.heap x.1 x.2.1
  | [], xs, h, x, hx => by
    have : xs = [] := h
    rw [this] at hx
    simp at hx
  | (k, d) :: r, xs, h, x, hx => by
    obtain ⟨q, b, u, t, v, rfl, h1, h2, h3, h4, h5⟩ := h
    rcases List.mem_cons.mp hx with rfl | hx
    · exact ⟨R.nest I k q (.ref b) (.ref b) h1.1 h2 rfl, h1.2.1⟩
    · exact DK.is I h5 x hx
theorem DK.len {K : FK} : ∀ {kvs : List (D × D)} {xs : List (NestedKey × Addr × Value)}, DK K γ H kvs xs → xs.length = kvs.length
  | [], xs, h => by
    have : xs = [] := h
    rw [this]
    rfl
  | (k, d) :: r, xs, h => by
    obtain ⟨q, b, u, t, v, rfl, h1, h2, h3, h4, h5⟩ := h
    simp [DK.len h5]
theorem ents_eq (P : Program) (K : FK) (xs : List (NestedKey × Addr × Value)) : xs.map (entryOfKey (nestedKind P K.wd)) = xs.map (ent0 K) := rfl
/-- the dict's object -/
theorem dct_at {kvs : List (D × D)} (I : L2.Inv X pins σ H s) (h : RG X.F γ H (.dct kvs) a) : ∃ xs ep, H a = some (dctO X.F a xs ep) ∧ DK X.F γ H kvs xs ∧ (a == sysModules) = false ∧ xs.length ≤ sizeLine ∧ s.heap.DictOfH (nestedKind X.prog X.w) a xs ∧
    ∃ o es, s.heap.get? a = some o ∧ o.ExactDict ∧ o.data = .dict es ep ∧ es.toList = xs.map (ent0 X.F) := by
  obtain ⟨xs, ep, h1, hn, h2⟩ := h
  obtain ⟨⟨z, hl, o, es, ho, hx, hd, he⟩, _⟩ := (show ObjOk X.prog X.w H s.heap a (dctO X.F a xs ep) from I.hok a _ h1)
  exact ⟨xs, ep, h1, h2, z, hl, ⟨o, es, ep, ho, hx, hd, by exact he, h2.is I, hn⟩, o, es, ho, hx, hd, he⟩
theorem dct_ok {P : Program} {K : FK} {h' : Heap} {xs : List (NestedKey × Addr × Value)} (z : (a == sysModules) = false) (hl : xs.length ≤ sizeLine) (dd : h'.DictOfH (nestedKind P K.wd) a xs) : ∃ ep, ∀ H', ObjOk P K.wd H' h' a (dctO K a xs ep) := by
  obtain ⟨o, es, ep, ho, hx, hd, he, _, _⟩ := dd
  refine ⟨ep, fun H' => ⟨⟨z, hl, o, es, ho, hx, hd, he⟩, ⟨o, ho⟩, fun h1 h2 ⟨z1, hl1, o1, es1, e1, r1⟩ k => ⟨z1, hl1, o1, es1, k o1 e1, r1⟩⟩⟩
/-- what stands at a key -/
def valD (kvs : List (D × D)) (k : NestedKey) : Option D := (kvs.find? fun p => decide (nk p.1 = some k)).map (·.2)
def putD (kvs : List (D × D)) (kd d : D) : List (D × D) := if (kvs.any fun p => decide (nk p.1 = nk kd)) = true then kvs.map fun p => if nk p.1 = nk kd then (p.1, d) else p else kvs ++ [(kd, d)]
theorem DK.val {K : FK} {k : NestedKey} : ∀ {kvs : List (D × D)} {xs : List (NestedKey × Addr × Value)}, DK K γ H kvs xs → (valD kvs k = none ∧ atKey xs k = none) ∨ ∃ d b u v, valD kvs k = some d ∧ atKey xs k = some (b, u) ∧ RelV v u ∧ R K γ H d v
  | [], xs, h => by
    have : xs = [] := h
    subst this
    exact .inl ⟨rfl, rfl⟩
  | (kd, d) :: r, xs, h => by
    obtain ⟨q, b, u, t, v, rfl, h1, h2, h3, h4, h5⟩ := h
    unfold valD atKey
    rw [List.find?_cons, List.find?_cons, h1.1]
    by_cases hq : q = k
    · subst hq
      right
      exact ⟨d, b, u, v, by simp, by simp, h3, h4⟩
    · have e1 : decide ((some q : Option NestedKey) = some k) = false := decide_eq_false fun z => hq (Option.some.inj z)
      have e2 : decide (q = k) = false := decide_eq_false hq
      simp only [e1, e2]
      exact DK.val h5
theorem DK.any {K : FK} {k : NestedKey} : ∀ {kvs : List (D × D)} {xs : List (NestedKey × Addr × Value)}, DK K γ H kvs xs → (kvs.any fun p => decide (nk p.1 = some k)) = (atKey xs k).isSome
  | [], xs, h => by
    have : xs = [] := h
    subst this
    rfl
  | (kd, d) :: r, xs, h => by
    obtain ⟨q, b, u, t, v, rfl, h1, h2, h3, h4, h5⟩ := h
    have ih := DK.any (k := k) h5
    unfold atKey at ih ⊢
    rw [List.any_cons, List.find?_cons, h1.1]
    by_cases hq : q = k
    · subst hq
      simp
    · have e1 : decide ((some q : Option NestedKey) = some k) = false := decide_eq_false fun z => hq (Option.some.inj z)
      have e2 : decide (q = k) = false := decide_eq_false hq
      simp only [e1, e2, Bool.false_or]
      exact ih
theorem DK.map {K : FK} {k : NestedKey} {kd d : D} {u : Value} {v : V} (hk : nk kd = some k) (hv : RelV v u) (hr : R K γ H d v) : ∀ {kvs : List (D × D)} {xs : List (NestedKey × Addr × Value)}, DK K γ H kvs xs → DK K γ H (kvs.map fun p => if nk p.1 = nk kd then (p.1, d) else p) (xs.map (putAt k u))
  | [], xs, h => by
    have : xs = [] := h
    subst this
    rfl
  | (kd', d') :: r, xs, h => by
    obtain ⟨q, b, u', t, v', rfl, h1, h2, h3, h4, h5⟩ := h
    have ih := DK.map hk hv hr h5
    rw [List.map_cons, List.map_cons]
    by_cases hq : q = k
    · subst hq
      have e1 : nk kd' = nk kd := h1.1.trans hk.symm
      simp only [e1, if_true, putAt]
      exact ⟨q, b, u, _, v, rfl, h1, h2, hv, hr, ih⟩
    · have e1 : nk kd' ≠ nk kd := fun z => hq (by rw [h1.1, hk] at z; exact Option.some.inj z)
      simp only [e1, if_false, putAt, hq]
      exact ⟨q, b, u', _, v', rfl, h1, h2, h3, h4, ih⟩
theorem DK.app {K : FK} {k : NestedKey} {kd d : D} {b : Addr} {u : Value} {v : V} (hk : nk kd = some k ∧ k.depth ≤ 8 ∧ ∃ ts, kd = .tup ts) (hb : R K γ H kd (.ref b)) (hv : RelV v u) (hr : R K γ H d v) : ∀ {kvs : List (D × D)} {xs : List (NestedKey × Addr × Value)}, DK K γ H kvs xs → DK K γ H (kvs ++ [(kd, d)]) (xs ++ [(k, b, u)])
  | [], xs, h => by
    have : xs = [] := h
    subst this
    exact ⟨k, b, u, [], v, rfl, hk, hb, hv, hr, rfl⟩
  | (kd', d') :: r, xs, h => by
    obtain ⟨q, b', u', t, v', rfl, h1, h2, h3, h4, h5⟩ := h
    exact ⟨q, b', u', t ++ [(k, b, u)], v', rfl, h1, h2, h3, h4, DK.app hk hb hv hr h5⟩
theorem DK.put {K : FK} {k : NestedKey} {kd d : D} {b : Addr} {u : Value} {v : V} {kvs : List (D × D)} {xs : List (NestedKey × Addr × Value)} (hk : nk kd = some k ∧ k.depth ≤ 8 ∧ ∃ ts, kd = .tup ts) (hb : R K γ H kd (.ref b)) (hv : RelV v u) (hr : R K γ H d v) (h : DK K γ H kvs xs) :
    DK K γ H (putD kvs kd d) (storedH xs k b u) := by
  unfold putD storedH
  rw [hk.1, h.any]
  split
  · have := DK.map hk.1 hv hr h
    rw [hk.1] at this
    exact this
  · exact DK.app hk hb hv hr h
/-- a root written, in general -/
theorem Sx.write {K : FK} {δ : Env'} {G : Hs} {k : Nat} {o' : GO} {ho : HO} (S : Sx K H δ G σ γ) (hk : γ[k]? = some a) (hg : k < G.length) (mu : ∀ o, H a = some o → Imm o = false) (h : RG K γ (upd H a ho) o' a) :
    Aft γ H γ (upd H a ho) ∧ Sx K (upd H a ho) δ (G.set k o') σ γ := by
  have ma : a ∈ γ := List.mem_of_getElem? hk
  have kp : Kp H (upd H a ho) := fun b o e i => by
    rw [upd_ne]
    · exact e
    · intro z
      subst z
      rw [mu o e] at i
      cases i
  refine ⟨⟨fun b o e i => ?_, fun b e => ?_, List.prefix_rfl, fun b z => .inl z⟩, ⟨⟨by simp [S.len], S.nd, fun b z => ?_, fun j o b e1 e2 => ?_⟩, S.dl, fun i d e => ?_⟩⟩
  · rcases i with i | i
    · rw [upd_ne (fun z => i (by rw [z]; exact ma))]
      exact e
    · exact kp b o e i
  · unfold upd
    split
    · simp
    · exact e
  · unfold upd
    split
    · simp
    · exact S.ex b z
  · by_cases hj : j = k
    · subst hj
      rw [hk] at e2
      cases e2
      rw [List.getElem?_set_self hg] at e1
      cases e1
      exact h
    · rw [List.getElem?_set_ne (Ne.symm hj)] at e1
      have nb : b ≠ a := fun z => by
        subst z
        obtain ⟨h1, e1'⟩ := List.getElem?_eq_some_iff.mp hk
        obtain ⟨h2, e2'⟩ := List.getElem?_eq_some_iff.mp e2
        exact hj ((List.getElem_inj S.nd).mp (e2'.trans e1'.symm))
      have q := S.rt j o b e1 e2
      cases o with
      | lst ds =>
        obtain ⟨ws, h1, h2⟩ := q
        exact ⟨ws, by rw [upd_ne nb]; exact h1, Rs.mono kp Pre.refl _ _ h2⟩
      | dct kvs =>
        obtain ⟨xs, ep, h1, hn, h2⟩ := q
        exact ⟨xs, ep, by rw [upd_ne nb]; exact h1, hn, h2.mono kp Pre.refl⟩
      | ins nx ns ds =>
        obtain ⟨C, dx, ws, h1, hc, h2⟩ := q
        exact ⟨C, dx, ws, by rw [upd_ne nb]; exact h1, hc, Rs.mono kp Pre.refl _ _ h2⟩
      | dead => trivial
  · obtain ⟨v, h1, h2⟩ := S.sl i d e
    exact ⟨v, h1, R.mono kp Pre.refl _ _ h2⟩
/-- a new root, in general -/
theorem Sx.pushO {K : FK} {δ : Env'} {G : Hs} {p : Addr} {o : GO} {ho : HO} (S : Sx K H δ G σ γ) (hp : H p = none) (h : RG K (γ ++ [p]) (upd H p ho) o p) :
    Aft γ H (γ ++ [p]) (upd H p ho) ∧ Sx K (upd H p ho) δ (G ++ [o]) σ (γ ++ [p]) ∧ R K (γ ++ [p]) (upd H p ho) (.rf G.length) (.ref p) := by
  have s := same_upd (o := ho) hp
  have np : p ∉ γ := fun z => S.ex p z hp
  refine ⟨⟨fun b o e _ => s b o e, fun b e => Same.none' s e, List.prefix_append _ _, fun a z => ?_⟩, ⟨⟨?_, ?_, fun a z => ?_, fun k o a e1 e2 => ?_⟩, S.dl, fun i d e => ?_⟩, ?_⟩
  · rcases List.mem_append.mp z with z | z
    · exact .inl z
    · have : a = p := by simpa using z
      subst this
      exact .inr hp
  · simp [S.len]
  · rw [List.nodup_append]
    exact ⟨S.nd, by simp, fun a ha b hb e => by
      have : b = p := by simpa using hb
      subst this
      subst e
      exact np ha⟩
  · rcases List.mem_append.mp z with z | z
    · exact Same.none' s (S.ex a z)
    · have : a = p := by simpa using z
      subst this
      rw [upd_same]
      simp
  · by_cases hk : k < G.length
    · rw [List.getElem?_append_left hk] at e1
      rw [List.getElem?_append_left (by rw [← S.len]; exact hk)] at e2
      exact RG.pre Pre.app (RG.same s (S.rt k o a e1 e2))
    · have hk' : k = G.length := by
        have := (List.getElem?_eq_some_iff.mp e1).1
        simp at this
        omega
      subst hk'
      rw [List.getElem?_append_right (Nat.le_refl _)] at e1
      rw [S.len, List.getElem?_append_right (Nat.le_refl _)] at e2
      simp at e1 e2
      subst e1 e2
      exact h
  · obtain ⟨v, h1, h2⟩ := S.sl i d e
    exact ⟨v, h1, R.mono (Kp.of_same s) Pre.app _ _ h2⟩
  · simp only [R]
    exact ⟨p, rfl, by rw [S.len, List.getElem?_append_right (Nat.le_refl _)]; simp⟩
end

/-! d[k] -/
def dctG (G : Hs) : D → Option (List (D × D))
  | .rf k => match G[k]? with
    | some (.dct kvs) => some kvs
    | _ => none
  | _ => none
theorem dctG_ok {K : FK} {γ : List Addr} {H : Hp} {G : Hs} {d : D} {v : V} {kvs : List (D × D)} (r : Ro K H G γ) (h : R K γ H d v) (e : dctG G d = some kvs) : ∃ a k, d = .rf k ∧ v = .ref a ∧ γ[k]? = some a ∧ G[k]? = some (.dct kvs) ∧ RG K γ H (.dct kvs) a := by
  unfold dctG at e
  split at e
  · rename_i k
    split at e
    · rename_i eg
      cases e
      simp only [R] at h
      obtain ⟨a, rfl, h1⟩ := h
      exact ⟨a, k, rfl, rfl, h1, eg, r.at eg h1⟩
    · cases e
  · cases e
def keyD : D → Option NestedKey
  | .tup ds => (nk (.tup ds)).bind fun k => if k.depth ≤ 8 then some k else none
  | _ => none
theorem keyD_ok {d : D} {k : NestedKey} (h : keyD d = some k) : nk d = some k ∧ k.depth ≤ 8 ∧ ∃ ts, d = .tup ts := by
  unfold keyD at h
  split at h
  · obtain ⟨q, e1, e2⟩ := Option.bind_eq_some_iff.mp h
    split at e2
    · cases e2
      exact ⟨e1, by assumption, _, rfl⟩
    · cases e2
  · cases h
theorem key_ref {K : FK} {γ : List Addr} {H : Hp} {d : D} {k : NestedKey} {v : V} (h : keyD d = some k) (r : R K γ H d v) : ∃ b, v = .ref b := by
  obtain ⟨_, _, ts, rfl⟩ := keyD_ok h
  simp only [R] at r
  obtain ⟨a, vs, rfl, _⟩ := r
  exact ⟨a, rfl⟩
def ixDct : Hs → D → D → Option D := fun G x y => (dctG G x).bind fun kvs => (keyD y).bind fun k => valD kvs k
def rIxDct (K : FK) : R2 := fun x y H Q => ∃ (a b : Addr) (γ : List Addr) (kvs : List (D × D)) (kd d : D) (k : NestedKey), x = .ref a ∧ y = .ref b ∧ RG K γ H (.dct kvs) a ∧ R K γ H kd (.ref b) ∧ keyD kd = some k ∧ valD kvs k = some d ∧ ∀ v, R K γ H d v → Q v H
section
variable {X : Cx} {a b e f o : Expr} {pos pos' apos cpos : Pos} {fa fb fc : RE} {ga gb gc : EE}
theorem room_n {j : Nat} (hr : RoomG j X.A) : X.A.in1.units + 8 < cLine := by
  have h := hr.un
  show X.A.units + 1 + 8 < cLine
  omega
theorem ix_dct {j : Nat} (hr : RoomG j X.A) : IxR X (rIxDct X.F) := by
  intro value slice pins s σ H x y v u Q I rx ry h hs
  obtain ⟨a, b, γ, kvs, kd, d, k, rfl, rfl, rg, rk, ek, ev, q⟩ := h
  cases (show v = Value.ref a from rx)
  cases (show u = Value.ref b from ry)
  obtain ⟨xs, ep, ha, dk, z, hl, dd, _⟩ := dct_at I rg
  obtain ⟨hk1, hk2, _⟩ := keyD_ok ek
  rcases dk.val (k := k) with ⟨e1, _⟩ | ⟨d', b', u', v', e1, e2, r1, r2⟩
  · rw [ev] at e1; cases e1
  · rw [ev] at e1
    cases e1
    refine tail_any (ops := [.ref a, .ref b]) dd.typeIs PySem.F.slot_dict_getitem.lookup ?_ hs
    exact wpAny_getItem_heap (knd := nestedKind X.prog X.w) (k := k) (room_n hr) ⟨R.nest I kd k (.ref b) (.ref b) hk1 rk rfl, hk2⟩ dd e2 ⟨v', H, I.tok _, r1, q v' r2⟩
theorem ixDct_ok {K : FK} : OpG K (rIxDct K) ixDct := by
  intro G γ H dx dy d v u Q r rx ry e q
  simp only [ixDct, Option.bind_eq_some_iff] at e
  obtain ⟨kvs, e1, k, e2, e3⟩ := e
  obtain ⟨a, i, rfl, rfl, hi, eg, rg⟩ := dctG_ok r rx e1
  obtain ⟨b, rfl⟩ := key_ref e2 ry
  exact ⟨a, b, γ, kvs, dy, d, k, rfl, rfl, rg, ry, e2, e3, fun v hv => q v H (Same.refl H) hv⟩
/-- frozen dicts, keys ints and texts -/
def valF (kvs : List (L2.Key × D)) (k : L2.Key) : Option D := (kvs.find? fun p => decide (p.1 = k)).map (·.2)
def keyK : D → Option L2.Key
  | .int i => some (.inl i)
  | .str x => some (.inr x)
  | _ => none
def ixFd : Hs → D → D → Option D := fun _ x y => match x with
  | .fd ks ds => (keyK y).bind fun k => valF (ks.zip ds) k
  | _ => none
def rIxFd : R2 := fun x y H Q => ∃ (a : Addr) (kvs : List (L2.Key × V)) (k : L2.Key) (v : V), x = .ref a ∧ Rd H a (.dK kvs) ∧ y = kV k ∧ valV kvs k = some v ∧ Q v H
theorem ix_fd {j : Nat} (hr : RoomG j X.A) : IxR X rIxFd := by
  intro value slice pins s σ H x y v u Q I rx ry h hs
  obtain ⟨a, kvs, k, w, rfl, hd, rfl, hv, q⟩ := h
  cases (show v = Value.ref a from rx)
  have g : DGet H a (kV k) (some w) := .inl ⟨kvs, k, hd, rfl, hv.symm⟩
  refine tail_any (ops := [.ref a, u]) (dict_typeIs I g) PySem.F.slot_dict_getitem.lookup ?_ hs
  exact d_getItem (by have := hr.un; omega) I g ry fun w' s3 I3 rw' => ⟨w, H, I3, rw', q⟩
theorem zip_val {K : FK} {γ : List Addr} {H : Hp} {k : L2.Key} : ∀ {ks : List L2.Key} {ds : List D} {vs : List V} {d : D}, Rs K γ H ds vs → valF (ks.zip ds) k = some d → ∃ v, valV (ks.zip vs) k = some v ∧ R K γ H d v
  | [], _, _, _, _, e => by simp [valF] at e
  | _ :: _, [], _, _, _, e => by simp [valF] at e
  | c :: ks, x :: ds, vs, d, r, e => by
    obtain ⟨v, vs', rfl, h1, h2⟩ := r.of_cons
    unfold valF at e
    unfold valV
    rw [List.zip_cons_cons, List.find?_cons] at e ⊢
    by_cases hc : c = k
    · subst hc
      simp only [decide_true] at e ⊢
      cases e
      exact ⟨v, rfl, h1⟩
    · simp only [decide_eq_false hc] at e ⊢
      exact zip_val h2 e
theorem ixFd_ok {K : FK} : OpG K rIxFd ixFd := by
  intro G γ H dx dy d v u Q r rx ry e q
  unfold ixFd at e
  split at e
  case h_2 => cases e
  rename_i ks ds
  obtain ⟨k, e1, e2⟩ := Option.bind_eq_some_iff.mp e
  simp only [R] at rx
  obtain ⟨a, o, vs, rfl, h1, hl, h2⟩ := rx
  obtain ⟨w, e3, e4⟩ := zip_val h2 e2
  refine ⟨a, _, k, w, rfl, .inr ⟨o, h1⟩, ?_, e3, q w H (Same.refl H) e4⟩
  unfold keyK at e1
  split at e1
  · cases e1
    simp only [R] at ry
    exact ry
  · cases e1
    simp only [R] at ry
    exact ry
  · cases e1
/-- a subscript of any kind -/
abbrev ixA := fOr ixD (fOr ixDct ixFd)
theorem w_ix {j : Nat} (hr : RoomG j X.A) : ∃ r : R2, IxR X r ∧ OpG X.F r ixA :=
  ⟨_, ix_seq.or ((ix_dct hr).or (ix_fd hr)), opg_or ixD_ok (opg_or ixDct_ok ixFd_ok)⟩
theorem dr_ixA {j : Nat} (hr : RoomG j X.A) (ha : DR X a fa) (hb : DR X b fb) (hs : PlainIx b := by exact fun _ _ => rfl) : DR X (.Subscript a b pos) (rBin ixA fa fb) := by
  obtain ⟨r, h1, h2⟩ := w_ix hr
  exact PE.imp (pe_ix h1 ha hb hs) (bin_r h2)
theorem de_ixA {j : Nat} (hr : RoomG j X.A) (ha : DE X a ga) (hb : DE X b gb) (hs : PlainIx b := by exact fun _ _ => rfl) : DE X (.Subscript a b pos) (eBin ixA ga gb) := by
  obtain ⟨r, h1, h2⟩ := w_ix hr
  exact PE.imp (pe_ix h1 ha hb hs) (bin_e h2)
end
end FL
namespace FL
open PySem PySem.Spec PyProof.Rows L2

/-! ### a[i] = v: a list, a dict at a root -/
theorem PSet.or {X : Cx} {r r' : TSet} (h : PSet X r) (h' : PSet X r') : PSet X (fun o i v H Q => r o i v H Q ∨ r' o i v H Q) := by
  intro pins s σ H o i v ov iv u Q I ro ri rv q
  rcases q with q | q
  · exact h pins s σ H o i v ov iv u Q I ro ri rv q
  · exact h' pins s σ H o i v ov iv u Q I ro ri rv q
def rSetN (K : FK) : TSet := fun o i v H Q => ∃ (a b : Addr) (γ : List Addr) (kvs : List (D × D)) (kd d : D) (k : NestedKey), o = .ref a ∧ i = .ref b ∧ RG K γ H (.dct kvs) a ∧ R K γ H kd (.ref b) ∧ keyD kd = some k ∧ R K γ H d v ∧ kvs.length ≤ 1000000 ∧
  ∀ ho, RG K γ (upd H a ho) (.dct (putD kvs kd d)) a → Q (upd H a ho)
section
variable {X : Cx} {j : Nat}
theorem set_dct (hr : RoomG j X.A) : PSet X (rSetN X.F) := by
  intro pins s σ H o i v ov iv u Q I ro ri rv h
  obtain ⟨a, b, γ, kvs, kd, d, k, rfl, rfl, rg, rk, ek, rd, hl, q⟩ := h
  cases (show ov = Value.ref a from ro)
  cases (show iv = Value.ref b from ri)
  obtain ⟨xs, ep, ha, dk, z, hz, dd, _⟩ := dct_at I rg
  obtain ⟨hk1, hk2, hk3⟩ := keyD_ok ek
  have len := dk.len
  refine wpAny_setItem_heap (hsz := hz) (knd := nestedKind X.prog X.w) (k := k) (room_n hr) ⟨R.nest I kd k (.ref b) (.ref b) hk1 rk rfl, hk2⟩ dd fun h' dd' hs => ?_
  have hl' : (storedH xs k b u).length ≤ sizeLine := by
    have h1 : (storedH xs k b u).length ≤ xs.length + 1 := by
      unfold storedH
      split
      · simp
      · simp
    have h2 : (1000001 : Nat) ≤ sizeLine := by decide
    omega
  obtain ⟨ep', ok⟩ := dct_ok (K := X.F) z hl' dd'
  have he : ∃ q, h'.get? a = some q := let ⟨q, _, _, hq, _⟩ := dd'; ⟨q, hq⟩
  have kp : Kp H (upd H a (dctO X.F a (storedH xs k b u) ep')) := fun c o e i => by
    rw [upd_ne]
    · exact e
    · intro zz
      subst zz
      rw [ha] at e
      cases e
      cases i
  refine ⟨_, d_write I (by rw [ha]; exact True.intro) hs he (ok _), q _ ⟨_, ep', upd_same, ?_, ?_⟩⟩
  · obtain ⟨_, _, _, _, _, _, _, _, hn⟩ := dd'
    exact hn
  · exact (dk.put ⟨hk1, hk2, hk3⟩ rk rv rd).mono kp Pre.refl
end
/-- the store by values -/
def stD (x y z : D) (G : Hs) : Option Hs := match x with
  | .rf k => match G[k]? with
    | some (.lst ds) => match y with
      | .int i => (ixN ds.length i).bind fun j => some (G.set k (.lst (ds.set j z)))
      | _ => none
    | some (.dct kvs) => (keyD y).bind fun _ => if kvs.length ≤ 1000000 then some (G.set k (.dct (putD kvs y z))) else none
    | _ => none
  | _ => none
def sPut (fv fo fi : EE) : SS := fun δ G => (fv δ G).bind fun z => (fo δ z.2).bind fun x => (fi δ x.2).bind fun y => (stD x.1 y.1 z.1 y.2).bind fun G' => some (.nx, δ, G')
section
variable {X : Cx} {j : Nat} {o i value : Expr} {fv fo fi : EE} {pos pos' : Pos}
theorem ds_put (hr : RoomG j X.A) (hv : DE X value fv) (ho : DE X o fo) (hi : DE X i fi) (hs : swapsWithSole [.Subscript o i pos'] value pos.line X.env = pure false := by rfl) (hw : swappedStores [.Subscript o i pos'] value X.env = pure none := by rfl)
    (h1 : (assignEach [.Subscript o i pos'] X.env).map (·.2) = [assign (.Subscript o i pos') X.env] := by rfl)
    (hz : ∀ v, assign (.Subscript o i pos') X.env v = (do
      let ov ← holding [v] (eval o X.env)
      let iv ← holding [v, ov] (eval i X.env)
      standAt pos'
      holding [v, ov, iv] (setItem ov iv v)
      release [v, ov, iv] []) := by intro _; rfl) : DS X (.Assign [.Subscript o i pos'] value pos) (sPut fv fo fi) :=
  PS.imp (ps_asg hv (pg_sub ho hi (PSet.or set_list (set_dct hr)) hz) hs hw h1) fun D σ H ⟨δ, G, γ, k, δ', G', S, ef, q⟩ => by
  simp only [sPut, Option.bind_eq_some_iff, Option.some.injEq, Prod.mk.injEq] at ef
  obtain ⟨⟨z, G1⟩, e1, ⟨x, G2⟩, e2, ⟨y, G3⟩, e3, G4, e4, rfl, rfl, rfl⟩ := ef
  refine ⟨δ, G, γ, z, G1, S, e1, fun v H1 γ1 a1 S1 r1 => ?_⟩
  refine ⟨δ, G1, γ1, x, G2, S1, e2, fun u H2 γ2 a2 S2 r2 => ⟨δ, G2, γ2, y, G3, S2, e3, fun w H3 γ3 a3 S3 r3 => ?_⟩⟩
  have rz := R.aft a3 (R.aft a2 r1)
  have rx := R.aft a3 r2
  have e4 : stD x y z G3 = some G4 := e4
  unfold stD at e4
  split at e4
  case h_2 => cases e4
  rename_i n
  simp only [R] at rx
  obtain ⟨a, rfl, hn⟩ := rx
  split at e4
  · rename_i ds eg
    split at e4
    case h_2 => cases e4
    rename_i c
    simp only [Option.bind_eq_some_iff, Option.some.injEq] at e4
    obtain ⟨m, e5, rfl⟩ := e4
    simp only [R] at r3
    subst r3
    obtain ⟨vs, h2, h3⟩ := S3.toRo.at eg hn
    refine .inl ⟨a, vs, c, m, rfl, rfl, h2, by rw [← h3.length]; exact e5, ?_⟩
    obtain ⟨a4, S4⟩ := S3.put hn eg h2 (h3.set rz m)
    exact q σ _ γ3 (a1.trans (a2.trans (a3.trans a4))) S4
  · rename_i kvs eg
    obtain ⟨kk, e5, e6⟩ := Option.bind_eq_some_iff.mp e4
    split at e6
    case isFalse => cases e6
    rename_i hl
    cases e6
    obtain ⟨b, rfl⟩ := key_ref e5 r3
    have rg := S3.toRo.at eg hn
    refine .inr ⟨a, b, γ3, kvs, y, z, kk, rfl, rfl, rg, r3, e5, rz, hl, fun ho rg' => ?_⟩
    have mu : ∀ o, H3 a = some o → Imm o = false := fun o eo => by
      obtain ⟨xs, ep, h1, _⟩ := rg
      rw [h1] at eo
      cases eo
      rfl
    obtain ⟨a4, S4⟩ := S3.write hn (List.getElem?_eq_some_iff.mp eg).1 mu rg'
    exact q σ _ γ3 (a1.trans (a2.trans (a3.trans a4))) S4
  · cases e4
end
end FL
namespace FL
open PySem PySem.Spec PyProof.Rows L2

section
variable {X : Cx} {j : Nat} {a b e f o tg : Expr} {pos apos cpos : Pos} {fa fb fc : RE} {ga gb gc : EE} {ty tx td : TE}
/-! ### d.get(k, x) -/
def tNGet2 (K : FK) (td ty tx : TE) : TE := fun σ H Q => td σ H fun x H1 => ∃ a, x = .ref a ∧ (∃ γ kvs, RG K γ H1 (.dct kvs) a) ∧ ty σ H1 fun y H2 => tx σ H2 fun z H3 =>
  ∃ (b : Addr) (γ : List Addr) (kvs : List (D × D)) (kd : D) (k : NestedKey), y = .ref b ∧ RG K γ H3 (.dct kvs) a ∧ R K γ H3 kd (.ref b) ∧ keyD kd = some k ∧ (∀ d, valD kvs k = some d → ∀ v, R K γ H3 d v → Q v H3) ∧ (valD kvs k = none → Q z H3)
theorem pe_nget2 (hr : RoomG j X.A) (ho : PE X o td) (he : PE X e ty) (hf : PE X f tx) (m : M2 X o "get" apos e f cpos) : PE X (.Call (.Attribute o "get" apos) [e, f] [] cpos) (tNGet2 X.F td ty tx) := by
  refine ⟨fun pins s σ H Q I h => ?_⟩
  refine wpAny_Call_method m.base m.few m.line PySem.F.plainAttrs_dict PySem.F.slot_dict_get PySem.F.type_dict_get (thn (ho.run pins s σ H _ I h) fun u s1 ⟨x, H1, I1, rx, a, ex, ⟨γ, kvs, rg⟩, q1⟩ => ?_)
  subst ex
  obtain rfl : u = Value.ref a := rx
  obtain ⟨xs, ep, ha, dk, z, hz, dd, ob, es, h1, h2, _⟩ := dct_at I1 rg
  refine ⟨dd.typeIs, fun b q => ?_, ?_⟩
  · cases q
    exact ⟨ob, h1, h2.2.1⟩
  rw [m.trees]
  refine Calls.callWith_builtin rfl (Calls.evalArgs_plain (Calls.spliced_cons (thn (he.run pins s1 σ H1 _ I1 q1) fun iv s2 ⟨y, H2, I2, ry, q2⟩ =>
    Calls.spliced_cons (thn (hf.run pins s2 σ H2 _ I2 q2) fun fv s3 ⟨zz, H3, I3, rz, b, γ3, kvs3, kd, k, ey, rg3, rk, ek, qs, qn⟩ => Calls.spliced_nil ?_))))
  subst ey
  cases (show iv = Value.ref b from ry)
  obtain ⟨xs3, ep3, ha3, dk3, z3, hz3, dd3, _⟩ := dct_at I3 rg3
  obtain ⟨hk1, hk2, _⟩ := keyD_ok ek
  refine call_meetsIn PySem.F.slot_dict_get dd3.typeIs PySem.F.entry_dict_get (PySem.F.args_dict_get_3 _ _ _) (meetsH_dict_get_default (nestedKind X.prog X.w) a b z3 fv) ⟨room_n hr, k, xs3, ⟨R.nest I3 kd k (.ref b) (.ref b) hk1 rk rfl, hk2⟩, dd3, ?_⟩
  rcases dk3.val (k := k) with ⟨e1, e2⟩ | ⟨d', b', u', v', e1, e2, r1, r2⟩
  · rw [e2]
    exact ⟨zz, H3, I3.tok _, rz, qn e1⟩
  · rw [e2]
    exact ⟨v', H3, I3.tok _, r1, qs d' e1 v' r2⟩
def rGet2 (fo fk fx : RE) : RE := fun δ G => (fo δ G).bind fun x => (dctG G x).bind fun kvs => (fk δ G).bind fun y => (fx δ G).bind fun z => (keyD y).bind fun k => match valD kvs k with
  | some d => some d
  | none => some z
theorem dr_get2 (hr : RoomG j X.A) (ho : DR X o fa) (he : DR X e fb) (hf : DR X f fc) (m : M2 X o "get" apos e f cpos := by exact ⟨rfl, rfl, rfl, rfl⟩) : DR X (.Call (.Attribute o "get" apos) [e, f] [] cpos) (rGet2 fa fb fc) := PE.imp (pe_nget2 hr ho he hf m) fun σ H Q ⟨δ, G, γ, d, S, ef, q⟩ => by
  simp only [rGet2, Option.bind_eq_some_iff] at ef
  obtain ⟨x, e1, kvs, e2, y, e3, z, e4, k, e5, e6⟩ := ef
  refine ⟨δ, G, γ, x, S, e1, fun v H1 s1 r1 => ?_⟩
  obtain ⟨a, i, rfl, rfl, hi, eg, rg⟩ := dctG_ok (S.same s1).toRo r1 e2
  refine ⟨a, rfl, ⟨γ, kvs, rg⟩, δ, G, γ, y, S.same s1, e3, fun u H2 s2 r2 => ⟨δ, G, γ, z, (S.same s1).same s2, e4, fun w H3 s3 r3 => ?_⟩⟩
  have s13 := s1.trans (s2.trans s3)
  obtain ⟨b, rfl⟩ := key_ref e5 r2
  refine ⟨b, γ, kvs, y, k, rfl, (S.same s13).toRo.at eg hi, R.same s3 r2, e5, fun d' ed v hv => ?_, fun ed => ?_⟩
  · rw [ed] at e6
    cases e6
    exact q v H3 s13 hv
  · rw [ed] at e6
    cases e6
    exact q w H3 s13 r3

/-! ### displays with tuple keys: a root -/
def lKV (K : FK) (f : Env' → Hs → Option (List (D × D))) (σ : L2.St) (H : Hp) (Q : List (V × V) → Hp → Prop) : Prop := ∃ δ G γ kvs, Sx K H δ G σ γ ∧ f δ G = some kvs ∧ ∀ ps H', Same H H' → (∃ vs us, ps = vs.zip us ∧ vs.length = us.length ∧ Rs K γ H' (kvs.map (·.1)) vs ∧ Rs K γ H' (kvs.map (·.2)) us) → Q ps H'
structure DKV (X : Cx) (pos : Pos) (keys : List (Option Expr)) (values : List Expr) (f : Env' → Hs → Option (List (D × D))) : Prop where
  ex : ∃ trs, PPs X pos keys values trs ∧ ∀ σ H Q, lKV X.F f σ H Q → tPairs trs σ H Q
def kvNil : Env' → Hs → Option (List (D × D)) := fun _ _ => some []
def kvCons (fk fv : RE) (f : Env' → Hs → Option (List (D × D))) : Env' → Hs → Option (List (D × D)) := fun δ G => (fk δ G).bind fun x => (fv δ G).bind fun y => (f δ G).bind fun r => some ((x, y) :: r)
theorem dkv_nil : DKV X pos [] [] kvNil := ⟨[], pps_nil, fun σ H Q ⟨δ, G, γ, kvs, S, ef, q⟩ => by
  cases ef
  exact q [] H (Same.refl H) ⟨[], [], rfl, rfl, Rs.nil, Rs.nil⟩⟩
theorem dkv_cons {k v : Expr} {keys : List (Option Expr)} {values : List Expr} {g : Env' → Hs → Option (List (D × D))} (hk : DR X k fa) (hv : DR X v fb) (hr : DKV X pos keys values g) : DKV X pos (some k :: keys) (v :: values) (kvCons fa fb g) := by
  obtain ⟨trs, h1, h2⟩ := hr.ex
  refine ⟨_, pps_cons hk hv h1, fun σ H Q ⟨δ, G, γ, kvs, S, ef, q⟩ => ?_⟩
  simp only [kvCons, Option.bind_eq_some_iff, Option.some.injEq] at ef
  obtain ⟨x, e1, y, e2, r, e3, rfl⟩ := ef
  refine ⟨δ, G, γ, x, S, e1, fun v H1 s1 r1 => ⟨δ, G, γ, y, S.same s1, e2, fun u H2 s2 r2 => h2 σ H2 _ ⟨δ, G, γ, r, (S.same s1).same s2, e3, fun ps H3 s3 hp => ?_⟩⟩⟩
  obtain ⟨vs, us, rfl, hl, p1, p2⟩ := hp
  exact q _ H3 (s1.trans (s2.trans s3)) ⟨v :: vs, u :: us, rfl, by simp [hl], Rs.cons (R.same s3 (R.same s2 r1)) p1, Rs.cons (R.same s3 r2) p2⟩
def mergeD (kvs : List (D × D)) : List (D × D) := kvs.foldl (fun acc p => putD acc p.1 p.2) []
def dctOk (kvs : List (D × D)) : Bool := kvs.all (fun p => (keyD p.1).isSome) && decide (kvs.length ≤ 15)
def eDct (f : Env' → Hs → Option (List (D × D))) : EE := fun δ G => (f δ G).bind fun kvs => if dctOk kvs = true then some (.rf G.length, G ++ [.dct (mergeD kvs)]) else none
/-- the pairs, as they are stored -/
theorem carriesN {pins : List (Addr × Obj)} {σ : L2.St} {H : Hp} {s : Shared} {γ : List Addr} (I : L2.Inv X pins σ H s) : ∀ {kvs : List (D × D)} {vs us : List V} {ws : List (Value × Value)}, (∀ p ∈ kvs, (keyD p.1).isSome = true) → Rs X.F γ H (kvs.map (·.1)) vs → Rs X.F γ H (kvs.map (·.2)) us → VV (vs.zip us) ws →
    ∃ ps : List (NestedKey × Addr × Value), CarriesH (nestedKind X.prog X.w) s.heap ws ps ∧ ps.length = kvs.length ∧ ∀ (acc : List (D × D)) (xs : List (NestedKey × Addr × Value)), DK X.F γ H acc xs → DK X.F γ H (kvs.foldl (fun acc p => putD acc p.1 p.2) acc) (storedAllH xs ps)
  | [], vs, us, ws, _, r1, r2, w => by
    rw [r1.of_nil] at w
    cases w
    exact ⟨[], trivial, rfl, fun acc xs h => h⟩
  | (kd, d) :: kvs, vs, us, ws, hk, r1, r2, w => by
    obtain ⟨v, vs', rfl, a1, a2⟩ := Rs.of_cons (d := kd) (ds := kvs.map (·.1)) r1
    obtain ⟨u, us', rfl, b1, b2⟩ := Rs.of_cons (d := d) (ds := kvs.map (·.2)) r2
    have hkd := hk _ List.mem_cons_self
    obtain ⟨k, ek⟩ := Option.isSome_iff_exists.mp hkd
    obtain ⟨b, rfl⟩ := key_ref ek a1
    obtain ⟨hk1, hk2, hk3⟩ := keyD_ok ek
    rw [List.zip_cons_cons] at w
    cases w with
    | @cons p q ps qs hpq t =>
      obtain ⟨w1, w2⟩ := hpq
      obtain ⟨q1, q2⟩ := q
      cases (show q1 = Value.ref b from w1)
      obtain ⟨ps', c, hl, hput⟩ := carriesN I (fun p hp => hk p (List.mem_cons_of_mem _ hp)) a2 b2 t
      exact ⟨(k, b, q2) :: ps', ⟨rfl, rfl, ⟨R.nest I kd k (.ref b) (.ref b) hk1 a1 rfl, hk2⟩, c⟩, by simp [hl], fun acc xs h => hput _ _ (h.put ⟨hk1, hk2, hk3⟩ a1 w2 b1)⟩
theorem storedAll_keys : ∀ (ps : List (NestedKey × Addr × Value)) (xs : List (NestedKey × Addr × Value)), (storedAllH xs ps).length ≤ xs.length + ps.length
  | [], xs => by simp [storedAllH]
  | p :: ps, xs => by
    have h := storedAll_keys ps (storedH xs p.1 p.2.1 p.2.2)
    have h1 : (storedH xs p.1 p.2.1 p.2.2).length ≤ xs.length + 1 := by
      unfold storedH
      split
      · simp
      · simp
    show (storedAllH (storedH xs p.1 p.2.1 p.2.2) ps).length ≤ _
    rw [List.length_cons]
    omega
def tDN (K : FK) (trs : List (TE × TE)) : TE := fun σ H Q => ∀ p, H p = none → tPairs trs σ (upd H p (dctO K p [] 0)) fun ps H2 => H2 p = some (dctO K p [] 0) ∧ ∃ (γ : List Addr) (kvs : List (D × D)) (vs us : List V), ps = vs.zip us ∧ Rs K γ H2 (kvs.map (·.1)) vs ∧ Rs K γ H2 (kvs.map (·.2)) us ∧ dctOk kvs = true ∧
  ∀ ho xs ep, ho = dctO K p xs ep → (xs.map (·.1)).Nodup → DK K γ H2 (mergeD kvs) xs → Q (.ref p) (upd H2 p ho)
theorem pe_dn {keys : List (Option Expr)} {values : List Expr} {trs : List (TE × TE)} (hr : RoomG j X.A) (h : PPs X pos keys values trs) (hall : keys.all (·.isSome) = true) (hl : keys.length = values.length) (h0 : keys ≠ []) (h15 : keys.length ≤ 15) :
    PE X (.Dict keys values pos) (tDN X.F trs) := by
  refine ⟨fun pins s σ H Q I q => ?_⟩
  have hn := I.hok.fresh (Nat.le_refl s.heap.objs.size)
  have zz : (s.heap.objs.size == sysModules) = false := beq_eq_false_iff_ne.mpr (Ne.symm (Nat.ne_of_lt I.big))
  have I1 := I.laid (a := s.heap.objs.size) (o := dctO X.F s.heap.objs.size [] 0) (h' := s.heap.push { cls := .type "dict", data := .dict #[] }) (t' := s.toks) (fun _ _ q => Heap.get?_push_of_some _ q) (Nat.le_refl _)
    ⟨⟨zz, Nat.zero_le _, _, #[], Heap.get?_push_size _ rfl, ⟨rfl, rfl, rfl⟩, rfl, rfl⟩, ⟨_, Heap.get?_push_size _ rfl⟩, fun h1 h2 ⟨z1, hl1, o1, es1, e1, r1⟩ k => ⟨z1, hl1, o1, es1, k o1 e1, r1⟩⟩
  have hpl := pairTrees_length keys values X.env pos hall hl
  rw [arm_eval_Dict, zip_pairTrees keys values X.env pos hall hl, dictDisplay_pairs (pairTrees keys values X.env pos) (fun z => h0 (by rw [z] at hpl; exact List.eq_nil_of_length_eq_zero hpl.symm)) (by omega)]
  have hu : (nestedKind X.prog X.w).room X.A := by
    show X.A.units + 8 < cLine
    have := hr.un
    omega
  refine wpAny_bind (wpAny_standAt (wpAny_bind (wpAny_subDictH (knd := nestedKind X.prog X.w) (Q := fun d s' => wpAny (model X.prog X.w) X.A (pure (Value.ref d)) (EP X pins σ Q) X.xe s') hu (by omega) ?_)))
  refine thn (h.run pins _ σ _ _ I1 (q _ hn)) fun ws s2 ⟨ps, H2, I2, rel, e, γ, kvs, vs, us, ep, r1, r2, ok, q2⟩ => ?_
  subst ep
  simp only [dctOk, Bool.and_eq_true, List.all_eq_true, decide_eq_true_eq] at ok
  obtain ⟨cs, c, hcl, hput⟩ := carriesN I2 ok.1 r1 r2 rel
  obtain ⟨⟨_, _, o, es, ho, hx, hd, he⟩, _⟩ := (show ObjOk X.prog X.w H2 s2.heap s.heap.objs.size (dctO X.F s.heap.objs.size [] 0) from I2.hok _ _ e)
  have dk0 : DK X.F γ H2 [] [] := rfl
  have dk1 := hput [] [] dk0
  refine ⟨cs, c, ⟨o, es, 0, ho, hx, hd, by rw [he]; rfl, fun x hx => (by simp at hx), List.nodup_nil⟩, fun h' tk dd' hs => wpAny_pure ?_⟩
  have hsl := storedAll_keys cs []
  have hsz : (storedAllH [] cs).length ≤ sizeLine := by
    have : (15 : Nat) ≤ sizeLine := by decide
    simp at hsl
    omega
  obtain ⟨ep', ok'⟩ := dct_ok (K := X.F) zz hsz dd'
  have hex : ∃ q, h'.get? s.heap.objs.size = some q := let ⟨q, _, _, hq, _⟩ := dd'; ⟨q, hq⟩
  have hnd : ((storedAllH [] cs).map (·.1)).Nodup := by
    obtain ⟨_, _, _, _, _, _, _, _, hn⟩ := dd'
    exact hn
  exact ⟨.ref s.heap.objs.size, _, d_write I2 (by rw [e]; exact True.intro) hs hex (ok' _), rfl, q2 _ _ ep' rfl hnd dk1⟩
theorem de_dct {keys : List (Option Expr)} {values : List Expr} {g : Env' → Hs → Option (List (D × D))} (hr : RoomG j X.A) (h : DKV X pos keys values g) (hall : keys.all (·.isSome) = true := by rfl) (hl : keys.length = values.length := by rfl) (h0 : keys ≠ [] := by simp) (h15 : keys.length ≤ 15 := by decide) :
    DE X (.Dict keys values pos) (eDct g) := by
  obtain ⟨trs, h1, h2⟩ := h.ex
  refine PE.imp (pe_dn hr h1 hall hl h0 h15) fun σ H Q ⟨δ, G, γ, d, G', S, ef, q⟩ p hp => h2 σ _ _ ?_
  simp only [eDct, Option.bind_eq_some_iff] at ef
  obtain ⟨kvs, e1, e2⟩ := ef
  split at e2
  case isFalse => cases e2
  rename_i ok
  cases e2
  have s1 := same_upd (o := dctO X.F p [] 0) hp
  refine ⟨δ, G, γ, kvs, S.same s1, e1, fun ps H2 s2 hps => ?_⟩
  obtain ⟨vs, us, rfl, hvl, r1, r2⟩ := hps
  refine ⟨s2 _ _ upd_same, γ, kvs, vs, us, rfl, r1, r2, ok, fun ho xs ep eho hn dk => ?_⟩
  subst eho
  have np : p ∉ γ := fun z => S.ex p z hp
  have hp2 : H2 p = some (dctO X.F p [] 0) := s2 _ _ upd_same
  have kp : Kp H2 (upd H2 p (dctO X.F p xs ep)) := fun c o e i => by
    rw [upd_ne]
    · exact e
    · intro zz
      subst zz
      rw [hp2] at e
      cases e
      cases i
  have S2 : Sx X.F H2 δ G σ γ := (S.same s1).same s2
  -- a new root, its address already laid
  have S3 : Sx X.F (upd H2 p (dctO X.F p xs ep)) δ G σ γ :=
    { len := S2.len
      nd := S2.nd
      ex := fun b z => by
        unfold upd
        split
        · simp
        · exact S2.ex b z
      rt := fun k x b e1 e2 => by
        have nb : b ≠ p := fun z => np (by rw [← z]; exact List.mem_of_getElem? e2)
        have q := S2.rt k x b e1 e2
        cases x with
        | lst ds =>
          obtain ⟨ws, h1, h2⟩ := q
          exact ⟨ws, by rw [upd_ne nb]; exact h1, Rs.mono kp Pre.refl _ _ h2⟩
        | dct kvs =>
          obtain ⟨xs, ep, h1, hn, h2⟩ := q
          exact ⟨xs, ep, by rw [upd_ne nb]; exact h1, hn, h2.mono kp Pre.refl⟩
        | ins nx ns ds =>
          obtain ⟨C, dx, ws, h1, hc, h2⟩ := q
          exact ⟨C, dx, ws, by rw [upd_ne nb]; exact h1, hc, Rs.mono kp Pre.refl _ _ h2⟩
        | dead => trivial
      dl := S2.dl
      sl := fun i d e => by
        obtain ⟨v, h1, h2⟩ := S2.sl i d e
        exact ⟨v, h1, R.mono kp Pre.refl _ _ h2⟩ }
  have fin : ∀ {K : FK} {HH : Hp} (S3 : Sx K HH δ G σ γ), HH p ≠ none → RG K (γ ++ [p]) HH (.dct (mergeD kvs)) p → Sx K HH δ (G ++ [.dct (mergeD kvs)]) σ (γ ++ [p]) := by
    intro K HH S3 hex rg
    refine ⟨⟨by simp [S3.len], ?_, fun b z => ?_, fun k o b e1 e2 => ?_⟩, S3.dl, fun i d e => ?_⟩
    · rw [List.nodup_append]
      exact ⟨S3.nd, by simp, fun a ha b hb e => by
        have : b = p := by simpa using hb
        subst this
        subst e
        exact np ha⟩
    · rcases List.mem_append.mp z with z | z
      · exact S3.ex b z
      · have : b = p := by simpa using z
        subst this
        exact hex
    · by_cases hk : k < G.length
      · rw [List.getElem?_append_left hk] at e1
        rw [List.getElem?_append_left (by rw [← S3.len]; exact hk)] at e2
        exact RG.pre Pre.app (S3.rt k o b e1 e2)
      · have hk' : k = G.length := by
          have := (List.getElem?_eq_some_iff.mp e1).1
          simp at this
          omega
        subst hk'
        rw [List.getElem?_append_right (Nat.le_refl _)] at e1
        rw [S3.len, List.getElem?_append_right (Nat.le_refl _)] at e2
        simp at e1 e2
        subst e1 e2
        exact rg
    · obtain ⟨v, h1, h2⟩ := S3.sl i d e
      exact ⟨v, h1, R.mono Kp.refl Pre.app _ _ h2⟩
  have S4 := fin S3 (by rw [upd_same]; simp) ⟨xs, ep, upd_same, hn, dk.mono kp Pre.app⟩
  refine q _ _ (γ ++ [p]) ⟨fun b o eb _ => ?_, fun b eb => ?_, List.prefix_append _ _, fun b z => ?_⟩ S4 ?_
  · rw [upd_ne (ne_of_none eb hp)]
    exact s2 _ _ (s1 _ _ eb)
  · unfold upd
    split
    · simp
    · exact Same.none' s2 (Same.none' s1 eb)
  · rcases List.mem_append.mp z with z | z
    · exact .inl z
    · have : b = p := by simpa using z
      subst this
      exact .inr hp
  · simp only [R]
    exact ⟨p, rfl, by rw [S.len, List.getElem?_append_right (Nat.le_refl _)]; simp⟩
/-- {} -/
def eDct0 : EE := fun _ G => some (.rf G.length, G ++ [.dct []])
theorem de_dct0 : DE X (.Dict [] [] pos) eDct0 := by
  refine ⟨fun pins s σ H Q I ⟨δ, G, γ, d, G', S, ef, q⟩ => ?_⟩
  cases ef
  have hn := I.hok.fresh (Nat.le_refl s.heap.objs.size)
  have zz : (s.heap.objs.size == sysModules) = false := beq_eq_false_iff_ne.mpr (Ne.symm (Nat.ne_of_lt I.big))
  have I1 := I.laid (a := s.heap.objs.size) (o := dctO X.F s.heap.objs.size [] 0) (h' := s.heap.push { cls := .type "dict", data := .dict #[] }) (t' := s.toks) (fun _ _ q => Heap.get?_push_of_some _ q) (Nat.le_refl _)
    ⟨⟨zz, Nat.zero_le _, _, #[], Heap.get?_push_size _ rfl, ⟨rfl, rfl, rfl⟩, rfl, rfl⟩, ⟨_, Heap.get?_push_size _ rfl⟩, fun h1 h2 ⟨z1, hl1, o1, es1, e1, r1⟩ k => ⟨z1, hl1, o1, es1, k o1 e1, r1⟩⟩
  obtain ⟨a2, S2, r2⟩ := S.pushO (o := .dct []) (ho := dctO X.F s.heap.objs.size [] 0) hn ⟨[], 0, upd_same, List.nodup_nil, rfl⟩
  exact wpAny_Dict_empty ⟨.ref s.heap.objs.size, _, I1, rfl, q _ _ _ a2 S2 r2⟩
end
end FL
namespace FL
open PySem PySem.Spec PyProof.Rows L2

section
variable {X : Cx} {j : Nat} {a b e f o tg : Expr} {pos apos cpos : Pos} {fa fb fc : RE} {ga gb gc : EE} {ty tx td : TE} {p : Bool}
/-! ### for k in d, where the dict stays -/
def Itn (K : FK) (a : Addr) (xs : List (NestedKey × Addr × Value)) (ep : Nat) : It :=
  ⟨fun i H => H a = some (dctO K a xs ep) ∧ i < xs.length, fun i H x H' => H' = H ∧ ∃ q, xs[i]? = some q ∧ x = .ref q.2.1, fun i H => H a = some (dctO K a xs ep) ∧ xs.length ≤ i⟩
theorem dct_obj {P : Program} {K : FK} {H : Hp} {h : Heap} {a : Addr} {xs : List (NestedKey × Addr × Value)} {ep : Nat} (ok : HOk P K.wd H h) (e : H a = some (dctO K a xs ep)) : (a == sysModules) = false ∧ xs.length ≤ sizeLine ∧ ∃ o es, h.get? a = some o ∧ o.ExactDict ∧ o.data = .dict es ep ∧ es.toList = xs.map (ent0 K) := by
  obtain ⟨⟨z, hl, r⟩, _⟩ := (show ObjOk P K.wd H h a (dctO K a xs ep) from ok a _ e)
  exact ⟨z, hl, r⟩
theorem ents_size {K : FK} {es : Array DictEntry} {xs : List (NestedKey × Addr × Value)} (he : es.toList = xs.map (ent0 K)) : es.size = xs.length := by
  have := congrArg List.length he
  simpa using this
theorem ents_get {K : FK} {es : Array DictEntry} {xs : List (NestedKey × Addr × Value)} (he : es.toList = xs.map (ent0 K)) {i : Nat} {q : NestedKey × Addr × Value} (h : xs[i]? = some q) : es[i]? = some (ent0 K q) := by
  rw [← Array.getElem?_toList, he, List.getElem?_map, h]
  rfl
theorem turn_n {P : Program} {K : FK} {d : Addr} {xs : List (NestedKey × Addr × Value)} {ep : Nat} (it : Addr) : Turn P K.wd K tg (Itn K d xs ep) [it] it (fun i h => h.IsKeyIter it d i xs.length ep) where
  mem := by simp
  obj := fun i h st b hb => by
    have e : b = it := by simpa using hb
    subst e
    obtain ⟨oi, e, c, dd⟩ := st
    exact ⟨oi, e, fun v z => by rw [dd] at z; cases z⟩
  keep := fun i h h' st k => st.at fun oi e => k it (by simp) oi e
  item := by
    intro X hP hw hK hc i pins s σ H E I hf st hg
    obtain ⟨Kf, Kw⟩ := K
    subst hP
    cases hw
    cases hK
    obtain ⟨hd, hi⟩ := hg
    obtain ⟨f0, f1, f2, f3, f4, f5⟩ := hf it (by simp)
    obtain ⟨z, hl, o, es, ho, hx, hdt, he⟩ := dct_obj I.hok hd
    have hq : xs[i]? = some xs[i] := List.getElem?_eq_getElem hi
    refine next_key_item st ho hdt (ents_size he) (ents_get he hq) fun h' st' sb => ?_
    have I1 : L2.Inv X pins σ H { s with heap := h' } := I.turned (t' := s.toks) (fun b ob hb e => (sb.2 b hb).trans e) f0 f1 f3 f4 f5
    obtain ⟨oi, e, c, dd⟩ := id st'
    exact ⟨_, rfl, go_of (s := { s with heap := h' }) e c dd (by decide) ⟨.ref xs[i].2.1, H, I1, rfl, ⟨rfl, _, hq, rfl⟩, st', fun b hb => (hf b hb).1⟩⟩
  done := by
    intro X hP hw hK hc i pins s σ H E I hf st hg
    obtain ⟨Kf, Kw⟩ := K
    subst hP
    cases hw
    cases hK
    obtain ⟨hd, hi⟩ := hg
    obtain ⟨f0, f1, f2, f3, f4, f5⟩ := hf it (by simp)
    obtain ⟨z, hl, o, es, ho, hx, hdt, he⟩ := dct_obj I.hok hd
    exact next_key_end (I.ok.hd hc) st ho hdt (ents_size he) hi fun h' eb => ⟨rfl, I.turned (t' := s.toks) (fun b ob hb e => eb b ob hb e) f0 f1 f3 f4 f5⟩
  self := fun A i s Q E st h => wpAny_pyIter_keyiter st h
def iN (K : FK) (td : TE) : TI := fun σ H R => td σ H fun x H1 => ∃ d xs ep, x = .ref d ∧ H1 d = some (dctO K d xs ep) ∧ R (Itn K d xs ep) H1
theorem pi_n (he : PE X e td) : PI X tg e (iN X.F td) := by
  refine ⟨fun pins s σ H R I h => ?_⟩
  refine thn (he.run pins s σ H _ I h) fun u s1 ⟨x, H1, I1, rx, d, xs, ep, ex, hd, q⟩ => ?_
  subst ex
  obtain rfl : u = Value.ref d := rx
  obtain ⟨z, hl, o, es, ho, hx, hdt, he⟩ := dct_obj I1.hok hd
  refine iter_keys z ho hx hdt (pi_one (tk := s1.toks) I1 _ (turn_n (K := X.F) _) ⟨_, Heap.get?_push_size _ rfl, rfl, ?_⟩ q)
  rw [ents_size he] <;> rfl
theorem DK.get {K : FK} {γ : List Addr} {H : Hp} : ∀ {kvs : List (D × D)} {xs : List (NestedKey × Addr × Value)} {i : Nat} {q : NestedKey × Addr × Value}, DK K γ H kvs xs → xs[i]? = some q → ∃ d, (kvs.map (·.1))[i]? = some d ∧ R K γ H d (.ref q.2.1)
  | [], xs, i, q, h, e => by
    have : xs = [] := h
    rw [this] at e
    simp at e
  | (k, d) :: r, xs, i, q, h, e => by
    obtain ⟨q0, b, u, t, v, rfl, h1, h2, h3, h4, h5⟩ := h
    cases i with
    | zero =>
      have : (q0, b, u) = q := by simpa using e
      subst this
      exact ⟨k, rfl, h2⟩
    | succ i =>
      obtain ⟨d', e1, e2⟩ := DK.get (i := i) h5 (by simpa using e)
      exact ⟨d', by simpa using e1, e2⟩
theorem itOk_n {K : FK} {γ : List Addr} {H : Hp} {a : Addr} {kvs : List (D × D)} {xs : List (NestedKey × Addr × Value)} {ep : Nat} (h : H a = some (dctO K a xs ep)) (dk : DK K γ H kvs xs) : ItOk K true γ (kvs.map (·.1)) (Itn K a xs ep) H := by
  intro H1 s i
  have s' : Same H H1 := by simpa [Stp] using s
  have h1 := s' _ _ h
  have dk1 := dk.mono (Kp.of_same s') (Pre.refl (γ := γ))
  have hl := dk.len
  rw [List.length_map]
  refine ⟨fun hi => ⟨h1, by omega⟩, fun hi => ⟨h1, by omega⟩, fun hlt x H2 y => ?_⟩
  obtain ⟨rfl, q, e1, rfl⟩ := y
  obtain ⟨d, e2, e3⟩ := dk1.get e1
  exact ⟨Same.refl _, d, e2, e3⟩
def iDctR (f : RE) : RA := fun δ G => (f δ G).bind fun x => (dctG G x).bind fun kvs => some (kvs.map (·.1))
theorem dir_dct (h : DR X e fa) : DIR X true tg e (iDctR fa) := PI.imp (pi_n h) fun σ H Q ⟨δ, G, γ, ds, S, ef, q⟩ => by
  simp only [iDctR, Option.bind_eq_some_iff, Option.some.injEq] at ef
  obtain ⟨x, e1, kvs, e2, rfl⟩ := ef
  refine ⟨δ, G, γ, x, S, e1, fun v H1 s1 r1 => ?_⟩
  obtain ⟨a, i, rfl, rfl, hi, eg, xs, ep, h1, hn, dk⟩ := dctG_ok (S.same s1).toRo r1 e2
  exact ⟨a, xs, ep, rfl, h1, q _ H1 s1 (itOk_n h1 dk)⟩

/-! ### sorted(d) -/
def rSrtN (K : FK) : List V → Hp → VK → Prop := fun vs H Q => ∃ (a : Addr) (γ : List Addr) (kvs : List (D × D)), vs = [V.ref a] ∧ RG K γ H (.dct kvs) a ∧ sortable (kvs.map (·.1)) = true ∧
  ∀ ws p, Rs K γ H (srtd (kvs.map (·.1))) ws → H p = none → Q (.ref p) (upd H p (.lst ws))
theorem DK.rs {K : FK} {γ : List Addr} {H : Hp} : ∀ {kvs : List (D × D)} {xs : List (NestedKey × Addr × Value)}, DK K γ H kvs xs → Rs K γ H (kvs.map (·.1)) (xs.map fun x => V.ref x.2.1)
  | [], xs, h => by
    have : xs = [] := h
    rw [this]
    exact Rs.nil
  | (k, d) :: r, xs, h => by
    obtain ⟨q0, b, u, t, v, rfl, h1, h2, h3, h4, h5⟩ := h
    exact Rs.cons h2 (DK.rs h5)
mutual
theorem reads_in {h : Heap} : ∀ {v : Value} {d : PyData} {as : List Addr}, Reads h v d as → d.hasDict = false → ∃ as', Reads h v d as' ∧ ∀ a ∈ as', a < h.objs.size
  | _, _, _, .none, _ => ⟨_, .none, fun a z => by simp at z⟩
  | _, _, _, .bool b, _ => ⟨_, .bool b, fun a z => by simp at z⟩
  | _, _, _, .int i t, _ => ⟨_, .int i t, fun a z => by simp at z⟩
  | _, _, _, .str x t, _ => ⟨_, .str x t, fun a z => by simp at z⟩
  | _, _, _, .list (a := a) h1 h2 h3 h4, hn => by
    obtain ⟨as', r, hl⟩ := readsAll_in h4 (by simpa [PyData.hasDict] using hn)
    refine ⟨_, .list h1 h2 h3 r, fun b z => ?_⟩
    rcases List.mem_cons.mp z with rfl | z
    · exact Heap.lt_size h1
    · exact hl b z
  | _, _, _, .tuple h1 h2 h3 h4, hn => by
    obtain ⟨as', r, hl⟩ := readsAll_in h4 (by simpa [PyData.hasDict] using hn)
    exact ⟨_, .tuple h1 h2 h3 r, hl⟩
  | _, _, _, .dict h1 h2 h3 h4 h5, hn => by simp [PyData.hasDict] at hn
theorem readsAll_in {h : Heap} : ∀ {vs : List Value} {ds : List PyData} {as : List Addr}, ReadsAll h vs ds as → PyData.hasDictAll ds = false → ∃ as', ReadsAll h vs ds as' ∧ ∀ a ∈ as', a < h.objs.size
  | _, _, _, .nil, _ => ⟨_, .nil, fun a z => by simp at z⟩
  | _, _, _, .cons h1 h2, hn => by
    simp only [PyData.hasDictAll, Bool.or_eq_false_iff] at hn
    obtain ⟨a1, r1, l1⟩ := reads_in h1 hn.1
    obtain ⟨a2, r2, l2⟩ := readsAll_in h2 hn.2
    refine ⟨_, .cons r1 r2, fun b z => ?_⟩
    rcases List.mem_append.mp z with z | z
    · exact l1 b z
    · exact l2 b z
end
theorem cr_srtN (hc : X.calm = true) (hr : RoomG j X.A) : CallR X (.builtin "sorted") (rSrtN X.F) := by
  intro pins s σ H vs us Q I r h
  obtain ⟨a, γ, kvs, rfl, rg, so, q⟩ := h
  obtain ⟨u, rfl, ru⟩ := vals1 r
  obtain rfl : u = Value.ref a := ru
  obtain ⟨xs, ep, ha, dk, z, hl, dd, o, es, ho, hx, hd, he⟩ := dct_at I rg
  obtain ⟨h1, h2, h3, h4⟩ := sortable_facts so
  have hsz := ents_size he
  refine Calls.call_function_entry PyProof.Rows.kind_sorted PyProof.Rows.plain_sorted PyProof.Rows.entry_sorted (PyProof.Rows.args_sorted1 _) ?_
  unfold Builtin.«sorted»
  refine wpAny_bind (m := checkCount "sorted" 1 1 _) (wpAny_pure ?_)
  refine wpAny_bind (PySem.W.kdu_collect (A := X.A.in1) (kdl_raw z hx hd) (I.ok.hd hc) ho (by omega) fun h' tk acc hk hacc => ?_)
  have ea : acc.toList = xs.map fun x => Value.ref x.2.1 := by
    have hal : acc.toList.length = xs.length := by rw [Array.length_toList, hacc.1]; exact hsz
    apply List.ext_getElem?
    intro i
    rw [List.getElem?_map]
    cases hj : acc.toList[i]? with
    | none =>
      have h1 := List.getElem?_eq_none_iff.mp hj
      rw [List.getElem?_eq_none (by omega)]
      rfl
    | some v =>
      obtain ⟨en, hen, hv⟩ := hacc.2 i v (by rw [← Array.getElem?_toList]; exact hj)
      have hi : i < xs.length := by
        have := (List.getElem?_eq_some_iff.mp hj).1
        omega
      have hq : xs[i]? = some xs[i] := List.getElem?_eq_getElem hi
      rw [ents_get he hq] at hen
      cases hen
      rw [hq, hv]
      rfl
  have I1 : L2.Inv X pins σ H { s with heap := h', toks := tk } := I.kept hk
  have rv : Vals (xs.map fun x => V.ref x.2.1) acc.toList := by
    rw [ea]
    have := vals_refs (xs.map fun x => x.2.1)
    rw [List.map_map, List.map_map] at this
    exact this
  have e1 := each_of dk.rs rv
  have hlen : acc.toList.length = kvs.length := by rw [ea, List.length_map]; exact dk.len
  have hz7 : acc.toList.length ≤ sizeLine := by rw [ea, List.length_map]; exact hl
  refine wpAny_bind (wpAny_newList ?_ hz7)
  show wpAny _ _ _ _ _ { s with heap := h'.push (seqObj "list" acc.toList.toArray 0), toks := tk }
  have hoL : (h'.push (seqObj "list" acc.toList.toArray 0)).get? h'.objs.size = some (seqObj "list" acc.toList.toArray 0) := Heap.get?_push_size _ rfl
  have e2 : PySem.W.EachIs (fun v b => ∃ as, Reads (h'.push (seqObj "list" acc.toList.toArray 0)) v (D.py b) as ∧ h'.objs.size ∉ as) acc.toList (kvs.map (·.1)) := EachIs.imp' e1 fun u d hd ⟨v, w, rr⟩ => by
    obtain ⟨as, rd⟩ := Dp.reads I1 d.py v u (R.dp d v (h2 d hd).1 rr) w
    obtain ⟨as', rd', lt⟩ := reads_in rd (PyData.hasDict_of_canLay _ (d.lay (h2 d hd).1))
    exact ⟨as', PyProof.Rows.Reads.keeps (fun _ _ e => Heap.get?_push_of_some _ e) rd', fun zz => Nat.lt_irrefl _ (lt _ zz)⟩
  refine wpAny_bind (wpAny_holding (PySem.W.list_sort_data (enc := D.py) hoL e1 e2 ?_ ?_ (by rw [List.length_map, ← hlen]; exact hz7) (fun d hd => ?_) fun out hol hout => ?_))
  · intro d hd d' hd'
    obtain ⟨x, hx, rfl⟩ := List.mem_map.mp hd
    obtain ⟨y, hy, rfl⟩ := List.mem_map.mp hd'
    exact h1 x hx y hy
  · rcases h4 with h4 | h4
    · left
      intro d hd
      obtain ⟨x, hx, rfl⟩ := List.mem_map.mp hd
      obtain ⟨y, r, rfl⟩ := h4 x hx
      exact ⟨y.py, pys r, by simp only [D.py, pys]⟩
    · right
      intro d hd
      obtain ⟨x, hx, rfl⟩ := List.mem_map.mp hd
      exact h4 x hx
  · have q1 := (h2 d hd).2
    have q2 := D.depth d
    have q3 := hr.un
    show X.A.units + 1 + 1 + _ < _
    omega
  · obtain ⟨ws, w1, w2⟩ := of_each hout
    obtain ⟨e', he'⟩ := PyProof.Rows.sortedHeap_at (vs := acc.toList) (out := List.toArray out) hoL
    refine wpAny_pure ⟨_, rfl, .ref h'.objs.size, upd H h'.objs.size (.lst ws), I1.laid (t' := tk) (fun b u e => ?_) (Nat.le_refl _) ⟨?_, out, e', w1, he'⟩, rfl, q ws _ w2 (I1.hok.fresh (Nat.le_refl _))⟩
    · have hb : b < h'.objs.size := Heap.lt_size e
      rw [PyProof.Rows.sortedHeap_old (Nat.ne_of_lt hb) (by rw [size_push']; exact Nat.lt_succ_of_lt hb)]
      exact Heap.get?_push_of_some _ e
    · rw [w1.length, hol, List.length_map, ← hlen]
      exact hz7
def gSortedN : Hs → List D → Option D := fun G ds => match ds with
  | [d] => (dctG G d).bind fun kvs => if sortable (kvs.map (·.1)) = true then some (.fl (srtd (kvs.map (·.1)))) else none
  | _ => none
theorem gSortedN_ok {K : FK} : CallG K (fun xs H Q => rSrtN K xs H fun v H1 => ∃ p vs, v = .ref p ∧ H1 p = some (.lst vs) ∧ ∀ od, Q v (upd H1 p (.frz od (.lst vs)))) gSortedN := by
  intro G γ H ds d vs Q r rs e q
  unfold gSortedN at e
  split at e
  · obtain ⟨kvs, e1, e2⟩ := Option.bind_eq_some_iff.mp e
    split at e2
    case isFalse => cases e2
    rename_i so
    cases e2
    obtain ⟨v, rfl, h⟩ := rs.one
    obtain ⟨a, i, rfl, rfl, hi, eg, rg⟩ := dctG_ok r h e1
    exact ⟨a, γ, kvs, rfl, rg, so, fun ws p hw hp => frz_end hp hw q⟩
  · cases e

/-! ### displays with keys that are written ints and texts: frozen -/
def tFrzD (t : TE) : TE := fun σ H Q => t σ H fun v H1 => ∃ p kvs, v = .ref p ∧ H1 p = some (.dK kvs) ∧ ∀ od, Q v (upd H1 p (.frz od (.dK kvs)))
theorem pe_frzD {t : TE} (h : PE X e t) : PE X e (tFrzD t) := by
  refine ⟨fun pins s σ H Q I hw => ?_⟩
  refine thn (h.run pins s σ H _ I hw) fun u s1 ⟨v, H1, I1, r1, p, vs, ev, hp, q⟩ => ?_
  obtain ⟨od, I2⟩ := I1.lock hp True.intro
  exact ⟨v, _, I2, r1, q od⟩
def lFs (K : FK) (fs : RA) (ks : List L2.Key) (σ : L2.St) (H : Hp) (Q : List (V × V) → Hp → Prop) : Prop := ∃ δ G γ ds, Sx K H δ G σ γ ∧ fs δ G = some ds ∧ ∀ vs H', Same H H' → Rs K γ H' ds vs → Q ((ks.map kV).zip vs) H'
structure DFd (X : Cx) (pos : Pos) (keys : List (Option Expr)) (values : List Expr) (ks : List L2.Key) (fs : RA) : Prop where
  ex : ∃ trs, PPs X pos keys values trs ∧ ∀ σ H Q, lFs X.F fs ks σ H Q → tPairs trs σ H Q
theorem dfd_nil : DFd X pos [] [] [] rNil := ⟨[], pps_nil, fun σ H Q ⟨δ, G, γ, kvs, S, ef, q⟩ => by
  cases ef
  exact q [] H (Same.refl H) Rs.nil⟩
theorem dfd_cons {k v : Expr} {c : L2.Key} {keys : List (Option Expr)} {values : List Expr} {ks : List L2.Key} {fs : RA} (hk : PE X k (tC (kV c))) (hv : DR X v fa) (hr : DFd X pos keys values ks fs) : DFd X pos (some k :: keys) (v :: values) (c :: ks) (rCons fa fs) := by
  obtain ⟨trs, h1, h2⟩ := hr.ex
  refine ⟨_, pps_cons hk hv h1, fun σ H Q ⟨δ, G, γ, ds, S, ef, q⟩ => ?_⟩
  simp only [rCons, Option.bind_eq_some_iff, Option.some.injEq] at ef
  obtain ⟨x, e1, r, e3, rfl⟩ := ef
  refine ⟨δ, G, γ, x, S, e1, fun v H1 s1 r1 => h2 σ H1 _ ⟨δ, G, γ, r, S.same s1, e3, fun vs H3 s3 hp => ?_⟩⟩
  exact q (v :: vs) H3 (s1.trans s3) (Rs.cons (R.same s3 r1) hp)
theorem merge_zip : ∀ {ks : List L2.Key} {vs : List V} {acc : List (L2.Key × V)}, ks.Nodup → (∀ k ∈ ks, k ∉ acc.map (·.1)) → mergeK acc (ks.zip vs) = acc ++ ks.zip vs
  | [], _, acc, _, _ => by simp [mergeK]
  | _ :: _, [], acc, _, _ => by simp [mergeK]
  | k :: ks, v :: vs, acc, nd, hk => by
    have e : putK acc k v = acc ++ [(k, v)] := by
      unfold putK
      rw [if_neg]
      intro z
      obtain ⟨p, hp, e⟩ := List.any_eq_true.mp z
      exact hk k List.mem_cons_self (List.mem_map.mpr ⟨p, hp, of_decide_eq_true e⟩)
    show mergeK (putK acc k v) (ks.zip vs) = _
    rw [e, merge_zip (List.nodup_cons.mp nd).2 (fun c hc z => ?_), List.append_assoc]
    · rfl
    · rw [List.map_append, List.mem_append] at z
      rcases z with z | z
      · exact hk c (List.mem_cons_of_mem _ hc) z
      · have : c = k := by simpa using z
        subst this
        exact (List.nodup_cons.mp nd).1 hc
def rFd (ks : List L2.Key) (fs : RA) : RE := fun δ G => (fs δ G).bind fun ds => if ks.length = ds.length then some (.fd ks ds) else none
theorem dr_fd {keys : List (Option Expr)} {values : List Expr} {ks : List L2.Key} {fs : RA} (h : DFd X pos keys values ks fs) (hn : ks.Nodup := by decide) (hall : keys.all (·.isSome) = true := by rfl) (hl : keys.length = values.length := by rfl) (h0 : keys ≠ [] := by simp) (h15 : keys.length ≤ 15 := by decide) (hk15 : ks.length ≤ 15 := by decide) :
    DR X (.Dict keys values pos) (rFd ks fs) := by
  obtain ⟨trs, h1, h2⟩ := h.ex
  refine PE.imp (pe_frzD (pe_disp h1 hall hl h0 h15)) fun σ H Q ⟨δ, G, γ, d, S, ef, q⟩ p hp => h2 σ _ _ ?_
  simp only [rFd, Option.bind_eq_some_iff] at ef
  obtain ⟨ds, e1, e2⟩ := ef
  split at e2
  case isFalse => cases e2
  rename_i hlen
  cases e2
  have s1 := same_upd (o := .dK []) hp
  refine ⟨δ, G, γ, ds, S.same s1, e1, fun vs H2 s2 r2 => ⟨s2 _ _ upd_same, ks.zip vs, ?_, ?_, ?_⟩⟩
  · rw [List.zip_map_left]
    rfl
  · rw [List.length_zip]
    omega
  · rw [merge_zip hn (by simp), List.nil_append]
    refine ⟨p, ks.zip vs, rfl, upd_same, fun od => ?_⟩
    rw [upd_upd]
    have hp2 : H2 p = some (.dK []) := s2 _ _ upd_same
    have kp : Kp H2 (upd H2 p (.frz od (.dK (ks.zip vs)))) := fun c o e i => by
      rw [upd_ne]
      · exact e
      · intro zz
        subst zz
        rw [hp2] at e
        cases e
        cases i
    refine q _ _ (fun b o eb => ?_) ?_
    · rw [upd_ne (ne_of_none eb hp)]
      exact s2 _ _ (s1 _ _ eb)
    · simp only [R]
      exact ⟨p, od, vs, rfl, upd_same, hlen, Rs.mono kp Pre.refl _ _ r2⟩
end
end FL
namespace FL
open PySem PySem.Spec PyProof.Rows L2
section
variable {X : Cx} {j : Nat} {a b c e : Expr} {es : List Expr} {pos p : Pos} {fa fb fc : RE} {ga gb gc : EE} {fs : RA} {gs : EA} {g g1 g2 : Hs → D → D → Option D} {op : Operator} {co co' : CmpOp}
theorem dr_opB (h : OpB X (binaryOp op) g) (ha : DR X a fa) (hb : DR X b fb) : DR X (.BinOp a op b pos) (rBin g fa fb) := by
  obtain ⟨r, h1, h2⟩ := h
  exact dr_op h1 h2 ha hb
theorem de_opB (h : OpB X (binaryOp op) g) (ha : DE X a ga) (hb : DE X b gb) : DE X (.BinOp a op b pos) (eBin g ga gb) := by
  obtain ⟨r, h1, h2⟩ := h
  exact de_op h1 h2 ha hb
theorem dr_cmpB (h : OpB X (compareOp co) g) (ha : DR X a fa) (hb : DR X b fb) (hm : behindInMarks co b = false) : DR X (.Compare a [co] [b] pos) (rBin g fa fb) := by
  obtain ⟨r, h1, h2⟩ := h
  exact dr_cmp h1 h2 ha hb hm
theorem de_cmpB (h : OpB X (compareOp co) g) (ha : DE X a ga) (hb : DE X b gb) (hm : behindInMarks co b = false) : DE X (.Compare a [co] [b] pos) (eBin g ga gb) := by
  obtain ⟨r, h1, h2⟩ := h
  exact de_cmp h1 h2 ha hb hm
theorem drt_cmpB (h : OpB X (compareOp co) g) (ha : DR X a fa) (hb : DR X b fb) (hm : behindInMarks co b = false) : DRT X (.Compare a [co] [b] pos) (rB (rBin g fa fb)) := by
  obtain ⟨r, h1, h2⟩ := h
  exact drt_cmp h1 h2 ha hb hm
theorem det_cmpB (h : OpB X (compareOp co) g) (ha : DE X a ga) (hb : DE X b gb) (hm : behindInMarks co b = false) : DET X (.Compare a [co] [b] pos) (eB (eBin g ga gb)) := by
  obtain ⟨r, h1, h2⟩ := h
  exact det_cmp h1 h2 ha hb hm
theorem dr_chnB (h : OpB X (compareOp co) g1) (h' : OpB X (compareOp co') g2) (ha : DR X a fa) (hb : DR X b fb) (hc : DR X c fc) (hm : lastMarks [co, co'] [b, c] = false := by with_unfolding_all rfl) : DR X (.Compare a [co, co'] [b, c] pos) (rChn g1 g2 fa fb fc) := by
  obtain ⟨r, h1, h2⟩ := h
  obtain ⟨r', h1', h2'⟩ := h'
  exact dr_chn h1 h1' h2 h2' ha hb hc hm
theorem drt_chnB (h : OpB X (compareOp co) g1) (h' : OpB X (compareOp co') g2) (ha : DR X a fa) (hb : DR X b fb) (hc : DR X c fc) (hm : lastMarks [co, co'] [b, c] = false := by with_unfolding_all rfl) : DRT X (.Compare a [co, co'] [b, c] pos) (rB (rChn g1 g2 fa fb fc)) := by
  obtain ⟨r, h1, h2⟩ := h
  obtain ⟨r', h1', h2'⟩ := h'
  exact drt_chn h1 h1' h2 h2' ha hb hc hm
/-! calls by one word -/
abbrev CalB (X : Cx) (f : Value) (g : Hs → List D → Option D) : Prop := ∃ r, CallR X f r ∧ CallG X.F r g
def gOr (g1 g2 : Hs → List D → Option D) : Hs → List D → Option D := fun G ds => match g1 G ds with
  | some d => some d
  | none => g2 G ds
theorem CalB.or {f : Value} {g1 g2 : Hs → List D → Option D} (h1 : CalB X f g1) (h2 : CalB X f g2) : CalB X f (gOr g1 g2) := by
  obtain ⟨r1, a1, b1⟩ := h1
  obtain ⟨r2, a2, b2⟩ := h2
  refine ⟨fun xs H Q => r1 xs H Q ∨ r2 xs H Q, fun pins s σ H xs us Q I r h => ?_, fun G γ H ds d vs Q r rs e q => ?_⟩
  · rcases h with h | h
    · exact a1 pins s σ H xs us Q I r h
    · exact a2 pins s σ H xs us Q I r h
  · unfold gOr at e
    split at e
    · rename_i d' e'
      cases e
      exact .inl (b1 G γ H ds d vs Q r rs e' q)
    · exact .inr (b2 G γ H ds d vs Q r rs e q)
theorem dr_bi {x : Str} {f : Value} {g : Hs → List D → Option D} (h : CalB X f g) (hm : X.mg x = none) (hv : bootBuiltins x = some f) (hf : (∃ id, f = .builtin id) ∨ ∃ T, f = .type T) (ha : DRA X (e :: es) fs) (hg : Gl X x := by rfl)
    (hn : x ≠ "__name__" := by decide) (hd : (x == ("__debug__" : Str)) = false := by decide) (hs : starEach (e :: es) X.env = (false, eval e X.env) :: starEach es X.env := by rfl) (hpl : (backTo pos (starEach es X.env)).any (·.1) = false := by rfl) :
    DR X (.Call (.Name x p) (e :: es) [] pos) (rCal g fs) := by
  obtain ⟨r, h1, h2⟩ := h
  rcases hf with ⟨id, rfl⟩ | ⟨T, rfl⟩
  · exact dr_callB h1 h2 hm hv ha hg hn hd hs hpl
  · exact dr_callT h1 h2 hm hv ha hg hn hd hs hpl
theorem de_bi {x : Str} {f : Value} {g : Hs → List D → Option D} (h : CalB X f g) (hm : X.mg x = none) (hv : bootBuiltins x = some f) (hf : (∃ id, f = .builtin id) ∨ ∃ T, f = .type T) (ha : DEA X (e :: es) gs) (hg : Gl X x := by rfl)
    (hn : x ≠ "__name__" := by decide) (hd : (x == ("__debug__" : Str)) = false := by decide) (hs : starEach (e :: es) X.env = (false, eval e X.env) :: starEach es X.env := by rfl) (hpl : (backTo pos (starEach es X.env)).any (·.1) = false := by rfl) :
    DE X (.Call (.Name x p) (e :: es) [] pos) (eCal g gs) := by
  obtain ⟨r, h1, h2⟩ := h
  rcases hf with ⟨id, rfl⟩ | ⟨T, rfl⟩
  · exact de_callBi h1 h2 hm hv ha hg hn hd hs hpl
  · exact de_callT h1 h2 hm hv ha hg hn hd hs hpl
abbrev gSortedA := gOr gSorted gSortedN
theorem v_len : CalB X (.builtin "len") gLen := ⟨_, call_len_seq, gLen_ok⟩
theorem v_abs : CalB X (.builtin "abs") gAbs := ⟨_, call_abs, gAbs_ok⟩
theorem v_max2 (hc : X.calm = true) : CalB X (.builtin "max") gMax2 := ⟨_, call_max2 hc, gMax2_ok⟩
theorem v_min2 (hc : X.calm = true) : CalB X (.builtin "min") gMin2 := ⟨_, call_min2 hc, gMin2_ok⟩
theorem v_all (hc : X.calm = true) : CalB X (.builtin "all") gAll := ⟨_, cr_all hc, gAll_ok⟩
theorem v_any (hc : X.calm = true) : CalB X (.builtin "any") gAny := ⟨_, cr_any hc, gAny_ok⟩
theorem v_sum (hc : X.calm = true) : CalB X (.builtin "sum") gSum := ⟨_, cr_sum hc, gSum_ok⟩
theorem v_repr (hr : RoomG j X.A) : CalB X (.builtin "repr") gRepr := ⟨_, call_reprD hr, gRepr_ok⟩
theorem v_sorted (hc : X.calm = true) (hr : RoomG j X.A) : CalB X (.builtin "sorted") gSortedA := .or ⟨_, calr_frz (cr_srt hr.toRoom), gSorted_ok⟩ ⟨_, calr_frz (cr_srtN hc hr), gSortedN_ok⟩
theorem v_int : CalB X (.type "int") gInt := ⟨_, call_int1, gInt_ok⟩
theorem v_tuple : CalB X (.type "tuple") gTuple := ⟨_, call_tuple_of, gTuple_ok⟩
theorem v_list : CalB X (.type "list") gList := ⟨_, calr_frz call_list_of, gList_ok⟩
end
theorem b_len : bootBuiltins "len" = some (.builtin "len") := by decide +kernel
theorem b_abs : bootBuiltins "abs" = some (.builtin "abs") := by decide +kernel
theorem b_max : bootBuiltins "max" = some (.builtin "max") := by decide +kernel
theorem b_min : bootBuiltins "min" = some (.builtin "min") := by decide +kernel
theorem b_all : bootBuiltins "all" = some (.builtin "all") := by decide +kernel
theorem b_any : bootBuiltins "any" = some (.builtin "any") := by decide +kernel
theorem b_sum : bootBuiltins "sum" = some (.builtin "sum") := by decide +kernel
theorem b_repr : bootBuiltins "repr" = some (.builtin "repr") := by decide +kernel
theorem b_sorted : bootBuiltins "sorted" = some (.builtin "sorted") := by decide +kernel
theorem b_int : bootBuiltins "int" = some (.type "int") := by decide +kernel
theorem b_bool : bootBuiltins "bool" = some (.type "bool") := by decide +kernel
theorem b_str : bootBuiltins "str" = some (.type "str") := by decide +kernel
theorem b_tuple : bootBuiltins "tuple" = some (.type "tuple") := by decide +kernel
theorem b_list : bootBuiltins "list" = some (.type "list") := by decide +kernel
theorem b_dict : bootBuiltins "dict" = some (.type "dict") := by decide +kernel
theorem kit_of {K : FK} {T : String} (h : ["NoneType", "bool", "int", "str", "tuple", "list", "dict"].all (fun t => decide (L2.kitB t T = some (isTy T t))) = true) :
    ∀ t ∈ ["NoneType", "bool", "int", "str", "tuple", "list", "dict"], PySem.W.kitOne K (.type t) (.type T) = some (isTy T t) := fun t ht => kit_ty (of_decide_eq_true (List.all_eq_true.mp h t ht))
section
variable {X : Cx} {e : Expr} {fa : RE} {p q pos : Pos}
theorem dr_is {T : String} {x : Str} (ha : DR X e fa) (hm : X.mg "isinstance" = none) (hmT : X.mg x = none) (hvT : bootBuiltins x = some (.type T)) (hk : ["NoneType", "bool", "int", "str", "tuple", "list", "dict"].all (fun t => decide (L2.kitB t T = some (isTy T t))) = true)
    (hg : Gl X "isinstance" := by rfl) (hgT : Gl X x := by rfl) (hn : x ≠ "__name__" := by decide) (hd : (x == ("__debug__" : Str)) = false := by decide)
    (hs : starEach [e, .Name x q] X.env = (false, eval e X.env) :: starEach [.Name x q] X.env := by rfl) (hs2 : starEach [.Name x q] X.env = (false, eval (.Name x q) X.env) :: starEach [] X.env := by rfl) (hpl : (backTo pos (starEach [.Name x q] X.env)).any (·.1) = false := by rfl) :
    DR X (.Call (.Name "isinstance" p) [e, .Name x q] [] pos) (rIsT (isTy T) fa) := dr_isT ha hm hmT hvT (kit_of hk) (.ty T) hg hgT hn hd hs hs2 hpl
end
theorem kt_int : ["NoneType", "bool", "int", "str", "tuple", "list", "dict"].all (fun t => decide (L2.kitB t "int" = some (isTy "int" t))) = true := by decide +kernel
theorem kt_bool : ["NoneType", "bool", "int", "str", "tuple", "list", "dict"].all (fun t => decide (L2.kitB t "bool" = some (isTy "bool" t))) = true := by decide +kernel
theorem kt_str : ["NoneType", "bool", "int", "str", "tuple", "list", "dict"].all (fun t => decide (L2.kitB t "str" = some (isTy "str" t))) = true := by decide +kernel
theorem kt_tuple : ["NoneType", "bool", "int", "str", "tuple", "list", "dict"].all (fun t => decide (L2.kitB t "tuple" = some (isTy "tuple" t))) = true := by decide +kernel
theorem kt_list : ["NoneType", "bool", "int", "str", "tuple", "list", "dict"].all (fun t => decide (L2.kitB t "list" = some (isTy "list" t))) = true := by decide +kernel
theorem kt_dict : ["NoneType", "bool", "int", "str", "tuple", "list", "dict"].all (fun t => decide (L2.kitB t "dict" = some (isTy "dict" t))) = true := by decide +kernel
end FL
namespace L2
open PySem PySem.Spec PyProof.Rows
/-- a law's end over a head by facts, no repr under way -/
theorem walk_ofEG {l : PySem.W.OpenLaw} {n k : Nat} {q : Program} {loose : List Str} {XP : (Str → Option Value) → Heap → Prop} {YP : World → Heap → Prop} {d : DefRec} {CX : CXT} {x : Str}
    (hn : l.most = some n) (hn2 : n ≤ sizeLine) (hdf : d.params.defaults = []) (hr : Room k callerA)
    (F : ∀ (w : World) (mg : Str → Option Value) (fa : Addr) (h : Heap), YP w h → h.Ns mainGlobals mg → mg d.name = some (.ref fa) →
      ∃ (K : PySem.W.Frag) (fd : FuncData) (sp : Sp), K.In h ∧ (∀ (s : Shared) (u : Value), BindsTo s fd ⟨[u], []⟩ [(x, u)]) ∧
        (∀ (H : Hp) (a : Addr) (ns : List Int), ns.length ≤ n → Only H → SqL K H a (ns.map V.int) → sp [.ref a] H (fun v _ => v = .bl true) fun _ _ _ => False) ∧
        ∀ base : Heap, K.In base → base.Ns mainGlobals mg → FnG l.prog w K mg base CX k fa fd [x] sp)
    (hCX : ∀ (H : Hp) (s : Shared) (e : Value) (s' : Shared), CX [] H s (fun _ _ _ => False) e s' → False) :
    PySem.W.WalkO q loose XP YP l.row.toRowW d [] (fun f vs => PySem.call f vs) := by
  refine Att.attach_call hn hdf fun w s₀ s₁ mg mb fa o pm cd doc a vs ns G Y ho hd hcd hmg hobj hints hlen hg => ?_
  obtain ⟨K, fd, sp, KX, hb, hsp, hF⟩ := F w mg fa _ Y G.T.g hmg
  exact law_callG KX G.T.g G.T.b G.T.builtins G.T.nolimit hg hobj hints (Nat.le_trans hlen hn2) hr hF hb (fun H hO hS => hsp H a ns hlen hO hS) fun H e s' => hCX H s₁ e s'
end L2
namespace FL
open PySem PySem.Spec PyProof.Rows L2
/-! ### constants of the module, told by K -/
mutual
def valB (K : PySem.W.Frag) : D → Value → Bool
  | .non, .none => true
  | .bl b, .bool c => b == c
  | .int i, .int k _ => decide (i = k)
  | .str x, .str y _ => decide (x = y)
  | .tup ds, .ref a => match K.lookup a with
    | some ⟨.type c, _, .seq its _, _⟩ => decide (c = "tuple") && decide (its.size ≤ 1000) && valsB K ds its.toList
    | _ => false
  | _, _ => false
def valsB (K : PySem.W.Frag) : List D → List Value → Bool
  | [], [] => true
  | d :: ds, u :: us => valB K d u && valsB K ds us
  | _, _ => false
end
mutual
theorem valB_ok {K : PySem.W.Frag} {w : World} : ∀ (d : D) (u : Value), valB K d u = true → ∃ v, RelV v u ∧ ∀ γ H, R ⟨K, w⟩ γ H d v
  | .non, u, h => by
    cases u <;> simp [valB] at h
    exact ⟨.non, rfl, fun _ _ => by simp only [R]⟩
  | .bl b, u, h => by
    cases u <;> simp [valB] at h
    subst h
    exact ⟨.bl _, rfl, fun _ _ => by simp only [R]⟩
  | .int i, u, h => by
    cases u <;> simp [valB] at h
    subst h
    exact ⟨.int _, ⟨_, rfl⟩, fun _ _ => by simp only [R]⟩
  | .str x, u, h => by
    cases u <;> simp [valB] at h
    subst h
    exact ⟨.str _, ⟨_, rfl⟩, fun _ _ => by simp only [R]⟩
  | .tup ds, u, h => by
    cases u with
    | ref a =>
      simp only [valB] at h
      split at h
      · rename_i c od its n sl hl
        simp only [Bool.and_eq_true, decide_eq_true_eq] at h
        obtain ⟨vs, h1, h2⟩ := valsB_ok (w := w) ds its.toList h.2
        refine ⟨.ref a, rfl, fun γ H => ?_⟩
        simp only [R]
        exact ⟨a, vs, rfl, .inr ⟨_, its, n, hl, by rw [h.1.1], rfl, line1000 h.1.2, h1⟩, h2 γ H⟩
      · cases h
    | _ => simp [valB] at h
  | .fl _, u, h => by cases u <;> simp [valB] at h
  | .obj _ _ _, u, h => by cases u <;> simp [valB] at h
  | .scr _, u, h => by cases u <;> simp [valB] at h
  | .fd _ _, u, h => by cases u <;> simp [valB] at h
  | .rf _, u, h => by cases u <;> simp [valB] at h
theorem valsB_ok {K : PySem.W.Frag} {w : World} : ∀ (ds : List D) (us : List Value), valsB K ds us = true → ∃ vs, Vals vs us ∧ ∀ γ H, Rs ⟨K, w⟩ γ H ds vs
  | [], [], _ => ⟨[], .nil, fun _ _ => Rs.nil⟩
  | [], _ :: _, h => by simp [valsB] at h
  | _ :: _, [], h => by simp [valsB] at h
  | d :: ds, u :: us, h => by
    simp only [valsB, Bool.and_eq_true] at h
    obtain ⟨v, h1, h2⟩ := valB_ok (w := w) d u h.1
    obtain ⟨vs, h3, h4⟩ := valsB_ok (w := w) ds us h.2
    exact ⟨v :: vs, .cons h1 h3, fun γ H => Rs.cons (h2 γ H) (h4 γ H)⟩
end
def cstB (K : PySem.W.Frag) (p : Str × D) : Bool := match PySem.W.nsIn K mainGlobals p.1 with
  | some (some u) => valB K p.2 u
  | _ => false
theorem cst_ok {K : PySem.W.Frag} {w : World} {h : Heap} {mg : Str → Option Value} (X : K.In h) (G : h.Ns mainGlobals mg) {x : Str} {d : D} (c : cstB K (x, d) = true) : CstOk ⟨K, w⟩ mg x d := by
  unfold cstB at c
  split at c
  · rename_i u e
    obtain ⟨v, h1, h2⟩ := valB_ok (w := w) d u c
    exact ⟨u, v, PySem.W.mg_of X G e, h1, h2⟩
  · cases c
/-! ### the Hook -/
def obsF (fa : List He.Fa) (fn : List He.FnD) (cs : List (Str × D)) (K : PySem.W.Frag) : He.Al := ((fa.all fun f => f.ok K) && ((fn.all fun d => (He.Fa.code d.at_ d.qual).ok K) && cs.all fun p => cstB K p), fn.map fun d => He.fnObs K d.at_)
def SaysF (fa : List He.Fa) (fn : List He.FnD) (cs : List (Str × D)) (K : PySem.W.Frag) : Prop := obsF fa fn cs K = He.valE fn
def obsFG (n : Nat) (fa : List He.Fa) (fn : List He.FnD) (cs : List (Str × D)) (g : Addr → Option Obj) : He.Al := obsF fa fn cs (He.frG g (He.asG g n))
def hookF (n : Nat) (fa : List He.Fa) (fn : List He.FnD) (cs : List (Str × D)) : PySem.W.Hook where
  α := He.Al
  obs := fun s => obsFG n fa fn cs s.heap.get?
  val := fun _ => He.valE fn
  says := fun _ h => ∃ K : PySem.W.Frag, K.In h ∧ SaysF fa fn cs K
  of := fun _ _ e => ⟨_, He.frG_in, e⟩
  keeps := fun _ _ _ ⟨K, hK, c⟩ k => ⟨K, PySem.W.Frag.In.keeps hK k, c⟩
theorem obsFG_eq {n : Nat} {fa : List He.Fa} {fn : List He.FnD} {cs : List (Str × D)} {g : Addr → Option Obj} {s : Shared} (h : ∀ a, g a = s.heap.get? a) : obsFG n fa fn cs g = (hookF n fa fn cs).obs s := by
  have e : g = s.heap.get? := funext h
  rw [e] <;> rfl
section
variable {fa : List He.Fa} {fn : List He.FnD} {cs : List (Str × D)} {K : PySem.W.Frag}
theorem SaysF.bool (c : SaysF fa fn cs K) : (fa.all fun f => f.ok K) = true ∧ (fn.all fun d => (He.Fa.code d.at_ d.qual).ok K) = true ∧ (cs.all fun p => cstB K p) = true := by
  have h := congrArg (fun z : He.Al => z.1) c
  have h2 : ((fa.all fun f => f.ok K) && ((fn.all fun d => (He.Fa.code d.at_ d.qual).ok K) && cs.all fun p => cstB K p)) = true := h
  simp only [Bool.and_eq_true] at h2
  exact h2
theorem SaysF.fact (c : SaysF fa fn cs K) {f : He.Fa} (h : f ∈ fa) : f.ok K = true := List.all_eq_true.mp c.bool.1 f h
theorem SaysF.cst (c : SaysF fa fn cs K) {p : Str × D} (h : p ∈ cs) : cstB K p = true := List.all_eq_true.mp c.bool.2.2 p h
theorem SaysF.def_ (c : SaysF fa fn cs K) (i : Nat) {d : He.FnD} (h : fn[i]? = some d) :
    ∃ oc od osl kV doc pm an cdv ct, K.lookup (He.fAd K d.at_) = some ⟨oc, od, .func (PySem.W.fnOf d.name d.qual d.params d.body d.scope .none kV doc pm an cdv ct), osl⟩ ∧ PySem.W.codeIn K cdv d.qual = true := by
  have e : fn.map (fun d => He.fnObs K d.at_) = fn.map He.FnD.val := congrArg (fun z : He.Al => z.2) c
  have e2 : (fn.map fun d => He.fnObs K d.at_)[i]? = (fn.map He.FnD.val)[i]? := by rw [e]
  rw [List.getElem?_map, List.getElem?_map, h] at e2
  exact He.fn_ok (Option.some.inj e2) (List.all_eq_true.mp c.bool.2.1 d (List.mem_of_getElem? h))
/-- a def of the module -/
def fnD (x : Str) (st : Stmt) : He.FnD := ⟨(x, none), x, x, C8.fnArgs st, C8.fnBody st, C8.fnScope st⟩
def inD (x : Str) (st : Stmt) (qual : Str) : He.FnD := ⟨(x, some "__init__"), "__init__", qual, C8.fnArgs st, C8.fnBody st, C8.fnScope st⟩
theorem fun_of (c : SaysF fa fn cs K) (i : Nat) {x : Str} {st : Stmt} {ps : List Str} (h : fn[i]? = some (fnD x st))
    (hb : ∀ (kV doc pm : Value) (an : Option Addr) (cdv ct : Value) (us : List Value), us.length = ps.length → bindArgs (PySem.W.fnOf x x (C8.fnArgs st) (C8.fnBody st) (C8.fnScope st) .none kV doc pm an cdv ct) ⟨us, []⟩ = pure (ps.zip us)) :
    ∃ fd, C8.Fun K x x st (He.ga K x) fd ∧ Binds K fd ps [] := by
  obtain ⟨oc, od, osl, kV, doc, pm, an, cdv, ct, e1, e2⟩ := c.def_ i h
  exact ⟨_, ⟨oc, od, .none, kV, doc, pm, an, cdv, ct, osl, rfl, e1, e2⟩, .all (hb kV doc pm an cdv ct)⟩
theorem init_of (c : SaysF fa fn cs K) (i : Nat) {x qual : Str} {st : Stmt} {ps : List Str} (h : fn[i]? = some (inD x st qual))
    (hb : ∀ (kV doc pm : Value) (an : Option Addr) (cdv ct : Value) (us : List Value), us.length = ps.length → bindArgs (PySem.W.fnOf "__init__" qual (C8.fnArgs st) (C8.fnBody st) (C8.fnScope st) .none kV doc pm an cdv ct) ⟨us, []⟩ = pure (ps.zip us)) :
    ∃ fd, C8.Fun K "__init__" qual st (He.ma K (He.ga K x) "__init__") fd ∧ Binds K fd ps [] := by
  obtain ⟨oc, od, osl, kV, doc, pm, an, cdv, ct, e1, e2⟩ := c.def_ i h
  exact ⟨_, ⟨oc, od, .none, kV, doc, pm, an, cdv, ct, osl, rfl, e1, e2⟩, .all (hb kV doc pm an cdv ct)⟩
theorem def_of {h : Heap} {mg : Str → Option Value} (X : K.In h) (G : h.Ns mainGlobals mg) (c : SaysF fa fn cs K) (i : Nat) {x : Str} {st : Stmt} {ps : List Str} (hi : fn[i]? = some (fnD x st)) (hg : He.Fa.glo x ∈ fa) (hk : He.Fa.keep x ∈ fa)
    (hb : ∀ (kV doc pm : Value) (an : Option Addr) (cdv ct : Value) (us : List Value), us.length = ps.length → bindArgs (PySem.W.fnOf x x (C8.fnArgs st) (C8.fnBody st) (C8.fnScope st) .none kV doc pm an cdv ct) ⟨us, []⟩ = pure (ps.zip us)) :
    ∃ f fd, C8.Def K mg x st f fd ∧ Binds K fd ps [] := by
  obtain ⟨fd, F, b⟩ := fun_of c i hi hb
  exact ⟨_, fd, ⟨F, He.glo_ok X G (c.fact hg), He.keep_ok (c.fact hk)⟩, b⟩
theorem cls_of {w : World} {h : Heap} {mg : Str → Option Value} (X : K.In h) (G : h.Ns mainGlobals mg) (c : SaysF fa fn cs K) {x : Str} {ns : List Str} (hg : He.Fa.glo x ∈ fa) (hc : He.Fa.cls x ∈ fa) (hn : ∀ f ∈ ns, He.Fa.noat x f ∈ fa) (h0 : ns ≠ []) :
    mg x = some (.ref (He.ga K x)) ∧ ObjC ⟨K, w⟩ x (He.ga K x) ns :=
  ⟨He.glo_ok X G (c.fact hg), He.eqO_ok (c.fact hg), He.cls_ok (c.fact hc), fun f hf => He.noat_ok (c.fact (hn f hf)), h0⟩
theorem mk_of (c : SaysF fa fn cs K) {x : Str} (hm : He.Fa.mkr x ∈ fa) : Mk K (He.ga K x) (He.ma K (He.ga K x) "__init__") := He.mkr_ok (c.fact hm)
end
/-- the promise of the law: true for every script -/
def spLaw : Sp := fun vs H Q _ => ∃ v, vs = [v] ∧ ∀ H', Q (.bl true) H'
theorem only_fl {K : PySem.W.Frag} {H : Hp} {a : Addr} {ns : List Int} (hS : SqL K H a (ns.map V.int)) : SqF H a (ns.map V.int) ∨ ¬ SqF H a (ns.map V.int) := Classical.em _
end FL
namespace FL
open PySem PySem.Spec PyProof.Rows L2
/-! ### a name's list root, frozen behind a statement -/
def sFrz (i : Nat) (g : SS) : SS := fun δ G => (g δ G).bind fun x => match x.1 with
  | .nx => match x.2.1[i]? with
    | some (some (.rf k)) => match x.2.2[k]? with
      | some (.lst ds) => some (.nx, x.2.1.set i (some (.fl ds)), x.2.2.set k .dead)
      | _ => none
    | _ => none
  | c => some (c, x.2.1, x.2.2)
section
variable {K : FK} {γ : List Addr} {H : Hp} {δ : Env'} {G : Hs} {σ : L2.St}
theorem Sx.freeze {i k : Nat} {ds : List D} (S : Sx K H δ G σ γ) (hi : δ[i]? = some (some (.rf k))) (hg : G[k]? = some (.lst ds)) :
    ∃ p vs, σ[i]? = some (some (.ref p)) ∧ H p = some (.lst vs) ∧ ∀ od, Aft γ H γ (upd H p (.frz od (.lst vs))) ∧ Sx K (upd H p (.frz od (.lst vs))) (δ.set i (some (.fl ds))) (G.set k .dead) σ γ := by
  obtain ⟨v, h1, h2⟩ := S.sl i _ hi
  simp only [R] at h2
  obtain ⟨p, rfl, hk⟩ := h2
  obtain ⟨vs, ha, hr⟩ := S.rt k _ p hg hk
  have ma : p ∈ γ := List.mem_of_getElem? hk
  refine ⟨p, vs, h1, ha, fun od => ?_⟩
  have kp : Kp H (upd H p (.frz od (.lst vs))) := fun b o e i => by
    rw [upd_ne]
    · exact e
    · intro z
      subst z
      rw [ha] at e
      cases e
      cases i
  refine ⟨⟨fun b o e i => ?_, fun b e => ?_, List.prefix_rfl, fun b z => .inl z⟩, ⟨⟨by simp [S.len], S.nd, fun b z => ?_, fun j o b e1 e2 => ?_⟩, by rw [List.length_set]; exact S.dl, fun j d e => ?_⟩⟩
  · rcases i with i | i
    · rw [upd_ne (fun z => i (by rw [z]; exact ma))]
      exact e
    · exact kp b o e i
  · unfold upd
    split
    · simp
    · exact e
  · unfold upd
    split
    · simp
    · exact S.ex b z
  · by_cases hj : j = k
    · subst hj
      have := (List.getElem?_eq_some_iff.mp hg).1
      rw [List.getElem?_set_self this] at e1
      cases e1
      trivial
    · rw [List.getElem?_set_ne (Ne.symm hj)] at e1
      have nb : b ≠ p := fun z => by
        subst z
        obtain ⟨h1, e1'⟩ := List.getElem?_eq_some_iff.mp hk
        obtain ⟨h2, e2'⟩ := List.getElem?_eq_some_iff.mp e2
        exact hj ((List.getElem_inj S.nd).mp (e2'.trans e1'.symm))
      have q := S.rt j o b e1 e2
      cases o with
      | lst ds =>
        obtain ⟨ws, h1, h2⟩ := q
        exact ⟨ws, by rw [upd_ne nb]; exact h1, Rs.mono kp Pre.refl _ _ h2⟩
      | dct kvs =>
        obtain ⟨xs, ep, h1, hn, h2⟩ := q
        exact ⟨xs, ep, by rw [upd_ne nb]; exact h1, hn, h2.mono kp Pre.refl⟩
      | ins nx ns ds =>
        obtain ⟨C, dx, ws, h1, hc, h2⟩ := q
        exact ⟨C, dx, ws, by rw [upd_ne nb]; exact h1, hc, Rs.mono kp Pre.refl _ _ h2⟩
      | dead => trivial
  · by_cases hj : j = i
    · subst hj
      rw [List.getElem?_set_self (List.getElem?_eq_some_iff.mp hi).1] at e
      cases e
      refine ⟨_, h1, ?_⟩
      simp only [R]
      exact ⟨p, vs, rfl, ⟨od, upd_same⟩, Rs.mono kp Pre.refl _ _ hr⟩
    · rw [List.getElem?_set_ne (Ne.symm hj)] at e
      obtain ⟨w, h3, h4⟩ := S.sl j d e
      exact ⟨w, h3, R.mono kp Pre.refl _ _ h4⟩
theorem ds_frz {X : Cx} {st : Stmt} {g : SS} (i : Nat) (h : DS X st g) : DS X st (sFrz i g) := PS.imp (ps_frzI (i := i) h) fun D σ H ⟨δ, G, γ, k, δ', G', S, ef, q⟩ => by
  simp only [sFrz, Option.bind_eq_some_iff] at ef
  obtain ⟨⟨c, δ1, G1⟩, e1, e2⟩ := ef
  refine ⟨δ, G, γ, c, δ1, G1, S, e1, fun σ' H' γ' a S' => ?_⟩
  cases c with
  | nx =>
    simp only at e2
    split at e2
    case h_2 => cases e2
    rename_i kk hi
    split at e2
    case h_2 => cases e2
    rename_i ds hg
    cases e2
    obtain ⟨p, vs, h1, h2, h3⟩ := S'.freeze hi hg
    exact ⟨p, vs, h1, h2, fun od => q σ' _ γ' (a.trans (h3 od).1) (h3 od).2⟩
  | bk => cases e2; exact q σ' H' γ' a S'
  | ct => cases e2; exact q σ' H' γ' a S'
  | rt d => cases e2; exact q σ' H' γ' a S'
end
end FL
/-! FL22: instances that change: a root of its own; attributes, methods, C(..) -/
namespace L2
open PySem PySem.Spec PyProof.Rows
section
variable {X : Cx} {CX : CXT} {k : Nat} {f C : Addr} {fd : FuncData} {ps : List Str} {sp : Sp} {dvs : List V} {ds : List Value} {E : XK} {x m : Str} {p pos apos : Pos} {e o : Expr} {es : List Expr} {ta : TE} {t : TA}
theorem pe_methG {pl : Sem Bool} (he : PE X o ta) (c : Cls X.K C) (hm : Meth X.K C m f) (F : FnG X.prog X.w X.K X.mg X.base CX k f fd ps sp) (hr : RoomG k X.A) (hb : Binds X.K fd ps ds) (hd : Vals dvs ds) (hx : Passes CX X E) (ha : PA X (e :: es) t)
    (hst : starEach (e :: es) X.env = (false, eval e X.env) :: starEach es X.env := by rfl) (hpl : (backTo pos (starEach es X.env)).any (·.1) = false := by rfl)
    (ht : eval (.Call (.Attribute o m apos) (e :: es) [] pos) X.env = (do
      let ov ← eval o X.env
      standAt apos.atName
      let (f, first) ← holding [ov] (getMethod ov m pl)
      callWith pos f first (backTo pos (starEach (e :: es) X.env)) (backToKw pos (keywordEach [] X.env))) := by rfl) :
    PE X (.Call (.Attribute o m apos) (e :: es) [] pos) (tMeth C m sp dvs E ta t) := by
  refine ⟨fun pins s σ H Q I h => ?_⟩
  refine PySem.W.methodCall_KW (pl := pl) (thn (he.run pins s σ H _ I h) fun u s1 ⟨x, H1, I1, rx, a, dx, fs, ex, ea, l, q⟩ => ?_) ht
  subst ex
  obtain rfl : u = Value.ref a := rx
  refine getmeth_ok I1 ea c hm l ?_
  refine PySem.W.callWith_K (first := [.ref a]) (h₀ := X.base) I1.ok.mod.kin hm.kp (thn (ha.run pos pins s1 σ H1 _ I1 q) fun us s2 ⟨vs, H2, I2, r, q2⟩ => ⟨I2.kIn, ?_⟩) hst hpl
  exact run_fnG (us := .ref a :: us) (vs := .ref a :: vs) F hr hb hd hx I2 (.cons rfl r) q2
theorem pe_methG0 {pl : Sem Bool} (he : PE X o ta) (c : Cls X.K C) (hm : Meth X.K C m f) (F : FnG X.prog X.w X.K X.mg X.base CX k f fd ps sp) (hr : RoomG k X.A) (hb : Binds X.K fd ps ds) (hd : Vals dvs ds) (hx : Passes CX X E)
    (ht : eval (.Call (.Attribute o m apos) [] [] pos) X.env = (do
      let ov ← eval o X.env
      standAt apos.atName
      let (f, first) ← holding [ov] (getMethod ov m pl)
      callWith pos f first (backTo pos (starEach [] X.env)) (backToKw pos (keywordEach [] X.env))) := by rfl) :
    PE X (.Call (.Attribute o m apos) [] [] pos) (tMeth C m sp dvs E ta tNil) := by
  refine ⟨fun pins s σ H Q I h => ?_⟩
  refine PySem.W.methodCall_KW (pl := pl) (thn (he.run pins s σ H _ I h) fun u s1 ⟨x, H1, I1, rx, a, dx, fs, ex, ea, l, q⟩ => ?_) ht
  subst ex
  obtain rfl : u = Value.ref a := rx
  refine getmeth_ok I1 ea c hm l ?_
  exact PySem.W.callWith_K0 (first := [.ref a]) I1.kIn hm.kp (run_fnG (us := [.ref a]) (vs := [.ref a]) F hr hb hd hx I1 (.cons rfl .nil) q)
end
end L2
namespace C8
open PySem PySem.Spec PyProof.Rows L2 SX
/-- a method that may be called -/
structure MetG (P : Program) (w : World) (K : PySem.W.Frag) (mg : Str → Option Value) (base : Heap) (k : Nat) (C : Addr) (m : Str) (sp : Sp) (dvs : List V) : Prop where
  ex : ∃ (f : Addr) (fd : FuncData) (ps : List Str) (ds : List Value), FnG P w K mg base CX0 k f fd ps sp ∧ Meth K C m f ∧ Binds K fd ps ds ∧ Vals dvs ds
section
variable {P : Program} {w : World} {K : PySem.W.Frag} {mg : Str → Option Value} {base : Heap}
theorem metG {x m qual : Str} {C : Addr} {st : Stmt} {f : Addr} {fd : FuncData} {N ps : List Str} {ds : List Value} {dvs : List V} {k : Nat} {sp : Sp} (M : Meth K C m f) (F : Fun K x qual st f fd) (b : Binds K fd ps ds) (d : Vals dvs ds) (S : FnScope N ps (fnScope st)) (len : ∀ vs H Q E, sp vs H Q E → vs.length = ps.length)
    (hbody : ∀ (cdv : Value) (A : Around) (outer : List Env) (s : Shared) (H : Hp) (vs : List V) (Q : VK) (E : XK), RoomG k (A.deeper (envOfC qual (fnScope st) s.heap.objs.size f cdv)) → sp vs H Q E →
      ∃ t, PSs (cxOf CX0 P w K mg base N qual (fnScope st) f cdv A outer s H E).nox (fnBody st) t ∧ t { nx := fun _ H' => Q .non H', rt := Q } (start N vs) H) : MetG P w K mg base (k + 1) C m sp dvs :=
  ⟨f, fd, ps, ds, fnG0 F S len hbody, M, b, d⟩
end
section
variable {X : Cx} {k j : Nat} {C : Addr} {x m : Str} {sp : Sp} {dvs : List V} {p pos apos : Pos} {e o : Expr} {es : List Expr} {ta : TE} {t : TA} {pl : Sem Bool}
theorem pe_metG (he : PE X o ta) (c : Cls X.K C) (M : MetG X.prog X.w X.K X.mg X.base k C m sp dvs) (hr : RoomG j X.A) (hk : k ≤ j) (ha : PA X (e :: es) t)
    (hst : starEach (e :: es) X.env = (false, eval e X.env) :: starEach es X.env := by rfl) (hpl : (backTo pos (starEach es X.env)).any (·.1) = false := by rfl)
    (ht : eval (.Call (.Attribute o m apos) (e :: es) [] pos) X.env = (do
      let ov ← eval o X.env
      standAt apos.atName
      let (f, first) ← holding [ov] (getMethod ov m pl)
      callWith pos f first (backTo pos (starEach (e :: es) X.env)) (backToKw pos (keywordEach [] X.env))) := by rfl) :
    PE X (.Call (.Attribute o m apos) (e :: es) [] pos) (tMeth C m sp dvs E0 ta t) := by
  obtain ⟨f, fd, ps, ds, F, hm, b, d⟩ := M.ex
  exact pe_methG he c hm F (hr.mono hk) b d pass0 ha hst hpl ht
theorem pe_metG0 (he : PE X o ta) (c : Cls X.K C) (M : MetG X.prog X.w X.K X.mg X.base k C m sp dvs) (hr : RoomG j X.A) (hk : k ≤ j)
    (ht : eval (.Call (.Attribute o m apos) [] [] pos) X.env = (do
      let ov ← eval o X.env
      standAt apos.atName
      let (f, first) ← holding [ov] (getMethod ov m pl)
      callWith pos f first (backTo pos (starEach [] X.env)) (backToKw pos (keywordEach [] X.env))) := by rfl) :
    PE X (.Call (.Attribute o m apos) [] [] pos) (tMeth C m sp dvs E0 ta tNil) := by
  obtain ⟨f, fd, ps, ds, F, hm, b, d⟩ := M.ex
  exact pe_methG0 he c hm F (hr.mono hk) b d pass0 ht
end
end C8
namespace FL
open PySem PySem.Spec PyProof.Rows L2

/-! ### attributes -/
/-- an instance at a root -/
def insG (G : Hs) : D → Option (Str × List Str × List D)
  | .rf k => match G[k]? with
    | some (.ins x ns ds) => some (x, ns, ds)
    | _ => none
  | _ => none
theorem insG_ok {K : FK} {γ : List Addr} {H : Hp} {G : Hs} {d : D} {v : V} {x : Str} {ns : List Str} {ds : List D} (r : Ro K H G γ) (h : R K γ H d v) (e : insG G d = some (x, ns, ds)) : ∃ a k, d = .rf k ∧ v = .ref a ∧ γ[k]? = some a ∧ G[k]? = some (.ins x ns ds) ∧ RG K γ H (.ins x ns ds) a := by
  unfold insG at e
  split at e
  · rename_i k
    split at e
    · rename_i eg
      cases e
      simp only [R] at h
      obtain ⟨a, rfl, h1⟩ := h
      exact ⟨a, k, rfl, rfl, h1, eg, r.at eg h1⟩
    · cases e
  · cases e
def rAtI (f : Str) (fa : RE) : RE := fun δ G => (fa δ G).bind fun x => (insG G x).bind fun y => (y.2.1.zip y.2.2).lookup f
section
variable {X : Cx} {a o e value : Expr} {f : Str} {fa : RE} {ga gb : EE} {pos pos' apos : Pos}
theorem dr_atI (ha : DR X a fa) (hb : attributeBase a f X.env (eval a X.env) = eval a X.env := by rfl) : DR X (.Attribute a f pos) (rAtI f fa) := PE.imp (pe_fld ha hb) fun σ H Q ⟨δ, G, γ, d, S, ef, q⟩ => by
  simp only [rAtI, Option.bind_eq_some_iff] at ef
  obtain ⟨x, e1, ⟨y, ns, ds⟩, e2, e3⟩ := ef
  refine ⟨δ, G, γ, x, S, e1, fun v H1 s1 r1 => ?_⟩
  obtain ⟨p, k, rfl, rfl, hk, eg, C', dx, vs, h1, hc, h2⟩ := insG_ok (S.same s1).toRo r1 e2
  obtain ⟨w, h3, h4⟩ := zip_lookup h2 e3
  exact ⟨p, C', dx, _, w, rfl, h1, hc.1.2.1, hc.1.2.2 f (zip_mem e3), h3, q w H1 s1 h4⟩
/-- o.f = e -/
def setF (f : Str) (d : D) : List Str → List D → List Str × List D
  | [], _ => ([f], [d])
  | n :: ns, [] => (n :: ns, [])
  | n :: ns, x :: ds => if n = f then (n :: ns, d :: ds) else (n :: (setF f d ns ds).1, x :: (setF f d ns ds).2)
theorem setF_ok {K : FK} {γ : List Addr} {H : Hp} {d : D} {w : V} (hw : R K γ H d w) : ∀ {ns : List Str} {ds : List D} {vs : List V}, ns.length = ds.length → Rs K γ H ds vs → ∃ ws, putF f w (ns.zip vs) = (setF f d ns ds).1.zip ws ∧ Rs K γ H (setF f d ns ds).2 ws ∧ (setF f d ns ds).1.length = (setF f d ns ds).2.length ∧ (∀ g ∈ (setF f d ns ds).1, g = f ∨ g ∈ ns)
  | [], [], vs, _, r => by
    rw [r.of_nil]
    exact ⟨[w], rfl, Rs.cons hw Rs.nil, rfl, fun g hg => .inl (by simpa [setF] using hg)⟩
  | [], _ :: _, _, hl, _ => by simp at hl
  | n :: ns, [], _, hl, _ => by simp at hl
  | n :: ns, x :: ds, vs, hl, r => by
    obtain ⟨v, vs', rfl, h1, h2⟩ := r.of_cons
    rw [List.zip_cons_cons]
    unfold setF
    rw [show putF f w ((n, v) :: ns.zip vs') = (if n = f then (n, w) :: ns.zip vs' else (n, v) :: putF f w (ns.zip vs')) from rfl]
    split
    · exact ⟨w :: vs', by simp, Rs.cons hw h2, by simpa using hl, fun g hg => .inr hg⟩
    · obtain ⟨ws, e1, e2, e3, e4⟩ := setF_ok hw (ns := ns) (by simpa using hl) h2
      refine ⟨v :: ws, by rw [e1]; rfl, Rs.cons h1 e2, by simpa using e3, fun g hg => ?_⟩
      rcases List.mem_cons.mp hg with hg | hg
      · exact .inr (by simp [hg])
      · rcases e4 g hg with z | z
        · exact .inl z
        · exact .inr (List.mem_cons_of_mem _ z)
def stF (x : Str) (at_ : List Str) (f : Str) (o d : D) (G : Hs) : Option Hs := match o with
  | .rf k => match G[k]? with
    | some (.ins y ns ds) => if y = x ∧ f ∈ at_ ∧ immN (setF f d ns ds).1 = false ∧ ns.length < 900 then some (G.set k (.ins y (setF f d ns ds).1 (setF f d ns ds).2)) else none
    | _ => none
  | _ => none
def sFldI (x : Str) (at_ : List Str) (f : Str) (fo fv : EE) : SS := fun δ G => (fv δ G).bind fun z => (fo δ z.2).bind fun y => (stF x at_ f y.1 z.1 y.2).bind fun G' => some (.nx, δ, G')
theorem ds_fldI {C : Addr} {x : Str} {at_ : List Str} (hc : ObjI X.F x C at_) (ho : DE X o ga) (hv : DE X value gb) (hs : swapsWith value (some (.Attribute o f pos')) pos.line X.env = pure false := by rfl) : DS X (.Assign [.Attribute o f pos'] value pos) (sFldI x at_ f ga gb) :=
  PS.imp (ps_fld ho hv hs) fun D σ H ⟨δ, G, γ, k, δ', G', S, ef, q⟩ => by
  simp only [sFldI, Option.bind_eq_some_iff, Option.some.injEq, Prod.mk.injEq] at ef
  obtain ⟨⟨z, G1⟩, e1, ⟨y, G2⟩, e2, G3, e3, rfl, rfl, rfl⟩ := ef
  refine ⟨δ, G, γ, z, G1, S, e1, fun v H1 γ1 a1 S1 r1 => ⟨δ, G1, γ1, y, G2, S1, e2, fun u H2 γ2 a2 S2 r2 => ?_⟩⟩
  have e3 : stF x at_ f y z G2 = some G3 := e3
  unfold stF at e3
  split at e3
  case h_2 => cases e3
  rename_i n
  split at e3
  case h_2 => cases e3
  rename_i x' ns ds eg
  split at e3
  case isFalse => cases e3
  rename_i hh
  obtain ⟨rfl, hf, hi, hl⟩ := hh
  cases e3
  simp only [R] at r2
  obtain ⟨a, rfl, hn⟩ := r2
  obtain ⟨C', dx, vs, h1, hc2, h2⟩ := S2.toRo.at eg hn
  have rz := R.aft a2 r1
  have eC : (some (some (Value.ref C)) : Option (Option Value)) = some (some (.ref C')) := hc.1.symm.trans hc2.1.1
  cases eC
  obtain ⟨ws, w1, w2, w3, w4⟩ := setF_ok (f := f) rz hc2.2.1 h2
  refine ⟨a, C, dx, _, rfl, h1, hc.2.1, hc.2.2 f hf, by rw [List.length_zip]; omega, ?_⟩
  rw [w1]
  have mu : ∀ o, H2 a = some o → Imm o = false := fun o eo => by
    rw [h1] at eo
    cases eo
    exact imm_ins hc2.2.1 hc2.2.2 h2.length
  have kp : Kp H2 (upd H2 a (.ins C dx ((setF f z ns ds).1.zip ws))) := fun b o e i => by
    rw [upd_ne]
    · exact e
    · intro zz
      subst zz
      rw [mu o e] at i
      cases i
  obtain ⟨a4, S4⟩ := S2.write (o' := .ins x' (setF f z ns ds).1 (setF f z ns ds).2) hn (List.getElem?_eq_some_iff.mp eg).1 mu
    ⟨C, dx, ws, upd_same, ⟨⟨hc.1, hc.2.1, fun g hg => (w4 g hg).elim (fun e => e ▸ hc.2.2 f hf) (hc2.1.2.2 g)⟩, w3, hi⟩, Rs.mono kp Pre.refl _ _ w2⟩
  exact q σ _ γ2 (a1.trans (a2.trans a4)) S4
end

/-! ### calls that are given roots, and what hangs on them -/
def rfs : List D → List Nat
  | [] => []
  | .rf k :: ds => k :: rfs ds
  | _ :: ds => rfs ds
def hang (G : Hs) (k : Nat) : List Nat := match G[k]? with
  | some (.ins _ _ fs) => rfs fs
  | _ => []
def reach (G : Hs) (ds : List D) : List Nat := (rfs ds ++ (rfs ds).flatMap (hang G)).eraseDups
def ren (f : Nat → Option Nat) (d : D) : Option D := if d.im = true then some d else match d with
  | .rf k => (f k).map .rf
  | _ => none
def rens (f : Nat → Option Nat) : List D → Option (List D)
  | [] => some []
  | d :: ds => (ren f d).bind fun d' => (rens f ds).bind fun ds' => some (d' :: ds')
def renO (f : Nat → Option Nat) (o : GO) : Option GO := if o.flat = true then some o else match o with
  | .lst ds => (rens f ds).map .lst
  | .ins x ns ds => (rens f ds).map (.ins x ns)
  | _ => none
def renOs (f : Nat → Option Nat) : List GO → Option (List GO)
  | [] => some []
  | o :: os => (renO f o).bind fun o' => (renOs f os).bind fun os' => some (o' :: os')
def pickG (G : Hs) : List Nat → Option (List GO)
  | [] => some []
  | k :: ks => (G[k]?).bind fun o => (pickG G ks).bind fun os => some (o :: os)
def putG (G : Hs) : List Nat → List GO → Hs
  | k :: ks, o :: os => putG (G.set k o) ks os
  | _, _ => G
def backI (n : Nat) (ks : List Nat) (i : Nat) : Option Nat := if i < ks.length then ks[i]? else some (n + (i - ks.length))
def callK (ks : List Nat) (F : List D → Hs → Option (D × Hs)) (ds : List D) (G : Hs) : Option (D × Hs) :=
  if ks.Nodup then (pickG G ks).bind fun os => (renOs (fun k => ks.idxOf? k) os).bind fun os' => (rens (fun k => ks.idxOf? k) ds).bind fun ds' => (F ds' os').bind fun r =>
    (renOs (backI G.length ks) r.2).bind fun G2 => (ren (backI G.length ks) r.1).bind fun d => if ks.length ≤ G2.length then some (d, putG G ks (G2.take ks.length) ++ G2.drop ks.length) else none
  else none
def callM (F : List D → Hs → Option (D × Hs)) (ds : List D) (G : Hs) : Option (D × Hs) := callK (reach G ds) F ds G
section
variable {K : FK} {γ γ' γ2 : List Addr} {H H' : Hp} {δ : Env'} {G : Hs} {σ : L2.St}
theorem ren_ok {f : Nat → Option Nat} (hf : ∀ k j a, f k = some j → γ[k]? = some a → γ'[j]? = some a) {d d' : D} {v : V} (e : ren f d = some d') (h : R K γ H d v) : R K γ' H d' v := by
  unfold ren at e
  split at e
  · rename_i him
    cases e
    exact R.im _ _ him h
  · split at e
    · obtain ⟨j, e1, rfl⟩ := Option.map_eq_some_iff.mp e
      simp only [R] at h ⊢
      obtain ⟨a, rfl, h1⟩ := h
      exact ⟨a, rfl, hf _ _ _ e1 h1⟩
    · cases e
theorem rens_ok {f : Nat → Option Nat} (hf : ∀ k j a, f k = some j → γ[k]? = some a → γ'[j]? = some a) : ∀ {ds ds' : List D} {vs : List V}, rens f ds = some ds' → Rs K γ H ds vs → Rs K γ' H ds' vs
  | [], ds', vs, e, h => by
    cases e
    rw [h.of_nil]
    exact Rs.nil
  | d :: ds, ds', vs, e, h => by
    simp only [rens, Option.bind_eq_some_iff, Option.some.injEq] at e
    obtain ⟨d', e1, ds'', e2, rfl⟩ := e
    obtain ⟨v, r, rfl, h1, h2⟩ := h.of_cons
    exact Rs.cons (ren_ok hf e1 h1) (rens_ok hf e2 h2)
theorem rens_len {f : Nat → Option Nat} : ∀ {ds ds' : List D}, rens f ds = some ds' → ds'.length = ds.length
  | [], ds', e => by cases e; rfl
  | d :: ds, ds', e => by
    simp only [rens, Option.bind_eq_some_iff, Option.some.injEq] at e
    obtain ⟨d', e1, ds'', e2, rfl⟩ := e
    simp [rens_len e2]
theorem renO_ok {f : Nat → Option Nat} (hf : ∀ k j a, f k = some j → γ[k]? = some a → γ'[j]? = some a) {o o' : GO} {a : Addr} (e : renO f o = some o') (h : RG K γ H o a) : RG K γ' H o' a := by
  unfold renO at e
  split at e
  · rename_i hfl
    cases e
    exact RG.flat hfl h
  · split at e
    · obtain ⟨ds', e1, rfl⟩ := Option.map_eq_some_iff.mp e
      obtain ⟨vs, h1, h2⟩ := h
      exact ⟨vs, h1, rens_ok hf e1 h2⟩
    · obtain ⟨ds', e1, rfl⟩ := Option.map_eq_some_iff.mp e
      obtain ⟨C, dx, vs, h1, hc, h2⟩ := h
      exact ⟨C, dx, vs, h1, ⟨hc.1, by rw [rens_len e1]; exact hc.2.1, hc.2.2⟩, rens_ok hf e1 h2⟩
    · cases e
theorem renOs_get {f : Nat → Option Nat} : ∀ {os os' : List GO} {i : Nat} {o' : GO}, renOs f os = some os' → os'[i]? = some o' → ∃ o, os[i]? = some o ∧ renO f o = some o'
  | [], os', i, o', e, h => by
    cases e
    simp at h
  | o :: os, os', i, o', e, h => by
    simp only [renOs, Option.bind_eq_some_iff, Option.some.injEq] at e
    obtain ⟨q, e1, qs, e2, rfl⟩ := e
    cases i with
    | zero =>
      simp at h
      subst h
      exact ⟨o, rfl, e1⟩
    | succ i =>
      obtain ⟨p, h1, h2⟩ := renOs_get (i := i) e2 (by simpa using h)
      exact ⟨p, by simpa using h1, h2⟩
theorem renOs_len {f : Nat → Option Nat} : ∀ {os os' : List GO}, renOs f os = some os' → os'.length = os.length
  | [], os', e => by cases e; rfl
  | o :: os, os', e => by
    simp only [renOs, Option.bind_eq_some_iff, Option.some.injEq] at e
    obtain ⟨q, e1, qs, e2, rfl⟩ := e
    simp [renOs_len e2]
theorem pickG_len : ∀ {ks : List Nat} {os : List GO}, pickG G ks = some os → os.length = ks.length
  | [], os, e => by cases e; rfl
  | k :: ks, os, e => by
    simp only [pickG, Option.bind_eq_some_iff, Option.some.injEq] at e
    obtain ⟨o, e1, os', e2, rfl⟩ := e
    simp [pickG_len e2]
theorem pickG_get : ∀ {ks : List Nat} {os : List GO} {i : Nat} {o : GO}, pickG G ks = some os → os[i]? = some o → ∃ k, ks[i]? = some k ∧ G[k]? = some o
  | [], os, i, o, e, h => by
    cases e
    simp at h
  | k :: ks, os, i, o, e, h => by
    simp only [pickG, Option.bind_eq_some_iff, Option.some.injEq] at e
    obtain ⟨o1, e1, os', e2, rfl⟩ := e
    cases i with
    | zero =>
      simp at h
      subst h
      exact ⟨k, rfl, e1⟩
    | succ i =>
      obtain ⟨k', h1, h2⟩ := pickG_get (i := i) e2 (by simpa using h)
      exact ⟨k', by simpa using h1, h2⟩
theorem pickG_addr (hl : G.length = γ.length) : ∀ {ks : List Nat} {os : List GO}, pickG G ks = some os → ∃ γs : List Addr, γs.length = ks.length ∧ ∀ (i k : Nat), ks[i]? = some k → ∃ a, γs[i]? = some a ∧ γ[k]? = some a
  | [], os, e => ⟨[], rfl, fun i k h => by simp at h⟩
  | k :: ks, os, e => by
    simp only [pickG, Option.bind_eq_some_iff, Option.some.injEq] at e
    obtain ⟨o1, e1, os', e2, rfl⟩ := e
    obtain ⟨γs, h1, h2⟩ := pickG_addr hl e2
    have hk := (List.getElem?_eq_some_iff.mp e1).1
    refine ⟨γ[k]'(by omega) :: γs, by simp [h1], fun i k' h => ?_⟩
    cases i with
    | zero =>
      simp at h
      subst h
      exact ⟨_, rfl, List.getElem?_eq_getElem (by omega)⟩
    | succ i =>
      obtain ⟨a, b1, b2⟩ := h2 i k' (by simpa using h)
      exact ⟨a, by simpa using b1, b2⟩
theorem putG_len : ∀ {ks : List Nat} {os : List GO} {G : Hs}, (putG G ks os).length = G.length
  | [], os, G => by simp [putG]
  | k :: ks, [], G => by simp [putG]
  | k :: ks, o :: os, G => by
    rw [putG, putG_len]
    simp
theorem putG_off {j : Nat} : ∀ {ks : List Nat} {os : List GO} {G : Hs}, j ∉ ks → (putG G ks os)[j]? = G[j]?
  | [], os, G, _ => by simp [putG]
  | k :: ks, [], G, _ => by simp [putG]
  | k :: ks, o :: os, G, h => by
    have h1 : k ≠ j := fun z => h (by simp [z])
    rw [putG, putG_off (fun z => h (List.mem_cons_of_mem _ z)), List.getElem?_set_ne h1]
theorem putG_at : ∀ {ks : List Nat} {os : List GO} {G : Hs} {i j : Nat}, ks.Nodup → ks.length = os.length → ks[i]? = some j → j < G.length → (putG G ks os)[j]? = os[i]?
  | [], os, G, i, j, _, _, h, _ => by simp at h
  | k :: ks, [], G, i, j, _, hl, _, _ => by simp at hl
  | k :: ks, o :: os, G, i, j, nd, hl, h, hj => by
    rw [putG]
    cases i with
    | zero =>
      simp at h
      subst h
      rw [putG_off (List.nodup_cons.mp nd).1, List.getElem?_set_self hj]
      rfl
    | succ i =>
      rw [putG_at (i := i) (List.nodup_cons.mp nd).2 (by simpa using hl) (by simpa using h) (by simpa using hj)]
      simp
/-- behind a call that was given some roots -/
theorem callK_ok {ks : List Nat} {F : List D → Hs → Option (D × Hs)} {ds : List D} {vs : List V} {d : D} {G' : Hs} (S : Sx K H δ G σ γ) (r : Rs K γ H ds vs) (e : callK ks F ds G = some (d, G')) :
    ∃ ds' os' γs d1 G1, Rs K γs H ds' vs ∧ Ro K H os' γs ∧ F ds' os' = some (d1, G1) ∧ ∀ v H' γ1, Aft γs H γ1 H' → Ro K H' G1 γ1 → R K γ1 H' d1 v → ∃ γ2, Aft γ H γ2 H' ∧ Sx K H' δ G' σ γ2 ∧ R K γ2 H' d v := by
  unfold callK at e
  split at e
  case isFalse => cases e
  rename_i nd
  simp only [Option.bind_eq_some_iff] at e
  obtain ⟨os, e1, os', e2, ds', e3, ⟨d1, G1⟩, e4, G2, e5, d2, e6, e7⟩ := e
  split at e7
  case isFalse => cases e7
  rename_i hle
  cases e7
  obtain ⟨γs, l1, g1⟩ := pickG_addr S.len e1
  have lo := pickG_len e1
  have lo' := renOs_len e2
  -- into the callee
  have hin : ∀ k j a, ks.idxOf? k = some j → γ[k]? = some a → γs[j]? = some a := fun k j a hk ha => by
    have hj : ks[j]? = some k := by
      obtain ⟨h1, h2, _⟩ := List.idxOf?_eq_some_iff.mp hk
      rw [List.getElem?_eq_getElem h1]
      exact congrArg some (by simpa using h2)
    obtain ⟨a', b1, b2⟩ := g1 j k hj
    rw [ha] at b2
    cases b2
    exact b1
  have memγ : ∀ a ∈ γs, a ∈ γ := fun a ha => by
    obtain ⟨i, hi, rfl⟩ := List.mem_iff_getElem.mp ha
    have hki : ks[i]? = some (ks[i]'(by omega)) := List.getElem?_eq_getElem (by omega)
    obtain ⟨a', b1, b2⟩ := g1 i _ hki
    rw [List.getElem?_eq_getElem hi] at b1
    cases b1
    exact List.mem_of_getElem? b2
  have injγ : ∀ {j1 j2 : Nat} {a : Addr}, γ[j1]? = some a → γ[j2]? = some a → j1 = j2 := fun {j1 j2 a} h1 h2 => by
    obtain ⟨q1, r1⟩ := List.getElem?_eq_some_iff.mp h1
    obtain ⟨q2, r2⟩ := List.getElem?_eq_some_iff.mp h2
    exact (List.getElem_inj S.nd).mp (r1.trans r2.symm)
  have nds : γs.Nodup := by
    refine List.pairwise_iff_getElem.mpr fun i j hi hj hlt hij => ?_
    have hki : ks[i]? = some (ks[i]'(by omega)) := List.getElem?_eq_getElem (by omega)
    have hkj : ks[j]? = some (ks[j]'(by omega)) := List.getElem?_eq_getElem (by omega)
    obtain ⟨a, b1, b2⟩ := g1 i _ hki
    obtain ⟨a', c1, c2⟩ := g1 j _ hkj
    rw [List.getElem?_eq_getElem hi] at b1
    rw [List.getElem?_eq_getElem hj] at c1
    cases b1
    cases c1
    rw [hij] at b2
    have := injγ b2 c2
    have := (List.getElem_inj nd).mp this
    omega
  have ro : Ro K H os' γs := ⟨by omega, nds, fun a ha => S.ex a (memγ a ha), fun i o' a h1 h2 => by
    obtain ⟨o, p1, p2⟩ := renOs_get e2 h1
    obtain ⟨k, q1, q2⟩ := pickG_get e1 p1
    obtain ⟨a', b1, b2⟩ := g1 i k q1
    rw [h2] at b1
    cases b1
    exact renO_ok hin p2 (S.rt k o a q2 b2)⟩
  refine ⟨ds', os', γs, d1, G1, rens_ok hin e3 r, ro, e4, fun v H' γ1 A r1 rd => ?_⟩
  have lG := renOs_len e5
  have lg1 : G1.length = γ1.length := r1.len
  obtain ⟨t, rfl⟩ := A.pre
  have lt : γs.length = ks.length := l1
  have dr : (γs ++ t).drop ks.length = t := by rw [← lt, List.drop_left]
  have ht : t.length + ks.length = G2.length := by
    rw [lG, lg1, List.length_append]
    omega
  have kp := A.kp
  have new : ∀ a ∈ t, a ∉ γ := fun a ha z => by
    rcases A.fr a (List.mem_append_right _ ha) with q | q
    · have := List.nodup_append.mp r1.nd
      exact this.2.2 a q a ha rfl
    · exact S.ex a z q
  have hback : ∀ i j a, backI G.length ks i = some j → (γs ++ t)[i]? = some a → (γ ++ t)[j]? = some a := fun i j a hb ha => by
    unfold backI at hb
    split at hb
    · rename_i hi
      obtain ⟨a', b1, b2⟩ := g1 i j hb
      rw [List.getElem?_append_left (by omega), b1] at ha
      cases ha
      rw [List.getElem?_append_left (List.getElem?_eq_some_iff.mp b2).1]
      exact b2
    · rename_i hi
      cases hb
      rw [List.getElem?_append_right (by omega)] at ha
      rw [S.len, List.getElem?_append_right (by omega)]
      have : γ.length + (i - ks.length) - γ.length = i - γs.length := by omega
      rw [this]
      exact ha
  have keepR : ∀ {x : D} {u : V}, R K γ H x u → R K (γ ++ t) H' x u := fun {x u} h => R.mono kp Pre.app _ _ h
  refine ⟨γ ++ t, ⟨fun b o eb i => A.tr b o eb (i.imp (fun n z => n (memγ b z)) id), A.ex, List.prefix_append _ _, fun a ha => ?_⟩, ⟨⟨?_, ?_, fun a ha => ?_, fun j o a h1 h2 => ?_⟩, S.dl, fun i x ex => ?_⟩, ?_⟩
  · rcases List.mem_append.mp ha with ha | ha
    · exact .inl ha
    · rcases A.fr a (List.mem_append_right _ ha) with q | q
      · exact .inl (memγ a q)
      · exact .inr q
  · rw [List.length_append, putG_len, List.length_drop, List.length_append, S.len]
    omega
  · rw [List.nodup_append]
    exact ⟨S.nd, (List.nodup_append.mp r1.nd).2.1, fun a ha b hb e => new b hb (e ▸ ha)⟩
  · rcases List.mem_append.mp ha with ha | ha
    · exact A.ex a (S.ex a ha)
    · exact r1.ex a (List.mem_append_right _ ha)
  · by_cases hj : j < G.length
    · rw [List.getElem?_append_left (by rw [putG_len]; exact hj)] at h1
      rw [List.getElem?_append_left (by rw [← S.len]; exact hj)] at h2
      by_cases hk : j ∈ ks
      · obtain ⟨i, hi, rfl⟩ := List.mem_iff_getElem.mp hk
        have hki : ks[i]? = some ks[i] := List.getElem?_eq_getElem hi
        rw [putG_at nd (by rw [List.length_take]; omega) hki hj, List.getElem?_take_of_lt hi] at h1
        obtain ⟨o1, p1, p2⟩ := renOs_get e5 h1
        obtain ⟨a', b1, b2⟩ := g1 i _ hki
        rw [h2] at b2
        cases b2
        exact renO_ok hback p2 (r1.rt i o1 a p1 (by rw [List.getElem?_append_left (by omega)]; exact b1))
      · rw [putG_off hk] at h1
        have na : a ∉ γs := fun z => by
          obtain ⟨i, hi, rfl⟩ := List.mem_iff_getElem.mp z
          have hki : ks[i]? = some (ks[i]'(by omega)) := List.getElem?_eq_getElem (by omega)
          obtain ⟨a', b1, b2⟩ := g1 i _ hki
          rw [List.getElem?_eq_getElem hi] at b1
          cases b1
          exact hk (by rw [injγ h2 b2]; exact List.getElem_mem _)
        have q := S.rt j o a h1 h2
        cases o with
        | lst xs =>
          obtain ⟨ws, q1, q2⟩ := q
          exact ⟨ws, A.tr _ _ q1 (.inl na), Rs.mono kp Pre.app _ _ q2⟩
        | dct kvs =>
          obtain ⟨xs, ep, q1, hn, q2⟩ := q
          exact ⟨xs, ep, A.tr _ _ q1 (.inl na), hn, q2.mono kp Pre.app⟩
        | ins nx ns xs =>
          obtain ⟨C, dx, ws, q1, hc, q2⟩ := q
          exact ⟨C, dx, ws, A.tr _ _ q1 (.inl na), hc, Rs.mono kp Pre.app _ _ q2⟩
        | dead => trivial
    · rw [List.getElem?_append_right (by rw [putG_len]; omega), putG_len, List.getElem?_drop] at h1
      rw [List.getElem?_append_right (by rw [← S.len]; omega), ← S.len] at h2
      obtain ⟨o1, p1, p2⟩ := renOs_get e5 h1
      refine renO_ok hback p2 (r1.rt _ o1 a p1 ?_)
      rw [List.getElem?_append_right (by omega)]
      have : ks.length + (j - G.length) - γs.length = j - G.length := by omega
      rw [this]
      exact h2
  · obtain ⟨u, h1, h2⟩ := S.sl i x ex
    exact ⟨u, h1, keepR h2⟩
  · exact ren_ok hback e6 rd
end
end FL
/-! FL23: methods and defs that are given roots; x += n; a walk of a list that stands at a root; {k: v for ..} -/
namespace FL
open PySem PySem.Spec PyProof.Rows L2

/-! ### defs and methods without a look at what is left -/
def fnM (n : Nat) (body : SS) : List D → Hs → Option (D × Hs) := fun ds G => (body (slots n ds) G).bind fun x => match x.1 with
  | .rt d => some (d, x.2.2)
  | .nx => some (.non, x.2.2)
  | _ => none
section
variable {P : Program} {K : FK} {mg : Str → Option Value} {base : Heap}
theorem fnM_walk {qual : Str} {st : Stmt} {f : Addr} {N ps : List Str} {k : Nat} {body : SS}
    (hbody : ∀ (cdv : Value) (A : Around) (outer : List Env) (s : Shared) (H : Hp) (E : XK), RoomG k (A.deeper (envOfC qual (C8.fnScope st) s.heap.objs.size f cdv)) →
      DSs (cxOf C8.CX0 P K.wd K mg base N qual (C8.fnScope st) f cdv A outer s H E).nox (C8.fnBody st) body)
    (cdv : Value) (A : Around) (outer : List Env) (s : Shared) (H : Hp) (vs : List V) (Q : VK) (E : XK) (hr : RoomG k (A.deeper (envOfC qual (C8.fnScope st) s.heap.objs.size f cdv))) (h : spB K ps.length (fnM N.length body) vs H Q E) :
      ∃ t, PSs (cxOf C8.CX0 P K.wd K mg base N qual (C8.fnScope st) f cdv A outer s H E).nox (C8.fnBody st) t ∧ t { nx := fun _ H' => Q .non H', rt := Q } (L2.start N vs) H := by
  refine ⟨_, hbody cdv A outer s H E hr, ?_⟩
  obtain ⟨_, ds, G, γ, d, G2, r, ro, e, q⟩ := h
  unfold fnM at e
  obtain ⟨⟨c, δ', G'⟩, e1, e2⟩ := Option.bind_eq_some_iff.mp e
  refine ⟨slots N.length ds, G, γ, c, δ', G', start_ok ro r, e1, fun σ' H' γ' a S' => ?_⟩
  cases c with
  | nx =>
    cases e2
    exact q .non H' γ' a S'.toRo (by simp only [R])
  | rt d' =>
    cases e2
    intro v rv
    exact q v H' γ' a S'.toRo rv
  | bk => cases e2
  | ct => cases e2
theorem calM {x : Str} {st : Stmt} {f : Addr} {fd : FuncData} {N ps : List Str} {k : Nat} {body : SS} (F : C8.Def K mg x st f fd) (b : Binds K fd ps []) (S : FnScope N ps (C8.fnScope st))
    (hbody : ∀ (cdv : Value) (A : Around) (outer : List Env) (s : Shared) (H : Hp) (E : XK), RoomG k (A.deeper (envOfC x (C8.fnScope st) s.heap.objs.size f cdv)) →
      DSs (cxOf C8.CX0 P K.wd K mg base N x (C8.fnScope st) f cdv A outer s H E).nox (C8.fnBody st) body) : C8.CalG P K.wd K mg base (k + 1) x (spB K ps.length (fnM N.length body)) [] :=
  C8.calG F b .nil S (fun vs H Q E h => h.1) (fnM_walk hbody)
theorem metM {m qual : Str} {C : Addr} {st : Stmt} {f : Addr} {fd : FuncData} {N ps : List Str} {k : Nat} {body : SS} (M : Meth K C m f) (F : C8.Fun K m qual st f fd) (b : Binds K fd ps []) (S : FnScope N ps (C8.fnScope st))
    (hbody : ∀ (cdv : Value) (A : Around) (outer : List Env) (s : Shared) (H : Hp) (E : XK), RoomG k (A.deeper (envOfC qual (C8.fnScope st) s.heap.objs.size f cdv)) →
      DSs (cxOf C8.CX0 P K.wd K mg base N qual (C8.fnScope st) f cdv A outer s H E).nox (C8.fnBody st) body) : C8.MetG P K.wd K mg base (k + 1) C m (spB K ps.length (fnM N.length body)) [] :=
  C8.metG M F b .nil S (fun vs H Q E h => h.1) (fnM_walk hbody)
theorem makM {x qual : Str} {C : Addr} {st : Stmt} {f : Addr} {fd : FuncData} {N ps : List Str} {k : Nat} {body : SS} (M : Mk K C f) (hm : mg x = some (.ref C)) (F : C8.Fun K "__init__" qual st f fd) (b : Binds K fd ps []) (S : FnScope N ps (C8.fnScope st))
    (hbody : ∀ (cdv : Value) (A : Around) (outer : List Env) (s : Shared) (H : Hp) (E : XK), RoomG k (A.deeper (envOfC qual (C8.fnScope st) s.heap.objs.size f cdv)) →
      DSs (cxOf C8.CX0 P K.wd K mg base N qual (C8.fnScope st) f cdv A outer s H E).nox (C8.fnBody st) body) : C8.MakG P K.wd K mg base (k + 1) x C (spB K ps.length (fnM N.length body)) [] :=
  C8.makG M hm F b .nil S (fun vs H Q E h => h.1) (fnM_walk hbody)
end
/-! ### their calls -/
def eCallM (np : Nat) (F : List D → Hs → Option (D × Hs)) (gs : EA) : EE := fun δ G => (gs δ G).bind fun x => if x.1.length = np then callM F x.1 x.2 else none
/-- o.m(..): o an instance of x at a root -/
def eMeth (x m : Str) (np : Nat) (F : List D → Hs → Option (D × Hs)) (fo : RE) (gs : EA) : EE := fun δ G => (fo δ G).bind fun o => (insG G o).bind fun y => if y.1 = x ∧ m ∉ y.2.1 then (gs δ G).bind fun z => if z.1.length + 1 = np then callM F (o :: z.1) z.2 else none else none
/-- C(..) -/
def eMakM (x : Str) (np : Nat) (F : List D → Hs → Option (D × Hs)) (gs : EA) : EE := fun δ G => (gs δ G).bind fun z => if z.1.length + 1 = np then (callM F (.rf z.2.length :: z.1) (z.2 ++ [.ins x [] []])).bind fun r => match r.1 with
  | .non => some (.rf z.2.length, r.2)
  | _ => none else none
section
variable {X : Cx} {k j : Nat} {x m : Str} {C : Addr} {p pos apos : Pos} {e o : Expr} {es : List Expr} {fo : RE} {gs : EA} {np : Nat} {F : List D → Hs → Option (D × Hs)} {at_ : List Str}
theorem de_callM (c : C8.CalG X.prog X.w X.K X.mg X.base k x (spB X.F np F) []) (hr : RoomG j X.A) (ha : DEA X (e :: es) gs) (hk : k ≤ j := by decide) (hg : Gl X x := by rfl)
    (hdb : (x == ("__debug__" : Str)) = false := by decide) (he : starEach (e :: es) X.env = (false, eval e X.env) :: starEach es X.env := by rfl) (hpl : (backTo pos (starEach es X.env)).any (·.1) = false := by rfl) :
    DE X (.Call (.Name x p) (e :: es) [] pos) (eCallM np F gs) := PE.imp (C8.pe_cG c hr hk hg ha hdb he hpl) fun σ H Q ⟨δ, G, γ, d, G', S, ef, q⟩ => by
  simp only [eCallM, Option.bind_eq_some_iff] at ef
  obtain ⟨⟨ds, G1⟩, e1, e2⟩ := ef
  split at e2
  case isFalse => cases e2
  rename_i hlen
  refine ⟨δ, G, γ, ds, G1, S, e1, fun vs H1 γ1 a1 S1 r1 => ?_⟩
  show spB X.F np F (vs ++ []) H1 Q C8.E0
  rw [List.append_nil]
  obtain ⟨ds', os', γs, d1, Gr, p1, p2, p3, p4⟩ := callK_ok S1 r1 e2
  refine ⟨by rw [← r1.length]; exact hlen, ds', os', γs, d1, Gr, p1, p2, p3, fun v H2 γ2 A ro rd => ?_⟩
  obtain ⟨γ3, q1, q2, q3⟩ := p4 v H2 γ2 A ro rd
  exact q v H2 γ3 (a1.trans q1) q2 q3
theorem lookup_zip_none {α : Type} {f : Str} : ∀ {ns : List Str} {ds : List α}, f ∉ ns → (ns.zip ds).lookup f = none
  | [], ds, _ => by simp
  | _ :: _, [], _ => by simp
  | n :: ns, x :: ds, h => by
    rw [List.zip_cons_cons, List.lookup_cons]
    have : (f == n) = false := beq_eq_false_iff_ne.mpr fun z => h (by simp [z])
    rw [this]
    exact lookup_zip_none fun z => h (List.mem_cons_of_mem _ z)
theorem de_meth {pl : Sem Bool} (hc : ObjI X.F x C at_) (M : C8.MetG X.prog X.w X.K X.mg X.base k C m (spB X.F np F) []) (hr : RoomG j X.A) (ho : DR X o fo) (ha : DEA X (e :: es) gs) (hk : k ≤ j := by decide)
    (hst : starEach (e :: es) X.env = (false, eval e X.env) :: starEach es X.env := by rfl) (hpl : (backTo pos (starEach es X.env)).any (·.1) = false := by rfl)
    (ht : eval (.Call (.Attribute o m apos) (e :: es) [] pos) X.env = (do
      let ov ← eval o X.env
      standAt apos.atName
      let (f, first) ← holding [ov] (getMethod ov m pl)
      callWith pos f first (backTo pos (starEach (e :: es) X.env)) (backToKw pos (keywordEach [] X.env))) := by rfl) :
    DE X (.Call (.Attribute o m apos) (e :: es) [] pos) (eMeth x m np F fo gs) := PE.imp (C8.pe_metG ho hc.2.1 M hr hk ha hst hpl ht) fun σ H Q ⟨δ, G, γ, d, G', S, ef, q⟩ => by
  simp only [eMeth, Option.bind_eq_some_iff] at ef
  obtain ⟨ov, e0, ⟨y, ns, fs⟩, ei, e1⟩ := ef
  split at e1
  case isFalse => cases e1
  rename_i hm
  obtain ⟨rfl, hm⟩ := hm
  obtain ⟨⟨ds, G1⟩, e2, e3⟩ := Option.bind_eq_some_iff.mp e1
  split at e3
  case isFalse => cases e3
  rename_i hlen
  refine ⟨δ, G, γ, ov, S, e0, fun v H1 s1 r1 => ?_⟩
  obtain ⟨a, n, rfl, rfl, hn, eg, C', dx, us, h1, hc2, h2⟩ := insG_ok (S.same s1).toRo r1 ei
  have eC : (some (some (Value.ref C)) : Option (Option Value)) = some (some (.ref C')) := hc.1.symm.trans hc2.1.1
  cases eC
  refine ⟨a, dx, _, rfl, h1, lookup_zip_none hm, δ, G, γ, ds, G1, S.same s1, e2, fun vs H2 γ2 a2 S2 r2 => ?_⟩
  show spB X.F np F (V.ref a :: (vs ++ [])) H2 Q C8.E0
  rw [List.append_nil]
  have r3 : Rs X.F γ2 H2 (.rf n :: ds) (V.ref a :: vs) := Rs.cons (R.aft a2 r1) r2
  obtain ⟨ds', os', γs, d1, Gr, p1, p2, p3, p4⟩ := callK_ok S2 r3 e3
  refine ⟨by rw [← r3.length]; simpa using hlen, ds', os', γs, d1, Gr, p1, p2, p3, fun v H3 γ3 A ro rd => ?_⟩
  obtain ⟨γ4, q1, q2, q3⟩ := p4 v H3 γ3 A ro rd
  exact q v H3 γ4 ((Aft.of_same s1).trans (a2.trans q1)) q2 q3
theorem de_meth0 {pl : Sem Bool} (hc : ObjI X.F x C at_) (M : C8.MetG X.prog X.w X.K X.mg X.base k C m (spB X.F np F) []) (hr : RoomG j X.A) (ho : DR X o fo) (hk : k ≤ j := by decide)
    (ht : eval (.Call (.Attribute o m apos) [] [] pos) X.env = (do
      let ov ← eval o X.env
      standAt apos.atName
      let (f, first) ← holding [ov] (getMethod ov m pl)
      callWith pos f first (backTo pos (starEach [] X.env)) (backToKw pos (keywordEach [] X.env))) := by rfl) :
    DE X (.Call (.Attribute o m apos) [] [] pos) (eMeth x m np F fo (ofRA rNil)) := PE.imp (C8.pe_metG0 ho hc.2.1 M hr hk ht) fun σ H Q ⟨δ, G, γ, d, G', S, ef, q⟩ => by
  simp only [eMeth, Option.bind_eq_some_iff] at ef
  obtain ⟨ov, e0, ⟨y, ns, fs⟩, ei, e1⟩ := ef
  split at e1
  case isFalse => cases e1
  rename_i hm
  obtain ⟨rfl, hm⟩ := hm
  obtain ⟨⟨ds, G1⟩, e2, e3⟩ := Option.bind_eq_some_iff.mp e1
  cases e2
  split at e3
  case isFalse => cases e3
  rename_i hlen
  refine ⟨δ, G, γ, ov, S, e0, fun v H1 s1 r1 => ?_⟩
  obtain ⟨a, n, rfl, rfl, hn, eg, C', dx, us, h1, hc2, h2⟩ := insG_ok (S.same s1).toRo r1 ei
  have eC : (some (some (Value.ref C)) : Option (Option Value)) = some (some (.ref C')) := hc.1.symm.trans hc2.1.1
  cases eC
  refine ⟨a, dx, _, rfl, h1, lookup_zip_none hm, ?_⟩
  show spB X.F np F (V.ref a :: ([] ++ [])) H1 Q C8.E0
  rw [List.append_nil]
  have r3 : Rs X.F γ H1 [.rf n] [V.ref a] := Rs.cons r1 Rs.nil
  obtain ⟨ds', os', γs, d1, Gr, p1, p2, p3, p4⟩ := callK_ok (S.same s1) r3 e3
  refine ⟨by rw [← r3.length]; simpa using hlen, ds', os', γs, d1, Gr, p1, p2, p3, fun v H3 γ3 A ro rd => ?_⟩
  obtain ⟨γ4, q1, q2, q3⟩ := p4 v H3 γ3 A ro rd
  exact q v H3 γ4 ((Aft.of_same s1).trans q1) q2 q3
theorem de_makM (hc : ObjI X.F x C at_) (c : C8.MakG X.prog X.w X.K X.mg X.base k x C (spB X.F np F) []) (hr : RoomG j X.A) (ha : DEA X (e :: es) gs) (hk : k + 1 ≤ j := by decide) (hg : Gl X x := by rfl)
    (hdb : (x == ("__debug__" : Str)) = false := by decide) (he : starEach (e :: es) X.env = (false, eval e X.env) :: starEach es X.env := by rfl) (hpl : (backTo pos (starEach es X.env)).any (·.1) = false := by rfl) :
    DE X (.Call (.Name x p) (e :: es) [] pos) (eMakM x np F gs) := PE.imp (C8.pe_mkG c hr hk hg ha hdb he hpl) fun σ H Q ⟨δ, G, γ, d, G', S, ef, q⟩ => by
  simp only [eMakM, Option.bind_eq_some_iff] at ef
  obtain ⟨⟨ds, G1⟩, e1, e2⟩ := ef
  split at e2
  case isFalse => cases e2
  rename_i hlen
  obtain ⟨⟨d1, G2⟩, e3, e4⟩ := Option.bind_eq_some_iff.mp e2
  refine ⟨δ, G, γ, ds, G1, S, e1, fun vs H1 γ1 a1 S1 r1 => ?_⟩
  intro a dx ha hdx hne
  show spB X.F np F (V.ref a :: (vs ++ [])) _ _ C8.E0
  rw [List.append_nil]
  -- the own dict, then the instance
  have s1 : Same H1 (upd H1 dx (.own a)) := same_upd hdx
  have ha2 : upd H1 dx (.own a) a = none := by
    rw [upd_ne (Ne.symm hne)]
    exact ha
  obtain ⟨a2, S2, r2⟩ := (S1.same s1).pushO (o := .ins x [] []) (ho := .ins C dx []) ha2 ⟨C, dx, [], upd_same, ⟨⟨hc.1, hc.2.1, fun f hf => by simp at hf⟩, rfl, by decide⟩, Rs.nil⟩
  have a12 := (Aft.of_same (γ := γ1) s1).trans a2
  have r3 : Rs X.F (γ1 ++ [a]) (upd (upd H1 dx (.own a)) a (.ins C dx [])) (.rf G1.length :: ds) (V.ref a :: vs) := Rs.cons r2 (Rs.aft a12 r1)
  obtain ⟨ds', os', γs, d2, Gr, p1, p2, p3, p4⟩ := callK_ok S2 r3 e3
  refine ⟨by rw [← r3.length]; simpa using hlen, ds', os', γs, d2, Gr, p1, p2, p3, fun v H3 γ3 A ro rd => ?_⟩
  obtain ⟨γ4, q1, q2, q3⟩ := p4 v H3 γ3 A ro rd
  split at e4
  · rename_i hd1
    cases e4
    obtain rfl : d1 = .non := hd1
    simp only [R] at q3
    exact ⟨q3, q _ H3 γ4 (a1.trans (a12.trans q1)) q2 (R.aft q1 r2)⟩
  · cases e4
end

/-! ### x += e, whole numbers -/
def sAugI (f : Int → Int → Int) (i : Nat) (g : EE) : SS := fun δ G => match δ[i]? with
  | some (some (.int a)) => (g δ G).bind fun y => match y.1 with
    | .int b => some (.nx, δ.set i (some (.int (f a b))), y.2)
    | _ => none
  | _ => none
section
variable {X : Cx} {e : Expr} {ga : EE} {pos pos' : Pos}
theorem ds_aug {op : Operator} {f : Int → Int → Int} (i : Nat) {x : Str} (hN : X.N.Nodup) (ho : PIp X op (ipI f)) (he : DE X e ga) (hi : X.N[i]? = some x := by rfl) (hx : Loc X.env.scope x := by first | exact Or.inl rfl | exact Or.inr rfl)
    (hf : X.fn x = true ∨ X.env.scope.names.lookup x = some .local := by first | exact .inl rfl | exact .inr rfl | assumption) : DS X (.AugAssign (.Name x pos') op e pos) (sAugI f i ga) :=
  PS.imp (ps_aug hN hi hx he ho hf) fun D σ H ⟨δ, G, γ, k, δ', G', S, ef, q⟩ => by
  unfold sAugI at ef
  split at ef
  case h_2 => cases ef
  rename_i a ea
  obtain ⟨⟨y, G1⟩, e1, e2⟩ := Option.bind_eq_some_iff.mp ef
  split at e2
  case h_2 => cases e2
  rename_i b eb
  cases e2
  obtain rfl : y = .int b := eb
  obtain ⟨v, h1, h2⟩ := S.sl i _ ea
  simp only [R] at h2
  subst h2
  refine ⟨_, h1, δ, G, γ, _, G1, S, e1, fun u H1 γ1 a1 S1 r1 => ?_⟩
  simp only [R] at r1
  subst r1
  exact ⟨a, b, rfl, rfl, q _ H1 γ1 a1 (S1.set i (by simp only [R]))⟩
end

/-! ### for x in l, l a list at a root: in each turn the item that stands there -/
def forI (k : Nat) (set : Sets) (b : SS) : Nat → Nat → SS
  | 0, _, _, _ => none
  | m + 1, i, δ, G => match G[k]? with
    | some (.lst ds) => match ds[i]? with
      | none => some (.nx, δ, G)
      | some d => (set d δ).bind fun δ1 => (b δ1 G).bind fun x => match x.1 with
        | .nx => forI k set b m (i + 1) x.2.1 x.2.2
        | .ct => forI k set b m (i + 1) x.2.1 x.2.2
        | .bk => some (.nx, x.2.1, x.2.2)
        | .rt r => some (.rt r, x.2.1, x.2.2)
    | _ => none
def sForI (src : EE) (set : Sets) (b : SS) : SS := fun δ G => (src δ G).bind fun x => match x.1 with
  | .rf k => match x.2[k]? with
    | some (.lst ds) => forI k set b (ds.length + 1) 0 δ x.2
    | _ => none
  | _ => none
section
variable {X : Cx} {e tg iter : Expr} {body : List Stmt} {ga : EE} {pos : Pos} {t : TG} {set : Sets} {is : List Nat} {g : SS}
theorem ds_forI (hp : PassesOwn (model X.prog X.w) X.A X.env X.xe) (hc : X.calm = true) (hi : DE X iter ga) (ht : PG X tg t) (hg : GG X.F t set is) (hb : DSs X body g)
    (hs : ∀ x, foldedSetIterable iter X.env x = pure x := by intro _; rfl) : DS X (.For tg iter body [] pos) (sForI ga set g) := PS.imp (ps_for hp hc (pi_list hi) ht hb hs) fun D σ H ⟨δ, G, γ, c, δ', G', S, ef, q⟩ => by
  simp only [sForI, Option.bind_eq_some_iff] at ef
  obtain ⟨⟨d, G1⟩, e1, e2⟩ := ef
  split at e2
  case h_2 => cases e2
  rename_i k ek
  obtain rfl : d = .rf k := ek
  split at e2
  case h_2 => cases e2
  rename_i ds0 eg0
  refine ⟨δ, G, γ, .rf k, G1, S, e1, fun v H1 γ1 a1 S1 r1 => ?_⟩
  simp only [R] at r1
  obtain ⟨a, rfl, hk⟩ := r1
  obtain ⟨vs0, h01, h02⟩ := S1.toRo.at eg0 hk
  refine ⟨a, rfl, ⟨vs0, .inl (.inl h01)⟩, ?_⟩
  refine ⟨fun i m σ2 H2 => ∃ δ2 G2 γ2, Aft γ1 H1 γ2 H2 ∧ Sx X.F H2 δ2 G2 σ2 γ2 ∧ forI k set g m i δ2 G2 = some (c, δ', G'), ⟨_, δ, G1, γ1, Aft.refl, S1, e2⟩, ?_⟩
  rintro i m σ2 H2 ⟨δ2, G2, γ2, a2, S2, ef⟩
  cases m with
  | zero => cases ef
  | succ m =>
    unfold forI at ef
    split at ef
    case h_2 => cases ef
    rename_i ds eg
    have hk2 : γ2[k]? = some a := a2.pr k a hk
    obtain ⟨vs, h1, h2⟩ := S2.toRo.at eg hk2
    have hsq : SqL X.K H2 a vs := .inl (.inl h1)
    split at ef
    · rename_i ed
      cases ef
      left
      refine ⟨⟨vs, hsq, ?_⟩, q σ2 H2 γ2 (a1.trans a2) S2⟩
      rw [← h2.length]
      exact List.getElem?_eq_none_iff.mp ed
    · rename_i d ed
      right
      obtain ⟨v, ev, rd⟩ := h2.get ed
      obtain ⟨δ3, e3, ⟨c4, δ4, G4⟩, e4, e5⟩ : ∃ δ3, set d δ2 = some δ3 ∧ ∃ x, g δ3 G2 = some x ∧ (match x.1 with
        | .nx => forI k set g m (i + 1) x.2.1 x.2.2
        | .ct => forI k set g m (i + 1) x.2.1 x.2.2
        | .bk => some (.nx, x.2.1, x.2.2)
        | .rt r => some (.rt r, x.2.1, x.2.2)) = some (c, δ', G') := by
        simpa only [Option.bind_eq_some_iff] using ef
      refine ⟨⟨vs, v, hsq, ev⟩, fun σ5 H5 => ∃ δ5 G5 γ5, Aft γ1 H1 γ5 H5 ∧ Sx X.F H5 δ5 G5 σ5 γ5 ∧ forI k set g m (i + 1) δ5 G5 = some (c, δ', G'), fun σ5 H5 h => ⟨m, by omega, h⟩, fun x H3 y => ?_⟩
      obtain ⟨rfl, f⟩ := y
      have ex := f vs hsq
      rw [ev] at ex
      cases ex
      refine hg _ δ2 δ3 v σ2 H3 G2 γ2 _ e3 S2 rd fun σ3 _ S4 => ?_
      refine ⟨δ3, G2, γ2, c4, δ4, G4, S4, e4, fun σ6 H6 γ6 a6 S6 => ?_⟩
      have a16 : Aft γ1 H1 γ6 H6 := a2.trans a6
      cases c4 with
      | nx => exact ⟨δ4, G4, γ6, a16, S6, e5⟩
      | ct => exact ⟨δ4, G4, γ6, a16, S6, e5⟩
      | bk =>
        cases e5
        exact q σ6 H6 γ6 (a1.trans a16) S6
      | rt r =>
        cases e5
        exact q σ6 H6 γ6 (a1.trans a16) S6
end
end FL
/-! FL24: {k: v for x in xs}, keys ints or texts, frozen; len of it -/
namespace FL
open PySem PySem.Spec PyProof.Rows L2
def putKD (kvs : List (L2.Key × D)) (k : L2.Key) (d : D) : List (L2.Key × D) :=
  if (kvs.any fun kv => decide (kv.1 = k)) = true then kvs.map (fun kv => if kv.1 = k then (kv.1, d) else kv) else kvs ++ [(k, d)]
def dcR (set : Sets) (fk fv : RE) : List D → Env' → Hs → List (L2.Key × D) → Option (List (L2.Key × D))
  | [], _, _, acc => some acc
  | d :: ds, δ, G, acc => (set d δ).bind fun δ1 => (fk δ1 G).bind fun y => (keyK y).bind fun k => (fv δ1 G).bind fun z => dcR set fk fv ds δ G (putKD acc k z)
def rDc (src : RA) (set : Sets) (fk fv : RE) (vs : List Nat) : RE := fun δ G => (src δ G).bind fun ds => if ds.length ≤ 1000000 then (dcR set fk fv ds (wipeD δ vs) G []).bind fun ys => some (.fd (ys.map (·.1)) (ys.map (·.2))) else none
section
variable {K : FK} {set : Sets} {g : TG} {is vs : List Nat}
def KVs (K : FK) (γ : List Addr) (H : Hp) (acc : List (L2.Key × D)) (kvs : List (L2.Key × V)) : Prop := acc.map (·.1) = kvs.map (·.1) ∧ Rs K γ H (acc.map (·.2)) (kvs.map (·.2))
theorem KVs.put {γ : List Addr} {H : Hp} {k : L2.Key} {d : D} {v : V} (hv : R K γ H d v) : ∀ {acc : List (L2.Key × D)} {kvs : List (L2.Key × V)}, KVs K γ H acc kvs → KVs K γ H (putKD acc k d) (putK kvs k v) := by
  intro acc kvs h
  have any : ∀ {acc : List (L2.Key × D)} {kvs : List (L2.Key × V)}, acc.map (·.1) = kvs.map (·.1) → (acc.any fun kv => decide (kv.1 = k)) = (kvs.any fun kv => decide (kv.1 = k)) := fun {acc kvs} e => by
    have h1 : (acc.any fun kv => decide (kv.1 = k)) = (acc.map (·.1)).any fun c => decide (c = k) := by rw [List.any_map]; rfl
    have h2 : (kvs.any fun kv => decide (kv.1 = k)) = (kvs.map (·.1)).any fun c => decide (c = k) := by rw [List.any_map]; rfl
    rw [h1, h2, e]
  have mp : ∀ {acc : List (L2.Key × D)} {kvs : List (L2.Key × V)}, KVs K γ H acc kvs → KVs K γ H (acc.map fun kv => if kv.1 = k then (kv.1, d) else kv) (kvs.map fun kv => if kv.1 = k then (kv.1, v) else kv) := by
    intro acc
    induction acc with
    | nil =>
      intro kvs h
      have : kvs = [] := by
        have := h.1
        simpa using this.symm
      subst this
      exact h
    | cons p acc ih =>
      intro kvs h
      cases kvs with
      | nil => have := h.1; simp at this
      | cons q kvs =>
        obtain ⟨h1, h2⟩ := h
        simp only [List.map_cons, List.cons.injEq] at h1
        obtain ⟨r1, r2⟩ := Rs.uncons (d := p.2) (ds := acc.map (·.2)) (v := q.2) (vs := kvs.map (·.2)) h2
        obtain ⟨i1, i2⟩ := ih ⟨h1.2, r2⟩
        rw [List.map_cons, List.map_cons]
        by_cases hk : p.1 = k
        · rw [if_pos hk, if_pos (h1.1 ▸ hk)]
          exact ⟨by simp only [List.map_cons, h1.1]; rw [i1], Rs.cons hv i2⟩
        · rw [if_neg hk, if_neg (h1.1 ▸ hk)]
          exact ⟨by simp only [List.map_cons, h1.1]; rw [i1], Rs.cons r1 i2⟩
  unfold putKD putK
  rw [any h.1]
  split
  · exact mp h
  · refine ⟨by simp [h.1], ?_⟩
    rw [List.map_append, List.map_append]
    exact Rs.append h.2 (Rs.cons hv Rs.nil)
theorem KVs.mono {γ γ' : List Addr} {H H' : Hp} {acc : List (L2.Key × D)} {kvs : List (L2.Key × V)} (k : Kp H H') (p : Pre γ γ') (h : KVs K γ H acc kvs) : KVs K γ' H' acc kvs := ⟨h.1, Rs.mono k p _ _ h.2⟩
theorem putKD_len (kvs : List (L2.Key × D)) (k : L2.Key) (v : D) : (putKD kvs k v).length ≤ kvs.length + 1 := by
  unfold putKD
  split
  · rw [List.length_map]; omega
  · simp
theorem keyK_ok {γ : List Addr} {H : Hp} {d : D} {k : L2.Key} {v : V} (e : keyK d = some k) (r : R K γ H d v) : v = kV k := by
  unfold keyK at e
  split at e
  · cases e
    simp only [R] at r
    exact r
  · cases e
    simp only [R] at r
    exact r
  · cases e
theorem kp_otherD {H : Hp} {p : Addr} {o : HO} {kvs : List (L2.Key × V)} (hp : H p = some (.dK kvs)) : Kp H (upd H p o) := fun b x e i => by
  rw [upd_ne]
  · exact e
  · intro z
    subst z
    rw [hp] at e
    cases e
    cases i
theorem dc_r {src : RA} {fk fv : RE} (hg : GG K g set is) (hv : ∀ i ∈ is, i ∈ vs) (σ : L2.St) (H : Hp) (Q : VK) (h : lR K (rDc src set fk fv vs) σ H Q) :
    tFrzD (tDc (lIR K true src) g (lRT K cYes) (lR K fk) (lR K fv) vs) σ H Q := by
  obtain ⟨δ, G, γ, d, S, ef, q⟩ := h
  simp only [rDc, Option.bind_eq_some_iff] at ef
  obtain ⟨ds, e1, e2⟩ := ef
  split at e2
  case isFalse => cases e2
  rename_i hle
  obtain ⟨ys, e2', e3⟩ := Option.bind_eq_some_iff.mp e2
  cases e3
  refine ⟨δ, G, γ, ds, S, e1, fun J H1 s1 it L hL => ?_⟩
  refine ⟨fun i m H2 => m + i = ds.length ∧ ∃ acc kvs, H2 L = some (.dK kvs) ∧ KVs K γ H2 acc kvs ∧ Same H1 H2 ∧ acc.length ≤ i ∧ dcR set fk fv (ds.drop i) (wipeD δ vs) G acc = some ys, ⟨ds.length, by simp, [], [], upd_same, ⟨rfl, Rs.nil⟩, same_upd hL, by simp, by simpa using e2'⟩, ?_⟩
  rintro i m H2 ⟨hm, acc, kvs, hl, ra, s2, hai, e4⟩
  have st : Stp true H1 H2 := by simpa [Stp] using s2
  by_cases hlt : i < ds.length
  · right
    obtain ⟨j1, _, j3⟩ := it H2 st i
    rw [List.drop_eq_getElem_cons hlt] at e4
    simp only [dcR, Option.bind_eq_some_iff] at e4
    obtain ⟨δ3, e5, y, e6, k, e7, z, e8, e9⟩ := e4
    refine ⟨j1 hlt, fun H5 => ∃ acc kvs, H5 L = some (.dK kvs) ∧ KVs K γ H5 acc kvs ∧ Same H1 H5 ∧ acc.length ≤ i + 1 ∧ dcR set fk fv (ds.drop (i + 1)) (wipeD δ vs) G acc = some ys, ?_, fun x H3 yy => ?_⟩
    · rintro H5 hh
      exact ⟨m - 1, by omega, by omega, hh⟩
    · obtain ⟨s3, dd, ed, rd⟩ := j3 hlt x H3 yy
      rw [List.getElem?_eq_getElem hlt] at ed
      cases ed
      have s13 : Same H H3 := s1.trans (s2.trans s3)
      have S3 := (S.wipe vs).same s13
      refine hg _ (wipeD δ vs) δ3 x (wipe σ vs) H3 G γ _ e5 S3 rd fun σ3 c3 S4 => ⟨?_, ?_⟩
      · rw [wipe_chg c3 hv, wipe_wipe]
      · refine ⟨δ3, G, γ, true, S4, rfl, fun H4 s4 => ?_⟩
        simp only [if_true]
        refine ⟨δ3, G, γ, y, S4.same s4, e6, fun u H5 s5 r5 => ⟨δ3, G, γ, z, (S4.same s4).same s5, e8, fun w H6 s6 r6 => ?_⟩⟩
        have hl6 : H6 L = some (.dK kvs) := s6 _ _ (s5 _ _ (s4 _ _ (s3 _ _ hl)))
        have ra6 : KVs K γ H6 acc kvs := ra.mono (Kp.of_same (s3.trans (s4.trans (s5.trans s6)))) Pre.refl
        have hle2 : kvs.length = acc.length := by
          have := congrArg List.length ra.1
          simpa using this.symm
        refine ⟨kvs, k, keyK_ok e7 (R.same s6 r5), hl6, line7 (by omega), putKD acc k z, putK kvs k w, upd_same, (ra6.put r6).mono (kp_otherD hl6) Pre.refl, ?_, ?_, e9⟩
        · intro b o eb
          have nb : b ≠ L := fun zz => by
            subst zz
            rw [hL] at eb
            cases eb
          rw [upd_ne nb]
          exact s6 _ _ (s5 _ _ (s4 _ _ (s3 _ _ (s2 _ _ eb))))
        · have := putKD_len acc k z
          omega
  · left
    obtain ⟨_, j2, _⟩ := it H2 st i
    have hi : ds.length ≤ i := by omega
    refine ⟨j2 hi, ?_⟩
    rw [List.drop_eq_nil_of_le hi] at e4
    cases e4
    refine ⟨L, kvs, rfl, hl, fun od => q _ _ ?_ ?_⟩
    · intro b o eb
      have nb : b ≠ L := fun z => by
        subst z
        rw [s1 _ _ eb] at hL
        cases hL
      rw [upd_ne nb]
      exact s2 _ _ (s1 _ _ eb)
    · simp only [R]
      refine ⟨L, od, kvs.map (·.2), rfl, ?_, by simp, Rs.mono (kp_otherD hl) Pre.refl _ _ ra.2⟩
      rw [upd_same, ra.1]
      have : (kvs.map (·.1)).zip (kvs.map (·.2)) = kvs := by
        rw [List.zip_map', List.map_id'']
        exact fun _ => rfl
      rw [this]
end
section
variable {X : Cx} {kx vx tg iter e : Expr} {scope : Scope} {pos : Pos} {set : Sets} {g : TG} {is : List Nat}
theorem dr_dc {src : RA} {fk fv : RE} (own : List (Str × Nat)) (hc : X.calm = true) (hN : X.N.Nodup) (hi : DIR X true tg iter src) (ok : BlkOk X.N X.env.scope scope own)
    (hp : ∀ (s : Shared) (H : Hp) (C : Addr) (cl : List (Str × Addr)) (fp : List Addr), PG (X.blk s H scope (compEnvC scope cl C X.env) fp) tg g) (hg : GG X.F g set is)
    (hk : ∀ (s : Shared) (H : Hp) (C : Addr) (cl : List (Str × Addr)) (fp : List Addr), DR (X.blk s H scope (compEnvC scope cl C X.env) fp) kx fk)
    (he : ∀ (s : Shared) (H : Hp) (C : Addr) (cl : List (Str × Addr)) (fp : List Addr), DR (X.blk s H scope (compEnvC scope cl C X.env) fp) vx fv)
    (hv : ∀ i ∈ is, i ∈ own.map (·.2) := by decide) (hs : ∀ x, foldedSetIterable iter X.env x = pure x := by intro _; rfl) :
    DR X (.DictComp kx vx [⟨tg, iter, [], 0⟩] scope pos) (rDc src set fk fv (own.map (·.2))) := PE.imp (pe_frzD (pe_dc hc hN hi ok hp (fun _ _ _ _ _ => drts_nil) hk he hs)) (dc_r hg hv)
/-- len of a frozen dict -/
def gLenF : Hs → List D → Option D := fun _ ds => match ds with
  | [.fd ks _] => some (.int ks.length)
  | _ => none
theorem call_lenF : CallR X (.builtin "len") (fun xs H Q => ∃ a kvs, xs = [V.ref a] ∧ Rd H a (.dK kvs) ∧ Q (.int ((kvs.length : Nat) : Int)) H) := by
  intro pins s σ H xs us Q I r h
  obtain ⟨a, kvs, rfl, ha, q⟩ := h
  obtain ⟨u, rfl, ru⟩ := vals1 r
  cases ru
  exact d_len I ha fun t s' I' => ⟨.int kvs.length, H, I', ⟨t, rfl⟩, q⟩
theorem gLenF_ok {K : FK} : CallG K (fun xs H Q => ∃ a kvs, xs = [V.ref a] ∧ Rd H a (.dK kvs) ∧ Q (.int ((kvs.length : Nat) : Int)) H) gLenF := by
  intro G γ H ds d vs Q r rs e q
  unfold gLenF at e
  split at e
  case h_2 => cases e
  rename_i ks xs
  cases e
  obtain ⟨v, rfl, h⟩ := rs.one
  simp only [R] at h
  obtain ⟨a, o, ws, rfl, h1, hl, h2⟩ := h
  refine ⟨a, _, rfl, .inr ⟨o, h1⟩, q _ H (Same.refl H) ?_⟩
  simp only [R]
  rw [List.length_zip, ← h2.length, hl, Nat.min_self]
abbrev gLenA := gOr gLen gLenF
theorem v_lenA : CalB X (.builtin "len") gLenA := .or v_len ⟨_, call_lenF, gLenF_ok⟩
end
end FL
/-! FL25: k in d, k not in d: d at a root, the key a tuple -/
namespace FL
open PySem PySem.Spec PyProof.Rows L2
def inDct (neg : Bool) : Hs → D → D → Option D := fun G x y => (dctG G y).bind fun kvs => (keyD x).bind fun k => some (.bl (neg != (valD kvs k).isSome))
def rInDct (K : FK) (neg : Bool) : R2 := fun x y H Q => ∃ (a b : Addr) (γ : List Addr) (kvs : List (D × D)) (kd : D) (k : NestedKey), x = .ref b ∧ y = .ref a ∧ RG K γ H (.dct kvs) a ∧ R K γ H kd (.ref b) ∧ keyD kd = some k ∧ Q (.bl (neg != (valD kvs k).isSome)) H
section
variable {X : Cx} {j : Nat}
theorem DK.isSome {K : FK} {γ : List Addr} {H : Hp} {kvs : List (D × D)} {xs : List (NestedKey × Addr × Value)} {k : NestedKey} (dk : DK K γ H kvs xs) : (atKey xs k).isSome = (valD kvs k).isSome := by
  rcases dk.val (k := k) with ⟨e1, e2⟩ | ⟨d', b', u', v', e1, e2, _, _⟩
  · rw [e1, e2]
    rfl
  · rw [e1, e2]
    rfl
theorem op_inDct (hr : RoomG j X.A) : OpR X (compareOp .In) (rInDct X.F false) := by
  intro pins s σ H x y v u Q I rx ry h
  obtain ⟨a, b, γ, kvs, kd, k, rfl, rfl, rg, rk, ek, q⟩ := h
  cases (show v = Value.ref b from rx)
  cases (show u = Value.ref a from ry)
  obtain ⟨xs, ep, ha, dk, z, hl, dd, _⟩ := dct_at I rg
  obtain ⟨hk1, hk2, _⟩ := keyD_ok ek
  refine wpAny_in_heap (knd := nestedKind X.prog X.w) (k := k) (room_n hr) ⟨R.nest I kd k (.ref b) (.ref b) hk1 rk rfl, hk2⟩ z dd ⟨.bl _, H, I.tok _, rfl, ?_⟩
  rw [dk.isSome]
  simpa using q
theorem op_ninDct (hr : RoomG j X.A) : OpR X (compareOp .NotIn) (rInDct X.F true) := by
  intro pins s σ H x y v u Q I rx ry h
  obtain ⟨a, b, γ, kvs, kd, k, rfl, rfl, rg, rk, ek, q⟩ := h
  cases (show v = Value.ref b from rx)
  cases (show u = Value.ref a from ry)
  obtain ⟨xs, ep, ha, dk, z, hl, dd, _⟩ := dct_at I rg
  obtain ⟨hk1, hk2, _⟩ := keyD_ok ek
  show wpAny (model X.prog X.w) X.A (do return Value.bool (!(← contains (.ref a) (.ref b)))) _ _ s
  refine wpAny_bind (wpAny_contains_heap (knd := nestedKind X.prog X.w) (k := k) (room_n hr) ⟨R.nest I kd k (.ref b) (.ref b) hk1 rk rfl, hk2⟩ z dd (wpAny_pure ⟨.bl _, H, I.tok _, rfl, ?_⟩))
  rw [dk.isSome]
  simpa using q
theorem inDct_ok {K : FK} {neg : Bool} : OpG K (rInDct K neg) (inDct neg) := by
  intro G γ H dx dy d v u Q r rx ry e q
  simp only [inDct, Option.bind_eq_some_iff, Option.some.injEq] at e
  obtain ⟨kvs, e1, k, e2, rfl⟩ := e
  obtain ⟨a, i, rfl, rfl, hi, eg, rg⟩ := dctG_ok r ry e1
  obtain ⟨b, rfl⟩ := key_ref e2 rx
  exact ⟨a, b, γ, kvs, dx, k, rfl, rfl, rg, rx, e2, q _ H (Same.refl H) (by simp only [R])⟩
abbrev g_inD := inDct false
abbrev g_ninD := inDct true
theorem w_inD (hr : RoomG j X.A) : OpB X (compareOp .In) g_inD := ⟨_, op_inDct hr, inDct_ok⟩
theorem w_ninD (hr : RoomG j X.A) : OpB X (compareOp .NotIn) g_ninD := ⟨_, op_ninDct hr, inDct_ok⟩
end
end FL
/-! FL26: the head's facts of classes whose instances change; f() -/
namespace C8
open PySem PySem.Spec PyProof.Rows L2 SX
variable {X : Cx} {k j : Nat} {x : Str} {sp : Sp} {dvs : List V} {p pos : Pos}
theorem pe_cG0 (c : CalG X.prog X.w X.K X.mg X.base k x sp dvs) (hr : RoomG j X.A) (hk : k ≤ j) (hg : Gl X x) (hdb : (x == ("__debug__" : Str)) = false := by decide) : PE X (.Call (.Name x p) [] [] pos) (tCall sp dvs E0 tNil) := by
  obtain ⟨f, fd, ps, ds, F, hm, kp, b, d⟩ := c.ex
  refine ⟨fun pins s σ H Q I h => ?_⟩
  refine wpAny_Call_Name_kw (ld_glob I hg hm ?_ hdb)
  exact PySem.W.callWith_K0 I.kIn kp (run_fnG (us := []) F (hr.mono hk) b d pass0 I .nil h)
end C8
namespace FL
open PySem PySem.Spec PyProof.Rows L2
def meD (x m : Str) (st : Stmt) (qual : Str) : He.FnD := ⟨(x, some m), m, qual, C8.fnArgs st, C8.fnBody st, C8.fnScope st⟩
section
variable {fa : List He.Fa} {fn : List He.FnD} {cs : List (Str × D)} {K : PySem.W.Frag}
theorem meth_of (c : SaysF fa fn cs K) (i : Nat) {x m qual : Str} {st : Stmt} {ps : List Str} (h : fn[i]? = some (meD x m st qual))
    (hb : ∀ (kV doc pm : Value) (an : Option Addr) (cdv ct : Value) (us : List Value), us.length = ps.length → bindArgs (PySem.W.fnOf m qual (C8.fnArgs st) (C8.fnBody st) (C8.fnScope st) .none kV doc pm an cdv ct) ⟨us, []⟩ = pure (ps.zip us)) :
    ∃ fd, C8.Fun K m qual st (He.ma K (He.ga K x) m) fd ∧ Binds K fd ps [] := by
  obtain ⟨oc, od, osl, kV, doc, pm, an, cdv, ct, e1, e2⟩ := c.def_ i h
  exact ⟨_, ⟨oc, od, .none, kV, doc, pm, an, cdv, ct, osl, rfl, e1, e2⟩, .all (hb kV doc pm an cdv ct)⟩
theorem clsI_of {w : World} {h : Heap} {mg : Str → Option Value} (X : K.In h) (G : h.Ns mainGlobals mg) (c : SaysF fa fn cs K) {x : Str} {ns : List Str} (hg : He.Fa.glo x ∈ fa) (hc : He.Fa.cls x ∈ fa) (hn : ∀ f ∈ ns, He.Fa.noat x f ∈ fa) :
    mg x = some (.ref (He.ga K x)) ∧ ObjI ⟨K, w⟩ x (He.ga K x) ns :=
  ⟨He.glo_ok X G (c.fact hg), He.eqO_ok (c.fact hg), He.cls_ok (c.fact hc), fun f hf => He.noat_ok (c.fact (hn f hf))⟩
end
section
variable {X : Cx} {k j : Nat} {x : Str} {p pos : Pos}
theorem dr_callP0 {F : List D → Option D} (c : C8.CalG X.prog X.w X.K X.mg X.base k x (spP X.F 0 F) []) (hr : RoomG j X.A) (hk : k ≤ j := by decide) (hg : Gl X x := by rfl)
    (hdb : (x == ("__debug__" : Str)) = false := by decide) :
    DR X (.Call (.Name x p) [] [] pos) (rCallP 0 F rNil) := PE.imp (pe_frzM (C8.pe_cG0 c hr hk hg hdb)) fun σ H Q ⟨δ, G, γ, d, S, ef, q⟩ => by
  simp only [rCallP, rNil, Option.bind_some] at ef
  split at ef
  · show spP X.F 0 F ([] ++ []) H _ C8.E0
    refine ⟨rfl, [], d, Rs.nil, ef, fun v H2 s2 r2 => ?_⟩
    rcases r2 with r2 | ⟨ds', p, ws, rfl, rfl, hp, hp2, r2⟩
    · exact .inl (q v H2 s2 (R.mono Kp.refl (fun k a h => by simp at h) _ _ r2))
    · refine .inr ⟨p, ws, rfl, hp2, fun od => ?_⟩
      obtain ⟨s3, r3⟩ := frz_res (od := od) s2 hp hp2 (Rs.mono Kp.refl (fun k a h => by simp at h) _ _ r2)
      exact q _ _ s3 r3
  · cases ef
end
end FL
/-! FL27: repr of a list at a root -/
namespace FL
open PySem PySem.Spec PyProof.Rows L2
def gReprR : Hs → List D → Option D := fun G ds => match ds with
  | [.rf k] => match G[k]? with
    | some (.lst xs) => if (D.fl xs).ok = true ∧ (D.fl xs).sh = true ∧ (D.fl xs).dep ≤ 60 ∧ (D.fl xs).py.shown.length ≤ 10000000 then some (.str (D.fl xs).py.shown) else none
    | _ => none
  | _ => none
theorem gReprR_ok {K : FK} : CallG K (rRepr K) gReprR := by
  intro G γ H ds d vs Q r rs e q
  unfold gReprR at e
  split at e
  case h_2 => cases e
  rename_i k
  split at e
  case h_2 => cases e
  rename_i xs eg
  split at e
  case isFalse => cases e
  rename_i hc
  cases e
  obtain ⟨v, rfl, h⟩ := rs.one
  simp only [R] at h
  obtain ⟨a, rfl, hk⟩ := h
  obtain ⟨us, h1, h2⟩ := r.at eg hk
  have hd := D.depth (.fl xs)
  have dp : Dp K H (.ref a) (D.fl xs).py := by
    simp only [D.py]
    exact .lst (.inl (.inl h1)) (Rs.dp xs us (by simpa only [D.ok] using hc.1) h2)
  exact ⟨_, (D.fl xs).py, rfl, dp, (D.fl xs).sh_ok hc.2.1, line7' hc.2.2.2, by omega, PyData.hasDict_of_canLay _ ((D.fl xs).lay hc.1), q _ H (Same.refl H) (by simp only [R])⟩
abbrev gReprA := gOr gRepr gReprR
theorem v_reprA {X : Cx} {j : Nat} (hr : RoomG j X.A) : CalB X (.builtin "repr") gReprA := .or (v_repr hr) ⟨_, call_reprD hr, gReprR_ok⟩
end FL
namespace K30
open PySem PySem.Spec PyProof.Rows L2 FL
def topS (i : Nat) : Stmt := PySem.Challenge.pw_setnotseen_k30_whole_walks_turned_about.main.body.getD i (.Pass ⟨0, 0, 0, 0⟩)
def initS (i j : Nat) : Stmt := (C8.clsBody (topS i)).getD j (.Pass ⟨0, 0, 0, 0⟩)
def c_MOST_VARIABLES : D := (.int 6)
def c_MOST_TIES : D := (.int 6)
def c_MOST_STEPS : D := (.int 40)
def c_KINDS : D := (.tup [.str "to", .str "from", .str "tie"])
structure Ev (K : FK) (mg : Str → Option Value) : Prop where
  d_is_integer : ∃ f fd, C8.Def K mg "is_integer" (topS 5) f fd ∧ Binds K fd ["thing"] []
  d_is_between : ∃ f fd, C8.Def K mg "is_between" (topS 6) f fd ∧ Binds K fd ["thing", "least", "most"] []
  d_is_under : ∃ f fd, C8.Def K mg "is_under" (topS 7) f fd ∧ Binds K fd ["thing", "many"] []
  d_are_rising : ∃ f fd, C8.Def K mg "are_rising" (topS 8) f fd ∧ Binds K fd ["some"] []
  d_is_lot : ∃ f fd, C8.Def K mg "is_lot" (topS 9) f fd ∧ Binds K fd ["thing", "many"] []
  d_is_arrow : ∃ f fd, C8.Def K mg "is_arrow" (topS 13) f fd ∧ Binds K fd ["many", "thing"] []
  d_are_pairs : ∃ f fd, C8.Def K mg "are_pairs" (topS 14) f fd ∧ Binds K fd ["many", "thing"] []
  d_ordered : ∃ f fd, C8.Def K mg "ordered" (topS 15) f fd ∧ Binds K fd ["many", "arrows"] []
  d_is_variable : ∃ f fd, C8.Def K mg "is_variable" (topS 17) f fd ∧ Binds K fd ["web", "thing"] []
  d_check_lots : ∃ f fd, C8.Def K mg "check_lots" (topS 21) f fd ∧ Binds K fd ["web", "one", "other", "given"] []
  d_edge_fits : ∃ f fd, C8.Def K mg "edge_fits" (topS 22) f fd ∧ Binds K fd ["web", "before", "kind", "after"] []
  d_near_end : ∃ f fd, C8.Def K mg "near_end" (topS 23) f fd ∧ Binds K fd ["kind"] []
  d_far_end : ∃ f fd, C8.Def K mg "far_end" (topS 24) f fd ∧ Binds K fd ["kind"] []
  d_is_walk : ∃ f fd, C8.Def K mg "is_walk" (topS 25) f fd ∧ Binds K fd ["web", "thing"] []
  d_is_meeting : ∃ f fd, C8.Def K mg "is_meeting" (topS 26) f fd ∧ Binds K fd ["walk", "at"] []
  d_is_open : ∃ f fd, C8.Def K mg "is_open" (topS 27) f fd ∧ Binds K fd ["web", "thing", "given"] []
  d_steps_from : ∃ f fd, C8.Def K mg "steps_from" (topS 28) f fd ∧ Binds K fd ["web", "variable"] []
  d_is_let : ∃ f fd, C8.Def K mg "is_let" (topS 29) f fd ∧ Binds K fd ["given", "state", "kind"] []
  d_found_parting : ∃ f fd, C8.Def K mg "found_parting" (topS 31) f fd ∧ Binds K fd ["web", "one", "other", "given"] []
  d_apart : ∃ f fd, C8.Def K mg "apart" (topS 32) f fd ∧ Binds K fd ["web", "one", "other", "given"] []
  d_are_states : ∃ f fd, C8.Def K mg "are_states" (topS 33) f fd ∧ Binds K fd ["web", "thing"] []
  d_is_closed : ∃ f fd, C8.Def K mg "is_closed" (topS 34) f fd ∧ Binds K fd ["web", "one", "other", "given", "states"] []
  d_is_apart : ∃ f fd, C8.Def K mg "is_apart" (topS 35) f fd ∧ Binds K fd ["web", "one", "other", "given", "thing"] []
  d__law_draws : ∃ f fd, C8.Def K mg "_law_draws" (topS 37) f fd ∧ Binds K fd ["script", "many"] []
  d__law_take : ∃ f fd, C8.Def K mg "_law_take" (topS 38) f fd ∧ Binds K fd ["draws", "many"] []
  d__law_order : ∃ f fd, C8.Def K mg "_law_order" (topS 39) f fd ∧ Binds K fd ["draws", "many"] []
  d__law_web : ∃ f fd, C8.Def K mg "_law_web" (topS 40) f fd ∧ Binds K fd ["draws", "many", "thick", "tied"] []
  d__law_renamed : ∃ f fd, C8.Def K mg "_law_renamed" (topS 41) f fd ∧ Binds K fd ["web", "order"] []
  d__law_sides : ∃ f fd, C8.Def K mg "_law_sides" (topS 42) f fd ∧ Binds K fd ["web", "here"] []
  d__law_states : ∃ f fd, C8.Def K mg "_law_states" (topS 43) f fd ∧ Binds K fd ["web", "states", "given"] []
  d__law_are_apart : ∃ f fd, C8.Def K mg "_law_are_apart" (topS 44) f fd ∧ Binds K fd ["web", "one", "other", "given"] []
  d__law_is_walk : ∃ f fd, C8.Def K mg "_law_is_walk" (topS 45) f fd ∧ Binds K fd ["web", "thing"] []
  d__law_is_open : ∃ f fd, C8.Def K mg "_law_is_open" (topS 46) f fd ∧ Binds K fd ["web", "thing", "given"] []
  d__law_made : ∃ f fd, C8.Def K mg "_law_made" (topS 47) f fd ∧ Binds K fd ["web"] []
  d__law_forms : ∃ f fd, C8.Def K mg "_law_forms" (topS 48) f fd ∧ Binds K fd [] []
  d__law_case : ∃ f fd, C8.Def K mg "_law_case" (topS 49) f fd ∧ Binds K fd ["draws"] []
  d__law_back : ∃ f fd, C8.Def K mg "_law_back" (topS 50) f fd ∧ Binds K fd ["word"] []
  d__law_turned : ∃ f fd, C8.Def K mg "_law_turned" (topS 51) f fd ∧ Binds K fd ["walk"] []
  d__law_longer : ∃ f fd, C8.Def K mg "_law_longer" (topS 52) f fd ∧ Binds K fd ["draws", "web", "walk"] []
  d__law_is_judged : ∃ f fd, C8.Def K mg "_law_is_judged" (topS 53) f fd ∧ Binds K fd ["web", "one", "other", "given", "walk"] []
  d__law_are_walks_right : ∃ f fd, C8.Def K mg "_law_are_walks_right" (topS 54) f fd ∧ Binds K fd ["draws", "web", "one", "other", "given", "walk"] []
  d_law : ∃ f fd, C8.Def K mg "law" (topS 55) f fd ∧ Binds K fd ["script"] []
  n_ValueError : mg "ValueError" = none
  n_abs : mg "abs" = none
  n_all : mg "all" = none
  n_any : mg "any" = none
  n_bool : mg "bool" = none
  n_enumerate : mg "enumerate" = none
  n_int : mg "int" = none
  n_isinstance : mg "isinstance" = none
  n_len : mg "len" = none
  n_list : mg "list" = none
  n_max : mg "max" = none
  n_min : mg "min" = none
  n_range : mg "range" = none
  n_repr : mg "repr" = none
  n_sorted : mg "sorted" = none
  n_str : mg "str" = none
  n_tuple : mg "tuple" = none
  k_MOST_VARIABLES : CstOk K mg "MOST_VARIABLES" c_MOST_VARIABLES
  k_MOST_TIES : CstOk K mg "MOST_TIES" c_MOST_TIES
  k_MOST_STEPS : CstOk K mg "MOST_STEPS" c_MOST_STEPS
  k_KINDS : CstOk K mg "KINDS" c_KINDS
  cls_Web : mg "Web" = some (.ref (He.ga K "Web")) ∧ ObjC K "Web" (He.ga K "Web") ["many", "arrows", "ties"]
  mk_Web : Mk K (He.ga K "Web") (He.ma K (He.ga K "Web") "__init__")
  i_Web : ∃ fd, C8.Fun K "__init__" "Web.__init__" (initS 16 0) (He.ma K (He.ga K "Web") "__init__") fd ∧ Binds K fd ["self", "many", "arrows", "ties"] []
  cls_Search : mg "Search" = some (.ref (He.ga K "Search")) ∧ ObjI K "Search" (He.ga K "Search") ["web", "given", "came", "order"]
  mk_Search : Mk K (He.ga K "Search") (He.ma K (He.ga K "Search") "__init__")
  i_Search___init__ : ∃ fd, C8.Fun K "__init__" "Search.__init__" (initS 30 0) (He.ma K (He.ga K "Search") "__init__") fd ∧ Binds K fd ["self", "web", "one", "given"] []
  i_Search_note : Meth K (He.ga K "Search") "note" (He.ma K (He.ga K "Search") "note") ∧ ∃ fd, C8.Fun K "note" "Search.note" (initS 30 1) (He.ma K (He.ga K "Search") "note") fd ∧ Binds K fd ["self", "state", "step"] []
  i_Search_go_on : Meth K (He.ga K "Search") "go_on" (He.ma K (He.ga K "Search") "go_on") ∧ ∃ fd, C8.Fun K "go_on" "Search.go_on" (initS 30 2) (He.ma K (He.ga K "Search") "go_on") fd ∧ Binds K fd ["self", "state"] []
  i_Search_walk_to : Meth K (He.ga K "Search") "walk_to" (He.ma K (He.ga K "Search") "walk_to") ∧ ∃ fd, C8.Fun K "walk_to" "Search.walk_to" (initS 30 3) (He.ma K (He.ga K "Search") "walk_to") fd ∧ Binds K fd ["self", "state"] []
section
variable {P : Program} {K : FK} {mg : Str → Option Value} {base : Heap}
/-! is_integer -/
abbrev N_is_integer : List Str := ["thing"]
def b_is_integer : SS :=
  (sRet (ofR (rAndV (rIsT (isTy "int") (rVar 0)) (rNotV (rIsT (isTy "bool") (rVar 0))))))
def f_is_integer := fnP 1 b_is_integer
set_option maxHeartbeats 4000000 in
theorem c_is_integer (E : Ev K mg) : C8.CalG P K.wd K mg base 1 "is_integer" (spP K 1 f_is_integer) [] := by
  obtain ⟨fa, fd, F, bi⟩ := E.d_is_integer
  have sc : FnScope N_is_integer ["thing"] (C8.fnScope (topS 5)) := C8.fnScope_by (by decide +kernel)
  refine calP (ps := ["thing"]) F bi sc fun cdv A outer s H Ex hr => ?_
  exact (dss_one (ds_ret (de_of (dr_and (dr_is (dr_var 0) E.n_isinstance E.n_int b_int kt_int) (dr_one (dr_not (dr_is (dr_var 0) E.n_isinstance E.n_bool b_bool kt_bool)))))))

/-! is_between -/
abbrev N_is_between : List Str := ["thing", "least", "most"]
def b_is_between : SS :=
  (sRet (ofR (rAndV (rCallP 1 f_is_integer (rCons (rVar 0) rNil)) (rChn g_le g_le (rVar 1) (rVar 0) (rVar 2)))))
def f_is_between := fnP 3 b_is_between
set_option maxHeartbeats 4000000 in
theorem c_is_between (E : Ev K mg) : C8.CalG P K.wd K mg base 2 "is_between" (spP K 3 f_is_between) [] := by
  obtain ⟨fa, fd, F, bi⟩ := E.d_is_between
  have sc : FnScope N_is_between ["thing", "least", "most"] (C8.fnScope (topS 6)) := C8.fnScope_by (by decide +kernel)
  refine calP (ps := ["thing", "least", "most"]) F bi sc fun cdv A outer s H Ex hr => ?_
  exact (dss_one (ds_ret (de_of (dr_and (dr_callP (c_is_integer E) hr (dra_cons (dr_var 0) dra_nil) (hk := by omega)) (dr_one (dr_chnB (w_le hr) (w_le hr) (dr_var 1) (dr_var 0) (dr_var 2)))))))

/-! is_under -/
abbrev N_is_under : List Str := ["thing", "many"]
def b_is_under : SS :=
  (sRet (ofR (rAndV (rCallP 1 f_is_integer (rCons (rVar 0) rNil)) (rChn g_le g_ltA (rC (.int 0)) (rVar 0) (rVar 1)))))
def f_is_under := fnP 2 b_is_under
set_option maxHeartbeats 4000000 in
theorem c_is_under (E : Ev K mg) : C8.CalG P K.wd K mg base 2 "is_under" (spP K 2 f_is_under) [] := by
  obtain ⟨fa, fd, F, bi⟩ := E.d_is_under
  have sc : FnScope N_is_under ["thing", "many"] (C8.fnScope (topS 7)) := C8.fnScope_by (by decide +kernel)
  refine calP (ps := ["thing", "many"]) F bi sc fun cdv A outer s H Ex hr => ?_
  exact (dss_one (ds_ret (de_of (dr_and (dr_callP (c_is_integer E) hr (dra_cons (dr_var 0) dra_nil) (hk := by omega)) (dr_one (dr_chnB (w_le hr) (w_ltA hr) dr_int (dr_var 0) (dr_var 1)))))))

/-! are_rising -/
abbrev N_are_rising : List Str := ["some", "at"]
def b_are_rising : SS :=
  (sRet (ofR (rCal gAll (rCons (rLc (iRgR rng2 (rCons (rC (.int 1)) (rCons (rCal gLen (rCons (rVar 0) rNil)) rNil))) (setN 1) cYes (rBin g_ltA (rBin ixA (rVar 0) (rBin g_sub (rVar 1) (rC (.int 1)))) (rBin ixA (rVar 0) (rVar 1))) [1]) rNil))))
def f_are_rising := fnP 2 b_are_rising
set_option maxHeartbeats 4000000 in
theorem c_are_rising (E : Ev K mg) : C8.CalG P K.wd K mg base 1 "are_rising" (spP K 1 f_are_rising) [] := by
  obtain ⟨fa, fd, F, bi⟩ := E.d_are_rising
  have sc : FnScope N_are_rising ["some"] (C8.fnScope (topS 8)) := C8.fnScope_by (by decide +kernel)
  refine calP (ps := ["some"]) F bi sc fun cdv A outer s H Ex hr => ?_
  exact (dss_one (ds_ret (de_of (dr_bi (v_all rfl) E.n_all b_all (.inl ⟨_, rfl⟩) (dra_cons (dr_lc [("at", 1)] rfl sc.nd (dir_rng2 (dra_cons dr_int (dra_cons (dr_bi v_len E.n_len b_len (.inl ⟨_, rfl⟩) (dra_cons (dr_var 0) dra_nil)) dra_nil)) E.n_range) (blkOk_by (by rfl)) (fun _ _ _ _ _ => (pg_name (i := 1) sc.nd rfl (by first | exact .inl rfl | exact .inr rfl))) (gg_name 1) (fun _ _ _ _ _ => drts_nil) (fun _ _ _ _ _ => (dr_cmpB (w_ltA hr) (dr_ixA hr (dr_var 0) (dr_opB (w_sub hr) (dr_var 1) dr_int)) (dr_ixA hr (dr_var 0) (dr_var 1)) (nomark _)))) dra_nil)))))

/-! is_lot -/
abbrev N_is_lot : List Str := ["thing", "many", "one"]
def b_is_lot : SS :=
  (sSeq (sIf (ofRT (rOr (rNot (rTru (rIsT (isTy "tuple") (rVar 0)))) (rNot (rTru (rCal gAll (rCons (rLc (iTupR (rVar 0)) (setN 2) cYes (rCallP 2 f_is_under (rCons (rVar 2) (rCons (rVar 1) rNil))) [2]) rNil))))))
   (sRet (ofR (rC (.bl false))))
   sNil)
  (sRet (ofR (rCallP 1 f_are_rising (rCons (rVar 0) rNil)))))
def f_is_lot := fnP 3 b_is_lot
set_option maxHeartbeats 4000000 in
theorem c_is_lot (E : Ev K mg) : C8.CalG P K.wd K mg base 3 "is_lot" (spP K 2 f_is_lot) [] := by
  obtain ⟨fa, fd, F, bi⟩ := E.d_is_lot
  have sc : FnScope N_is_lot ["thing", "many"] (C8.fnScope (topS 9)) := C8.fnScope_by (by decide +kernel)
  refine calP (ps := ["thing", "many"]) F bi sc fun cdv A outer s H Ex hr => ?_
  exact (dss_cons (ds_if (det_of (PW.pt (drw_or (drt_not (drt_tru (dr_is (dr_var 0) E.n_isinstance E.n_tuple b_tuple kt_tuple))) (drw_or1 (drt_not (drt_tru (dr_bi (v_all rfl) E.n_all b_all (.inl ⟨_, rfl⟩) (dra_cons (dr_lc [("one", 2)] rfl sc.nd (dir_tup (dr_var 0)) (blkOk_by (by rfl)) (fun _ _ _ _ _ => (pg_name (i := 2) sc.nd rfl (by first | exact .inl rfl | exact .inr rfl))) (gg_name 2) (fun _ _ _ _ _ => drts_nil) (fun _ _ _ _ _ => (dr_callP (c_is_under E) hr (dra_cons (dr_var 2) (dra_cons (dr_var 1) dra_nil)) (hk := by omega)))) dra_nil))))))))
   (dss_one (ds_ret (de_of dr_bl)))
   dss_nil)
  (dss_one (ds_ret (de_of (dr_callP (c_are_rising E) hr (dra_cons (dr_var 0) dra_nil) (hk := by omega))))))

/-! is_arrow -/
abbrev N_is_arrow : List Str := ["many", "thing"]
def b_is_arrow : SS :=
  (sSeq (sIf (ofRT (rOr (rNot (rTru (rIsT (isTy "tuple") (rVar 1)))) (rOr (rB (rBin g_ne (rCal gLen (rCons (rVar 1) rNil)) (rC (.int 2)))) (rNot (rTru (rCallP 2 f_is_under (rCons (rBin ixA (rVar 1) (rC (.int 0))) (rCons (rVar 0) rNil))))))))
   (sRet (ofR (rC (.bl false))))
   sNil)
  (sRet (ofR (rAndV (rCallP 2 f_is_under (rCons (rBin ixA (rVar 1) (rC (.int 1))) (rCons (rVar 0) rNil))) (rBin g_ne (rBin ixA (rVar 1) (rC (.int 0))) (rBin ixA (rVar 1) (rC (.int 1))))))))
def f_is_arrow := fnP 2 b_is_arrow
set_option maxHeartbeats 4000000 in
theorem c_is_arrow (E : Ev K mg) : C8.CalG P K.wd K mg base 3 "is_arrow" (spP K 2 f_is_arrow) [] := by
  obtain ⟨fa, fd, F, bi⟩ := E.d_is_arrow
  have sc : FnScope N_is_arrow ["many", "thing"] (C8.fnScope (topS 13)) := C8.fnScope_by (by decide +kernel)
  refine calP (ps := ["many", "thing"]) F bi sc fun cdv A outer s H Ex hr => ?_
  exact (dss_cons (ds_if (det_of (PW.pt (drw_or (drt_not (drt_tru (dr_is (dr_var 1) E.n_isinstance E.n_tuple b_tuple kt_tuple))) (drw_or (drt_cmpB (w_ne hr) (dr_bi v_len E.n_len b_len (.inl ⟨_, rfl⟩) (dra_cons (dr_var 1) dra_nil)) dr_int (nomark _)) (drw_or1 (drt_not (drt_tru (dr_callP (c_is_under E) hr (dra_cons (dr_ixA hr (dr_var 1) dr_int) (dra_cons (dr_var 0) dra_nil)) (hk := by omega)))))))))
   (dss_one (ds_ret (de_of dr_bl)))
   dss_nil)
  (dss_one (ds_ret (de_of (dr_and (dr_callP (c_is_under E) hr (dra_cons (dr_ixA hr (dr_var 1) dr_int) (dra_cons (dr_var 0) dra_nil)) (hk := by omega)) (dr_one (dr_cmpB (w_ne hr) (dr_ixA hr (dr_var 1) dr_int) (dr_ixA hr (dr_var 1) dr_int) (nomark _))))))))

/-! are_pairs -/
abbrev N_are_pairs : List Str := ["many", "thing", "one"]
def b_are_pairs : SS :=
  (sSeq (sIf (ofRT (rOr (rNot (rTru (rIsT (isTy "tuple") (rVar 1)))) (rNot (rTru (rCal gAll (rCons (rLc (iTupR (rVar 1)) (setN 2) cYes (rCallP 2 f_is_arrow (rCons (rVar 0) (rCons (rVar 2) rNil))) [2]) rNil))))))
   (sRet (ofR (rC (.bl false))))
   sNil)
  (sRet (ofR (rCallP 1 f_are_rising (rCons (rVar 1) rNil)))))
def f_are_pairs := fnP 3 b_are_pairs
set_option maxHeartbeats 4000000 in
theorem c_are_pairs (E : Ev K mg) : C8.CalG P K.wd K mg base 4 "are_pairs" (spP K 2 f_are_pairs) [] := by
  obtain ⟨fa, fd, F, bi⟩ := E.d_are_pairs
  have sc : FnScope N_are_pairs ["many", "thing"] (C8.fnScope (topS 14)) := C8.fnScope_by (by decide +kernel)
  refine calP (ps := ["many", "thing"]) F bi sc fun cdv A outer s H Ex hr => ?_
  exact (dss_cons (ds_if (det_of (PW.pt (drw_or (drt_not (drt_tru (dr_is (dr_var 1) E.n_isinstance E.n_tuple b_tuple kt_tuple))) (drw_or1 (drt_not (drt_tru (dr_bi (v_all rfl) E.n_all b_all (.inl ⟨_, rfl⟩) (dra_cons (dr_lc [("one", 2)] rfl sc.nd (dir_tup (dr_var 1)) (blkOk_by (by rfl)) (fun _ _ _ _ _ => (pg_name (i := 2) sc.nd rfl (by first | exact .inl rfl | exact .inr rfl))) (gg_name 2) (fun _ _ _ _ _ => drts_nil) (fun _ _ _ _ _ => (dr_callP (c_is_arrow E) hr (dra_cons (dr_var 0) (dra_cons (dr_var 2) dra_nil)) (hk := by omega)))) dra_nil))))))))
   (dss_one (ds_ret (de_of dr_bl)))
   dss_nil)
  (dss_one (ds_ret (de_of (dr_callP (c_are_rising E) hr (dra_cons (dr_var 1) dra_nil) (hk := by omega))))))

/-! ordered -/
abbrev N_ordered : List Str := ["many", "arrows", "out", "ready", "one", "a", "b"]
def b_ordered : SS :=
  (sSeq (sAsg (eLst (ofRA rNil)) (setN 2))
  (whileS (ofRT (rTru (rC (.bl true))))
   (sSeq (sAsg (ofR (rLc (iRgR rng1 (rCons (rVar 0) rNil)) (setN 4) (rAnd (rB (rBin g_nin (rVar 4) (rVar 2))) (rTru (rCal gAll (rCons (rLc (iTupR (rVar 1)) (setTup [(setN 5), (setN 6)]) (rB (rBin g_eq (rVar 6) (rVar 4))) (rBin g_in_ (rVar 5) (rVar 2)) [5, 6]) rNil)))) (rVar 4) [4])) (setN 3))
   (sSeq (sIf (ofRT (rNot (rTru (rVar 3))))
    (sRet (ofR (rCal gTuple (rCons (rVar 2) rNil))))
    sNil)
   (sExp (eMet gAppend (rVar 2) (eCons (ofR (rBin ixA (rVar 3) (rC (.int 0)))) (ofRA rNil))))))))
def f_ordered := fnP 7 b_ordered
set_option maxHeartbeats 4000000 in
theorem c_ordered (E : Ev K mg) : C8.CalG P K.wd K mg base 1 "ordered" (spP K 2 f_ordered) [] := by
  obtain ⟨fa, fd, F, bi⟩ := E.d_ordered
  have sc : FnScope N_ordered ["many", "arrows"] (C8.fnScope (topS 15)) := C8.fnScope_by (by decide +kernel)
  refine calP (ps := ["many", "arrows"]) F bi sc fun cdv A outer s H Ex hr => ?_
  exact (dss_cons (ds_set 2 sc.nd (de_lst dea_nil))
  (dss_one (ds_while PassesOwn.never (det_of (drt_tru dr_bl))
   (dss_cons (by first | exact (ds_set 3 sc.nd (de_of (dr_lc [("one", 4)] rfl sc.nd (dir_rng1 (dra_cons (dr_var 0) dra_nil) E.n_range) (blkOk_by (by rfl)) (fun _ _ _ _ _ => (pg_name (i := 4) sc.nd rfl (by first | exact .inl rfl | exact .inr rfl))) (gg_name 4) (fun _ _ _ _ _ => (drts_one (PW.pt (drw_and (drt_cmpB (w_nin hr) (dr_var 4) (dr_var 2) (by with_unfolding_all rfl)) (drw_and1 (drt_tru (dr_bi (v_all rfl) E.n_all b_all (.inl ⟨_, rfl⟩) (dra_cons (dr_lc [("a", 5), ("b", 6)] rfl sc.nd (dir_tup (dr_var 1)) (blkOk_by (by rfl)) (fun _ _ _ _ _ => (pg_tup (n := 2) rfl (pgs_cons (pg_name (i := 5) sc.nd rfl (by first | exact .inl rfl | exact .inr rfl)) (pgs_cons (pg_name (i := 6) sc.nd rfl (by first | exact .inl rfl | exact .inr rfl)) pgs_nil)))) (gg_tup (ggs_cons (gg_name 5) (ggs_cons (gg_name 6) ggs_nil))) (fun _ _ _ _ _ => (drts_one (drt_cmpB (w_eq hr) (dr_var 6) (dr_var 4) (nomark _)))) (fun _ _ _ _ _ => (dr_cmpB (w_in_ hr) (dr_var 5) (dr_var 2) (by with_unfolding_all rfl)))) dra_nil)))))))) (fun _ _ _ _ _ => (dr_var 4))))) | exact (ds_setLcR 3 [("one", 4)] rfl sc.nd (dir_rng1 (dra_cons (dr_var 0) dra_nil) E.n_range) (blkOk_by (by rfl)) (fun _ _ _ _ _ => (pg_name (i := 4) sc.nd rfl (by first | exact .inl rfl | exact .inr rfl))) (gg_name 4) (fun _ _ _ _ _ => (drts_one (PW.pt (drw_and (drt_cmpB (w_nin hr) (dr_var 4) (dr_var 2) (by with_unfolding_all rfl)) (drw_and1 (drt_tru (dr_bi (v_all rfl) E.n_all b_all (.inl ⟨_, rfl⟩) (dra_cons (dr_lc [("a", 5), ("b", 6)] rfl sc.nd (dir_tup (dr_var 1)) (blkOk_by (by rfl)) (fun _ _ _ _ _ => (pg_tup (n := 2) rfl (pgs_cons (pg_name (i := 5) sc.nd rfl (by first | exact .inl rfl | exact .inr rfl)) (pgs_cons (pg_name (i := 6) sc.nd rfl (by first | exact .inl rfl | exact .inr rfl)) pgs_nil)))) (gg_tup (ggs_cons (gg_name 5) (ggs_cons (gg_name 6) ggs_nil))) (fun _ _ _ _ _ => (drts_one (drt_cmpB (w_eq hr) (dr_var 6) (dr_var 4) (nomark _)))) (fun _ _ _ _ _ => (dr_cmpB (w_in_ hr) (dr_var 5) (dr_var 2) (by with_unfolding_all rfl)))) dra_nil)))))))) (fun _ _ _ _ _ => (dr_var 4))))
   (dss_cons (ds_if (det_of (drt_not (drt_tru (dr_var 3))))
    (dss_one (ds_ret (de_of (dr_bi v_tuple E.n_tuple b_tuple (.inr ⟨_, rfl⟩) (dra_cons (dr_var 2) dra_nil)))))
    dss_nil)
   (dss_one (ds_expr (de_append (dr_var 2) (dea_cons (de_of (dr_ixA hr (dr_var 3) dr_int)) dea_nil)))))))))

/-! class Web -/
abbrev N_Web : List Str := ["self", "many", "arrows", "ties", "a", "b"]
def b_Web : SS :=
  (sSeq (sIf (ofRT (rNot (rTru (rCallP 3 f_is_between (rCons (rVar 1) (rCons (rC (.int 1)) (rCons (rC c_MOST_VARIABLES) rNil)))))))
   sNever
   sNil)
  (sSeq (sIf (ofRT (rOr (rNot (rTru (rCallP 2 f_are_pairs (rCons (rVar 1) (rCons (rVar 2) rNil))))) (rB (rBin g_ltA (rCal gLen (rCons (rCallP 2 f_ordered (rCons (rVar 1) (rCons (rVar 2) rNil))) rNil)) (rVar 1)))))
   sNever
   sNil)
  (sSeq (sIf (ofRT (rOr (rNot (rTru (rCallP 2 f_are_pairs (rCons (rVar 1) (rCons (rVar 3) rNil))))) (rB (rBin g_gtA (rCal gLen (rCons (rVar 3) rNil)) (rC c_MOST_TIES)))))
   sNever
   sNil)
  (sSeq (sIf (ofRT (rTru (rCal gAny (rCons (rLc (iTupR (rVar 3)) (setTup [(setN 4), (setN 5)]) cYes (rBin g_gtA (rVar 4) (rVar 5)) [4, 5]) rNil))))
   sNever
   sNil)
  sNil))))
def f_Web := mkF "Web" ["many", "arrows", "ties"] (fnI "Web" 6 [1, 2, 3] b_Web)
set_option maxHeartbeats 4000000 in
theorem m_Web (E : Ev K mg) : C8.MakG P K.wd K mg base 5 "Web" (He.ga K "Web") (spI K 3 (He.ga K "Web") ["many", "arrows", "ties"] (fnI "Web" 6 [1, 2, 3] b_Web)) [] := by
  obtain ⟨fd, F, bi⟩ := E.i_Web
  have sc : FnScope N_Web ["self", "many", "arrows", "ties"] (C8.fnScope (initS 16 0)) := C8.fnScope_by (by decide +kernel)
  refine makI (ps := ["many", "arrows", "ties"]) E.mk_Web E.cls_Web.1 E.cls_Web.2 F bi sc fun cdv A outer s H Ex hr => ?_
  exact (dsi_cons (ds_if (det_of (drt_not (drt_tru (dr_callP (c_is_between E) hr (dra_cons (dr_var 1) (dra_cons dr_int (dra_cons (dr_g E.k_MOST_VARIABLES) dra_nil))) (hk := by omega)))))
   (dss_one ds_never)
   dss_nil)
  (dsi_cons (ds_if (det_of (PW.pt (drw_or (drt_not (drt_tru (dr_callP (c_are_pairs E) hr (dra_cons (dr_var 1) (dra_cons (dr_var 2) dra_nil)) (hk := by omega)))) (drw_or1 (drt_cmpB (w_ltA hr) (dr_bi v_len E.n_len b_len (.inl ⟨_, rfl⟩) (dra_cons (dr_callP (c_ordered E) hr (dra_cons (dr_var 1) (dra_cons (dr_var 2) dra_nil)) (hk := by omega)) dra_nil)) (dr_var 1) (nomark _))))))
   (dss_one ds_never)
   dss_nil)
  (dsi_cons (ds_if (det_of (PW.pt (drw_or (drt_not (drt_tru (dr_callP (c_are_pairs E) hr (dra_cons (dr_var 1) (dra_cons (dr_var 3) dra_nil)) (hk := by omega)))) (drw_or1 (drt_cmpB (w_gtA hr) (dr_bi v_len E.n_len b_len (.inl ⟨_, rfl⟩) (dra_cons (dr_var 3) dra_nil)) (dr_g E.k_MOST_TIES) (nomark _))))))
   (dss_one ds_never)
   dss_nil)
  (dsi_cons (ds_if (det_of (drt_tru (dr_bi (v_any rfl) E.n_any b_any (.inl ⟨_, rfl⟩) (dra_cons (dr_lc [("a", 4), ("b", 5)] rfl sc.nd (dir_tup (dr_var 3)) (blkOk_by (by rfl)) (fun _ _ _ _ _ => (pg_tup (n := 2) rfl (pgs_cons (pg_name (i := 4) sc.nd rfl (by first | exact .inl rfl | exact .inr rfl)) (pgs_cons (pg_name (i := 5) sc.nd rfl (by first | exact .inl rfl | exact .inr rfl)) pgs_nil)))) (gg_tup (ggs_cons (gg_name 4) (ggs_cons (gg_name 5) ggs_nil))) (fun _ _ _ _ _ => drts_nil) (fun _ _ _ _ _ => (dr_cmpB (w_gtA hr) (dr_var 4) (dr_var 5) (nomark _)))) dra_nil))))
   (dss_one ds_never)
   dss_nil)
  (dsi_sets (pk_sets_cons (ps_fld (pv 0) (pv 1) rfl) E.cls_Web.2.2.1 (E.cls_Web.2.2.2.1 _ (by simp)) (pk_sets_cons (ps_fld (pv 0) (pv 2) rfl) E.cls_Web.2.2.1 (E.cls_Web.2.2.2.1 _ (by simp)) (pk_sets_nil (ps_fld (pv 0) (pv 3) rfl) E.cls_Web.2.2.1 (E.cls_Web.2.2.2.1 _ (by simp))))) (by decide) rfl (by decide))))))

/-! is_variable -/
abbrev N_is_variable : List Str := ["web", "thing"]
def b_is_variable : SS :=
  (sRet (ofR (rCallP 2 f_is_under (rCons (rVar 1) (rCons (rAttr "many" (rVar 0)) rNil)))))
def f_is_variable := fnP 2 b_is_variable
set_option maxHeartbeats 4000000 in
theorem c_is_variable (E : Ev K mg) : C8.CalG P K.wd K mg base 3 "is_variable" (spP K 2 f_is_variable) [] := by
  obtain ⟨fa, fd, F, bi⟩ := E.d_is_variable
  have sc : FnScope N_is_variable ["web", "thing"] (C8.fnScope (topS 17)) := C8.fnScope_by (by decide +kernel)
  refine calP (ps := ["web", "thing"]) F bi sc fun cdv A outer s H Ex hr => ?_
  exact (dss_one (ds_ret (de_of (dr_callP (c_is_under E) hr (dra_cons (dr_var 1) (dra_cons (dr_attr (dr_var 0)) dra_nil)) (hk := by omega)))))

/-! check_lots -/
abbrev N_check_lots : List Str := ["web", "one", "other", "given", "lot", "together", "variable"]
def b_check_lots : SS :=
  (sSeq (sFor (ofRA (iTupR (rTup (rCons (rVar 1) (rCons (rVar 2) (rCons (rVar 3) rNil)))))) (setN 4)
   (sIf (ofRT (rNot (rTru (rCallP 2 f_is_lot (rCons (rVar 4) (rCons (rAttr "many" (rVar 0)) rNil))))))
    sNever
    sNil))
  (sSeq (sAsg (ofR (rBin g_addA (rBin g_addA (rVar 1) (rVar 2)) (rVar 3))) (setN 5))
  (sIf (ofRT (rOr (rNot (rTru (rVar 1))) (rOr (rNot (rTru (rVar 2))) (rB (rBin g_ne (rCal gLenA (rCons (rDc (iTupR (rVar 5)) (setN 6) (rVar 6) (rC (.bl true)) [6]) rNil)) (rCal gLen (rCons (rVar 5) rNil)))))))
   sNever
   sNil)))
def f_check_lots := fnP 7 b_check_lots
set_option maxHeartbeats 4000000 in
theorem c_check_lots (E : Ev K mg) : C8.CalG P K.wd K mg base 4 "check_lots" (spP K 4 f_check_lots) [] := by
  obtain ⟨fa, fd, F, bi⟩ := E.d_check_lots
  have sc : FnScope N_check_lots ["web", "one", "other", "given"] (C8.fnScope (topS 21)) := C8.fnScope_by (by decide +kernel)
  refine calP (ps := ["web", "one", "other", "given"]) F bi sc fun cdv A outer s H Ex hr => ?_
  exact (dss_cons (ds_for PassesOwn.never rfl (di_of (dir_tup (dr_tup (dra_cons (dr_var 1) (dra_cons (dr_var 2) (dra_cons (dr_var 3) dra_nil)))))) (pg_name (i := 4) sc.nd rfl (by first | exact .inl rfl | exact .inr rfl)) (gg_name 4)
   (dss_one (ds_if (det_of (drt_not (drt_tru (dr_callP (c_is_lot E) hr (dra_cons (dr_var 4) (dra_cons (dr_attr (dr_var 0)) dra_nil)) (hk := by omega)))))
    (dss_one ds_never)
    dss_nil)))
  (dss_cons (ds_set 5 sc.nd (de_of (dr_opB (w_addA hr) (dr_opB (w_addA hr) (dr_var 1) (dr_var 2)) (dr_var 3))))
  (dss_one (ds_if (det_of (PW.pt (drw_or (drt_not (drt_tru (dr_var 1))) (drw_or (drt_not (drt_tru (dr_var 2))) (drw_or1 (drt_cmpB (w_ne hr) (dr_bi v_lenA E.n_len b_len (.inl ⟨_, rfl⟩) (dra_cons (dr_dc [("variable", 6)] rfl sc.nd (dir_tup (dr_var 5)) (blkOk_by (by rfl)) (fun _ _ _ _ _ => (pg_name (i := 6) sc.nd rfl (by first | exact .inl rfl | exact .inr rfl))) (gg_name 6) (fun _ _ _ _ _ => (dr_var 6)) (fun _ _ _ _ _ => dr_bl)) dra_nil)) (dr_bi v_len E.n_len b_len (.inl ⟨_, rfl⟩) (dra_cons (dr_var 5) dra_nil)) (nomark _)))))))
   (dss_one ds_never)
   dss_nil))))

/-! edge_fits -/
abbrev N_edge_fits : List Str := ["web", "before", "kind", "after"]
def b_edge_fits : SS :=
  (sSeq (sIf (ofRT (rB (rBin g_eq (rVar 2) (rC (.str "to")))))
   (sRet (ofR (rBin g_in_ (rTup (rCons (rVar 1) (rCons (rVar 3) rNil))) (rAttr "arrows" (rVar 0)))))
   sNil)
  (sSeq (sIf (ofRT (rB (rBin g_eq (rVar 2) (rC (.str "from")))))
   (sRet (ofR (rBin g_in_ (rTup (rCons (rVar 3) (rCons (rVar 1) rNil))) (rAttr "arrows" (rVar 0)))))
   sNil)
  (sRet (ofR (rBin g_in_ (rTup (rCons (rCal gMin2 (rCons (rVar 1) (rCons (rVar 3) rNil))) (rCons (rCal gMax2 (rCons (rVar 1) (rCons (rVar 3) rNil))) rNil))) (rAttr "ties" (rVar 0)))))))
def f_edge_fits := fnP 4 b_edge_fits
set_option maxHeartbeats 4000000 in
theorem c_edge_fits (E : Ev K mg) : C8.CalG P K.wd K mg base 1 "edge_fits" (spP K 4 f_edge_fits) [] := by
  obtain ⟨fa, fd, F, bi⟩ := E.d_edge_fits
  have sc : FnScope N_edge_fits ["web", "before", "kind", "after"] (C8.fnScope (topS 22)) := C8.fnScope_by (by decide +kernel)
  refine calP (ps := ["web", "before", "kind", "after"]) F bi sc fun cdv A outer s H Ex hr => ?_
  exact (dss_cons (ds_if (det_of (drt_cmpB (w_eq hr) (dr_var 2) dr_str (nomark _)))
   (dss_one (ds_ret (de_of (dr_cmpB (w_in_ hr) (dr_tup (dra_cons (dr_var 1) (dra_cons (dr_var 3) dra_nil))) (dr_attr (dr_var 0)) (by with_unfolding_all rfl)))))
   dss_nil)
  (dss_cons (ds_if (det_of (drt_cmpB (w_eq hr) (dr_var 2) dr_str (nomark _)))
   (dss_one (ds_ret (de_of (dr_cmpB (w_in_ hr) (dr_tup (dra_cons (dr_var 3) (dra_cons (dr_var 1) dra_nil))) (dr_attr (dr_var 0)) (by with_unfolding_all rfl)))))
   dss_nil)
  (dss_one (ds_ret (de_of (dr_cmpB (w_in_ hr) (dr_tup (dra_cons (dr_bi (v_min2 rfl) E.n_min b_min (.inl ⟨_, rfl⟩) (dra_cons (dr_var 1) (dra_cons (dr_var 3) dra_nil))) (dra_cons (dr_bi (v_max2 rfl) E.n_max b_max (.inl ⟨_, rfl⟩) (dra_cons (dr_var 1) (dra_cons (dr_var 3) dra_nil))) dra_nil))) (dr_attr (dr_var 0)) (by with_unfolding_all rfl)))))))

/-! near_end -/
abbrev N_near_end : List Str := ["kind"]
def b_near_end : SS :=
  (sRet (ofR (rIf (rB (rBin g_eq (rVar 0) (rC (.str "to")))) (rC (.str "tail")) (rC (.str "head")))))
def f_near_end := fnP 1 b_near_end
set_option maxHeartbeats 4000000 in
theorem c_near_end (E : Ev K mg) : C8.CalG P K.wd K mg base 1 "near_end" (spP K 1 f_near_end) [] := by
  obtain ⟨fa, fd, F, bi⟩ := E.d_near_end
  have sc : FnScope N_near_end ["kind"] (C8.fnScope (topS 23)) := C8.fnScope_by (by decide +kernel)
  refine calP (ps := ["kind"]) F bi sc fun cdv A outer s H Ex hr => ?_
  exact (dss_one (ds_ret (de_of (dr_if (drt_cmpB (w_eq hr) (dr_var 0) dr_str (nomark _)) dr_str dr_str))))

/-! far_end -/
abbrev N_far_end : List Str := ["kind"]
def b_far_end : SS :=
  (sRet (ofR (rIf (rB (rBin g_eq (rVar 0) (rC (.str "from")))) (rC (.str "tail")) (rC (.str "head")))))
def f_far_end := fnP 1 b_far_end
set_option maxHeartbeats 4000000 in
theorem c_far_end (E : Ev K mg) : C8.CalG P K.wd K mg base 1 "far_end" (spP K 1 f_far_end) [] := by
  obtain ⟨fa, fd, F, bi⟩ := E.d_far_end
  have sc : FnScope N_far_end ["kind"] (C8.fnScope (topS 24)) := C8.fnScope_by (by decide +kernel)
  refine calP (ps := ["kind"]) F bi sc fun cdv A outer s H Ex hr => ?_
  exact (dss_one (ds_ret (de_of (dr_if (drt_cmpB (w_eq hr) (dr_var 0) dr_str (nomark _)) dr_str dr_str))))

/-! is_walk -/
abbrev N_is_walk : List Str := ["web", "thing", "at", "kind", "variable"]
def b_is_walk : SS :=
  (sSeq (sIf (ofRT (rOr (rNot (rTru (rIsT (isTy "tuple") (rVar 1)))) (rOr (rB (rBin g_eq (rBin g_mod (rCal gLen (rCons (rVar 1) rNil)) (rC (.int 2))) (rC (.int 0)))) (rNot (rB (rChn g_le g_le (rC (.int 3)) (rCal gLen (rCons (rVar 1) rNil)) (rBin g_addA (rBin g_mulA (rC (.int 2)) (rC c_MOST_STEPS)) (rC (.int 1)))))))))
   (sRet (ofR (rC (.bl false))))
   sNil)
  (sSeq (sIf (ofRT (rTru (rLc (iTupR (rSt (rVar 1) (partD none) (partD none) (partD (some (rC (.int 2)))))) (setN 4) (rNot (rTru (rCallP 2 f_is_variable (rCons (rVar 0) (rCons (rVar 4) rNil))))) (rVar 4) [4])))
   (sRet (ofR (rC (.bl false))))
   sNil)
  (sSeq (sFor (ofRA (iRgR rng3 (rCons (rC (.int 1)) (rCons (rCal gLen (rCons (rVar 1) rNil)) (rCons (rC (.int 2)) rNil))))) (setN 2)
   (sSeq (sAsg (ofR (rBin ixA (rVar 1) (rVar 2))) (setN 3))
   (sIf (ofRT (rOr (rNot (rTru (rIsT (isTy "str") (rVar 3)))) (rOr (rB (rBin g_nin (rVar 3) (rC c_KINDS))) (rNot (rTru (rCallP 4 f_edge_fits (rCons (rVar 0) (rCons (rBin ixA (rVar 1) (rBin g_sub (rVar 2) (rC (.int 1)))) (rCons (rVar 3) (rCons (rBin ixA (rVar 1) (rBin g_addA (rVar 2) (rC (.int 1)))) rNil))))))))))
    (sRet (ofR (rC (.bl false))))
    sNil)))
  (sRet (ofR (rC (.bl true)))))))
def f_is_walk := fnP 5 b_is_walk
set_option maxHeartbeats 4000000 in
theorem c_is_walk (E : Ev K mg) : C8.CalG P K.wd K mg base 4 "is_walk" (spP K 2 f_is_walk) [] := by
  obtain ⟨fa, fd, F, bi⟩ := E.d_is_walk
  have sc : FnScope N_is_walk ["web", "thing"] (C8.fnScope (topS 25)) := C8.fnScope_by (by decide +kernel)
  refine calP (ps := ["web", "thing"]) F bi sc fun cdv A outer s H Ex hr => ?_
  exact (dss_cons (ds_if (det_of (PW.pt (drw_or (drt_not (drt_tru (dr_is (dr_var 1) E.n_isinstance E.n_tuple b_tuple kt_tuple))) (drw_or (drt_cmpB (w_eq hr) (dr_opB (w_mod hr) (dr_bi v_len E.n_len b_len (.inl ⟨_, rfl⟩) (dra_cons (dr_var 1) dra_nil)) dr_int) dr_int (nomark _)) (drw_or1 (drt_not (drt_chnB (w_le hr) (w_le hr) dr_int (dr_bi v_len E.n_len b_len (.inl ⟨_, rfl⟩) (dra_cons (dr_var 1) dra_nil)) (dr_opB (w_addA hr) (dr_opB (w_mulA hr) dr_int (dr_g E.k_MOST_STEPS)) dr_int))))))))
   (dss_one (ds_ret (de_of dr_bl)))
   dss_nil)
  (dss_cons (ds_if (det_of (drt_tru (dr_lc [("variable", 4)] rfl sc.nd (dir_tup (dr_st (dr_var 1) dp_none dp_none (dp_some dr_int))) (blkOk_by (by rfl)) (fun _ _ _ _ _ => (pg_name (i := 4) sc.nd rfl (by first | exact .inl rfl | exact .inr rfl))) (gg_name 4) (fun _ _ _ _ _ => (drts_one (drt_not (drt_tru (dr_callP (c_is_variable E) hr (dra_cons (dr_var 0) (dra_cons (dr_var 4) dra_nil)) (hk := by omega)))))) (fun _ _ _ _ _ => (dr_var 4)))))
   (dss_one (ds_ret (de_of dr_bl)))
   dss_nil)
  (dss_cons (ds_for PassesOwn.never rfl (di_of (dir_rng3 (dra_cons dr_int (dra_cons (dr_bi v_len E.n_len b_len (.inl ⟨_, rfl⟩) (dra_cons (dr_var 1) dra_nil)) (dra_cons dr_int dra_nil))) E.n_range)) (pg_name (i := 2) sc.nd rfl (by first | exact .inl rfl | exact .inr rfl)) (gg_name 2)
   (dss_cons (ds_set 3 sc.nd (de_of (dr_ixA hr (dr_var 1) (dr_var 2))))
   (dss_one (ds_if (det_of (PW.pt (drw_or (drt_not (drt_tru (dr_is (dr_var 3) E.n_isinstance E.n_str b_str kt_str))) (drw_or (drt_cmpB (w_nin hr) (dr_var 3) (dr_g E.k_KINDS) (by with_unfolding_all rfl)) (drw_or1 (drt_not (drt_tru (dr_callP (c_edge_fits E) hr (dra_cons (dr_var 0) (dra_cons (dr_ixA hr (dr_var 1) (dr_opB (w_sub hr) (dr_var 2) dr_int)) (dra_cons (dr_var 3) (dra_cons (dr_ixA hr (dr_var 1) (dr_opB (w_addA hr) (dr_var 2) dr_int)) dra_nil)))) (hk := by omega)))))))))
    (dss_one (ds_ret (de_of dr_bl)))
    dss_nil))))
  (dss_one (ds_ret (de_of dr_bl))))))

/-! is_meeting -/
abbrev N_is_meeting : List Str := ["walk", "at"]
def b_is_meeting : SS :=
  (sRet (ofR (rAndV (rBin g_eq (rCallP 1 f_far_end (rCons (rBin ixA (rVar 0) (rBin g_sub (rVar 1) (rC (.int 1)))) rNil)) (rC (.str "head"))) (rBin g_eq (rCallP 1 f_near_end (rCons (rBin ixA (rVar 0) (rBin g_addA (rVar 1) (rC (.int 1)))) rNil)) (rC (.str "head"))))))
def f_is_meeting := fnP 2 b_is_meeting
set_option maxHeartbeats 4000000 in
theorem c_is_meeting (E : Ev K mg) : C8.CalG P K.wd K mg base 2 "is_meeting" (spP K 2 f_is_meeting) [] := by
  obtain ⟨fa, fd, F, bi⟩ := E.d_is_meeting
  have sc : FnScope N_is_meeting ["walk", "at"] (C8.fnScope (topS 26)) := C8.fnScope_by (by decide +kernel)
  refine calP (ps := ["walk", "at"]) F bi sc fun cdv A outer s H Ex hr => ?_
  exact (dss_one (ds_ret (de_of (dr_and (dr_cmpB (w_eq hr) (dr_callP (c_far_end E) hr (dra_cons (dr_ixA hr (dr_var 0) (dr_opB (w_sub hr) (dr_var 1) dr_int)) dra_nil) (hk := by omega)) dr_str (nomark _)) (dr_one (dr_cmpB (w_eq hr) (dr_callP (c_near_end E) hr (dra_cons (dr_ixA hr (dr_var 0) (dr_opB (w_addA hr) (dr_var 1) dr_int)) dra_nil) (hk := by omega)) dr_str (nomark _)))))))

/-! is_open -/
abbrev N_is_open : List Str := ["web", "thing", "given", "at"]
def b_is_open : SS :=
  (sSeq (sIf (ofRT (rOr (rNot (rTru (rCallP 2 f_is_walk (rCons (rVar 0) (rCons (rVar 1) rNil))))) (rOr (rB (rBin g_in_ (rBin ixA (rVar 1) (rC (.int 0))) (rVar 2))) (rB (rBin g_in_ (rBin ixA (rVar 1) (rNeg (rC (.int 1)))) (rVar 2))))))
   (sRet (ofR (rC (.bl false))))
   sNil)
  (sSeq (sFor (ofRA (iRgR rng3 (rCons (rC (.int 2)) (rCons (rBin g_sub (rCal gLen (rCons (rVar 1) rNil)) (rC (.int 1))) (rCons (rC (.int 2)) rNil))))) (setN 3)
   (sIf (ofRT (rB (rBin g_ne (rBin g_in_ (rBin ixA (rVar 1) (rVar 3)) (rVar 2)) (rCallP 2 f_is_meeting (rCons (rVar 1) (rCons (rVar 3) rNil))))))
    (sRet (ofR (rC (.bl false))))
    sNil))
  (sRet (ofR (rC (.bl true))))))
def f_is_open := fnP 4 b_is_open
set_option maxHeartbeats 4000000 in
theorem c_is_open (E : Ev K mg) : C8.CalG P K.wd K mg base 5 "is_open" (spP K 3 f_is_open) [] := by
  obtain ⟨fa, fd, F, bi⟩ := E.d_is_open
  have sc : FnScope N_is_open ["web", "thing", "given"] (C8.fnScope (topS 27)) := C8.fnScope_by (by decide +kernel)
  refine calP (ps := ["web", "thing", "given"]) F bi sc fun cdv A outer s H Ex hr => ?_
  exact (dss_cons (ds_if (det_of (PW.pt (drw_or (drt_not (drt_tru (dr_callP (c_is_walk E) hr (dra_cons (dr_var 0) (dra_cons (dr_var 1) dra_nil)) (hk := by omega)))) (drw_or (drt_cmpB (w_in_ hr) (dr_ixA hr (dr_var 1) dr_int) (dr_var 2) (by with_unfolding_all rfl)) (drw_or1 (drt_cmpB (w_in_ hr) (dr_ixA hr (dr_var 1) (dr_neg dr_int)) (dr_var 2) (by with_unfolding_all rfl)))))))
   (dss_one (ds_ret (de_of dr_bl)))
   dss_nil)
  (dss_cons (ds_for PassesOwn.never rfl (di_of (dir_rng3 (dra_cons dr_int (dra_cons (dr_opB (w_sub hr) (dr_bi v_len E.n_len b_len (.inl ⟨_, rfl⟩) (dra_cons (dr_var 1) dra_nil)) dr_int) (dra_cons dr_int dra_nil))) E.n_range)) (pg_name (i := 3) sc.nd rfl (by first | exact .inl rfl | exact .inr rfl)) (gg_name 3)
   (dss_one (ds_if (det_of (drt_cmpB (w_ne hr) (dr_cmpB (w_in_ hr) (dr_ixA hr (dr_var 1) (dr_var 3)) (dr_var 2) (by with_unfolding_all rfl)) (dr_callP (c_is_meeting E) hr (dra_cons (dr_var 1) (dra_cons (dr_var 3) dra_nil)) (hk := by omega)) (nomark _)))
    (dss_one (ds_ret (de_of dr_bl)))
    dss_nil)))
  (dss_one (ds_ret (de_of dr_bl)))))

/-! steps_from -/
abbrev N_steps_from : List Str := ["web", "variable", "found", "one", "other"]
def b_steps_from : SS :=
  (sSeq (sAsg (eLcL (ofRA (iTupR (rAttr "arrows" (rVar 0)))) (setTup [(setN 3), (setN 4)]) (ofRT (rB (rBin g_eq (rVar 4) (rVar 1)))) (ofR (rTup (rCons (rC (.str "from")) (rCons (rVar 3) rNil)))) [3, 4]) (setN 2))
  (sSeq (sExp (eMet gExtend (rVar 2) (eCons (ofR (rLc (iTupR (rAttr "ties" (rVar 0))) (setTup [(setN 3), (setN 4)]) (rB (rBin g_in_ (rVar 1) (rTup (rCons (rVar 3) (rCons (rVar 4) rNil))))) (rTup (rCons (rC (.str "tie")) (rCons (rIf (rB (rBin g_eq (rVar 4) (rVar 1))) (rVar 3) (rVar 4)) rNil))) [3, 4])) (ofRA rNil))))
  (sSeq (sExp (eMet gExtend (rVar 2) (eCons (ofR (rLc (iTupR (rAttr "arrows" (rVar 0))) (setTup [(setN 3), (setN 4)]) (rB (rBin g_eq (rVar 3) (rVar 1))) (rTup (rCons (rC (.str "to")) (rCons (rVar 4) rNil))) [3, 4])) (ofRA rNil))))
  (sRet (ofR (rCal gSortedA (rCons (rVar 2) rNil)))))))
def f_steps_from := fnP 5 b_steps_from
set_option maxHeartbeats 4000000 in
theorem c_steps_from (E : Ev K mg) : C8.CalG P K.wd K mg base 1 "steps_from" (spP K 2 f_steps_from) [] := by
  obtain ⟨fa, fd, F, bi⟩ := E.d_steps_from
  have sc : FnScope N_steps_from ["web", "variable"] (C8.fnScope (topS 28)) := C8.fnScope_by (by decide +kernel)
  refine calP (ps := ["web", "variable"]) F bi sc fun cdv A outer s H Ex hr => ?_
  exact (dss_cons (by first | exact (ds_set 2 sc.nd (de_lcL [("one", 3), ("other", 4)] rfl sc.nd (di_of (dir_tup (dr_attr (dr_var 0)))) (blkOk_by (by rfl)) (fun _ _ _ _ _ => (pg_tup (n := 2) rfl (pgs_cons (pg_name (i := 3) sc.nd rfl (by first | exact .inl rfl | exact .inr rfl)) (pgs_cons (pg_name (i := 4) sc.nd rfl (by first | exact .inl rfl | exact .inr rfl)) pgs_nil)))) (gg_tup (ggs_cons (gg_name 3) (ggs_cons (gg_name 4) ggs_nil))) (fun _ _ _ _ _ => (dets_one (det_of (drt_cmpB (w_eq hr) (dr_var 4) (dr_var 1) (nomark _))))) (fun _ _ _ _ _ => (de_of (dr_tup (dra_cons dr_str (dra_cons (dr_var 3) dra_nil))))))) | exact (ds_setLcL 2 [("one", 3), ("other", 4)] rfl sc.nd (di_of (dir_tup (dr_attr (dr_var 0)))) (blkOk_by (by rfl)) (fun _ _ _ _ _ => (pg_tup (n := 2) rfl (pgs_cons (pg_name (i := 3) sc.nd rfl (by first | exact .inl rfl | exact .inr rfl)) (pgs_cons (pg_name (i := 4) sc.nd rfl (by first | exact .inl rfl | exact .inr rfl)) pgs_nil)))) (gg_tup (ggs_cons (gg_name 3) (ggs_cons (gg_name 4) ggs_nil))) (fun _ _ _ _ _ => (dets_one (det_of (drt_cmpB (w_eq hr) (dr_var 4) (dr_var 1) (nomark _))))) (fun _ _ _ _ _ => (de_of (dr_tup (dra_cons dr_str (dra_cons (dr_var 3) dra_nil)))))))
  (dss_cons (ds_expr (de_extend (dr_var 2) (dea_cons (de_of (dr_lc [("one", 3), ("other", 4)] rfl sc.nd (dir_tup (dr_attr (dr_var 0))) (blkOk_by (by rfl)) (fun _ _ _ _ _ => (pg_tup (n := 2) rfl (pgs_cons (pg_name (i := 3) sc.nd rfl (by first | exact .inl rfl | exact .inr rfl)) (pgs_cons (pg_name (i := 4) sc.nd rfl (by first | exact .inl rfl | exact .inr rfl)) pgs_nil)))) (gg_tup (ggs_cons (gg_name 3) (ggs_cons (gg_name 4) ggs_nil))) (fun _ _ _ _ _ => (drts_one (drt_cmpB (w_in_ hr) (dr_var 1) (dr_tup (dra_cons (dr_var 3) (dra_cons (dr_var 4) dra_nil))) (by with_unfolding_all rfl)))) (fun _ _ _ _ _ => (dr_tup (dra_cons dr_str (dra_cons (dr_if (drt_cmpB (w_eq hr) (dr_var 4) (dr_var 1) (nomark _)) (dr_var 3) (dr_var 4)) dra_nil)))))) dea_nil)))
  (dss_cons (ds_expr (de_extend (dr_var 2) (dea_cons (de_of (dr_lc [("one", 3), ("other", 4)] rfl sc.nd (dir_tup (dr_attr (dr_var 0))) (blkOk_by (by rfl)) (fun _ _ _ _ _ => (pg_tup (n := 2) rfl (pgs_cons (pg_name (i := 3) sc.nd rfl (by first | exact .inl rfl | exact .inr rfl)) (pgs_cons (pg_name (i := 4) sc.nd rfl (by first | exact .inl rfl | exact .inr rfl)) pgs_nil)))) (gg_tup (ggs_cons (gg_name 3) (ggs_cons (gg_name 4) ggs_nil))) (fun _ _ _ _ _ => (drts_one (drt_cmpB (w_eq hr) (dr_var 3) (dr_var 1) (nomark _)))) (fun _ _ _ _ _ => (dr_tup (dra_cons dr_str (dra_cons (dr_var 4) dra_nil)))))) dea_nil)))
  (dss_one (ds_ret (de_of (dr_bi (v_sorted rfl hr) E.n_sorted b_sorted (.inl ⟨_, rfl⟩) (dra_cons (dr_var 2) dra_nil))))))))

/-! is_let -/
abbrev N_is_let : List Str := ["given", "state", "kind", "meets", "variable", "end"]
def b_is_let : SS :=
  (sSeq (sAsg (ofR (rVar 1)) (setTup [(setN 4), (setN 5)]))
  (sSeq (sAsg (ofR (rAndV (rBin g_eq (rVar 5) (rC (.str "head"))) (rBin g_eq (rCallP 1 f_near_end (rCons (rVar 2) rNil)) (rC (.str "head"))))) (setN 3))
  (sRet (ofR (rBin g_eq (rBin g_in_ (rVar 4) (rVar 0)) (rVar 3))))))
def f_is_let := fnP 6 b_is_let
set_option maxHeartbeats 4000000 in
theorem c_is_let (E : Ev K mg) : C8.CalG P K.wd K mg base 2 "is_let" (spP K 3 f_is_let) [] := by
  obtain ⟨fa, fd, F, bi⟩ := E.d_is_let
  have sc : FnScope N_is_let ["given", "state", "kind"] (C8.fnScope (topS 29)) := C8.fnScope_by (by decide +kernel)
  refine calP (ps := ["given", "state", "kind"]) F bi sc fun cdv A outer s H Ex hr => ?_
  exact (dss_cons (ds_asg (de_of (dr_var 1)) (pg_tup (n := 2) rfl (pgs_cons (pg_name (i := 4) sc.nd rfl (by first | exact .inl rfl | exact .inr rfl)) (pgs_cons (pg_name (i := 5) sc.nd rfl (by first | exact .inl rfl | exact .inr rfl)) pgs_nil))) (gg_tup (ggs_cons (gg_name 4) (ggs_cons (gg_name 5) ggs_nil))))
  (dss_cons (ds_set 3 sc.nd (de_of (dr_and (dr_cmpB (w_eq hr) (dr_var 5) dr_str (nomark _)) (dr_one (dr_cmpB (w_eq hr) (dr_callP (c_near_end E) hr (dra_cons (dr_var 2) dra_nil) (hk := by omega)) dr_str (nomark _))))))
  (dss_one (ds_ret (de_of (dr_cmpB (w_eq hr) (dr_cmpB (w_in_ hr) (dr_var 4) (dr_var 0) (by with_unfolding_all rfl)) (dr_var 3) (nomark _)))))))

/-! Search.note -/
abbrev N_Search_note : List Str := ["self", "state", "step"]
def b_Search_note : SS :=
  (sIf (ofRT (rB (rBin g_ninD (rVar 1) (rAtI "came" (rVar 0)))))
   (sSeq (sPut (ofR (rVar 2)) (ofR (rAtI "came" (rVar 0))) (ofR (rVar 1)))
   (sExp (eMet gAppend (rAtI "order" (rVar 0)) (eCons (ofR (rVar 1)) (ofRA rNil)))))
   sNil)
def f_Search_note := fnM 3 b_Search_note
set_option maxHeartbeats 4000000 in
theorem c_Search_note (E : Ev K mg) : C8.MetG P K.wd K mg base 1 (He.ga K "Search") "note" (spB K 3 f_Search_note) [] := by
  obtain ⟨M, fd, F, bi⟩ := E.i_Search_note
  have sc : FnScope N_Search_note ["self", "state", "step"] (C8.fnScope (initS 30 1)) := C8.fnScope_by (by decide +kernel)
  refine metM (ps := ["self", "state", "step"]) M F bi sc fun cdv A outer s H Ex hr => ?_
  exact (dss_one (ds_if (det_of (drt_cmpB (w_ninD hr) (dr_var 1) (dr_atI (dr_var 0)) (by with_unfolding_all rfl)))
   (dss_cons (ds_put hr (de_of (dr_var 2)) (de_of (dr_atI (dr_var 0))) (de_of (dr_var 1)))
   (dss_one (ds_expr (de_append (dr_atI (dr_var 0)) (dea_cons (de_of (dr_var 1)) dea_nil)))))
   dss_nil))

/-! Search.walk_to -/
abbrev N_Search_walk_to : List Str := ["self", "state", "here", "found", "kind"]
def b_Search_walk_to : SS :=
  (sSeq (sAsg (ofR (rVar 1)) (setN 2))
  (sSeq (sAsg (ofR (rFl (rCons (rBin ixA (rVar 2) (rC (.int 0))) rNil))) (setN 3))
  (sSeq (whileS (ofRT (rB (rBin g_isnA (rBin ixA (rAtI "came" (rVar 0)) (rVar 2)) (rC .non))))
   (sSeq (sAsg (ofR (rBin ixA (rAtI "came" (rVar 0)) (rVar 2))) (setTup [(setN 2), (setN 4)]))
   (sAsg (ofR (rBin g_addA (rFl (rCons (rBin ixA (rVar 2) (rC (.int 0))) (rCons (rVar 4) rNil))) (rVar 3))) (setN 3))))
  (sRet (ofR (rCal gTuple (rCons (rVar 3) rNil)))))))
def f_Search_walk_to := fnM 5 b_Search_walk_to
set_option maxHeartbeats 4000000 in
theorem c_Search_walk_to (E : Ev K mg) : C8.MetG P K.wd K mg base 1 (He.ga K "Search") "walk_to" (spB K 2 f_Search_walk_to) [] := by
  obtain ⟨M, fd, F, bi⟩ := E.i_Search_walk_to
  have sc : FnScope N_Search_walk_to ["self", "state"] (C8.fnScope (initS 30 3)) := C8.fnScope_by (by decide +kernel)
  refine metM (ps := ["self", "state"]) M F bi sc fun cdv A outer s H Ex hr => ?_
  exact (dss_cons (ds_set 2 sc.nd (de_of (dr_var 1)))
  (dss_cons (ds_set 3 sc.nd (de_of (dr_fl (dra_cons (dr_ixA hr (dr_var 2) dr_int) dra_nil))))
  (dss_cons (ds_while PassesOwn.never (det_of (drt_cmpB (w_isnA hr) (dr_ixA hr (dr_atI (dr_var 0)) (dr_var 2)) dr_non (nomark _)))
   (dss_cons (ds_asg (de_of (dr_ixA hr (dr_atI (dr_var 0)) (dr_var 2))) (pg_tup (n := 2) rfl (pgs_cons (pg_name (i := 2) sc.nd rfl (by first | exact .inl rfl | exact .inr rfl)) (pgs_cons (pg_name (i := 4) sc.nd rfl (by first | exact .inl rfl | exact .inr rfl)) pgs_nil))) (gg_tup (ggs_cons (gg_name 2) (ggs_cons (gg_name 4) ggs_nil))))
   (dss_one (ds_set 3 sc.nd (de_of (dr_opB (w_addA hr) (dr_fl (dra_cons (dr_ixA hr (dr_var 2) dr_int) (dra_cons (dr_var 4) dra_nil))) (dr_var 3)))))))
  (dss_one (ds_ret (de_of (dr_bi v_tuple E.n_tuple b_tuple (.inr ⟨_, rfl⟩) (dra_cons (dr_var 3) dra_nil))))))))

/-! Search.go_on -/
abbrev N_Search_go_on : List Str := ["self", "state", "kind", "variable"]
def b_Search_go_on : SS :=
  (sFor (iFlE (ofR (rCallP 2 f_steps_from (rCons (rAtI "web" (rVar 0)) (rCons (rBin ixA (rVar 1) (rC (.int 0))) rNil))))) (setTup [(setN 2), (setN 3)])
   (sIf (ofRT (rTru (rCallP 3 f_is_let (rCons (rAtI "given" (rVar 0)) (rCons (rVar 1) (rCons (rVar 2) rNil))))))
    (sExp (eMeth "Search" "note" 3 f_Search_note (rVar 0) (eCons (ofR (rTup (rCons (rVar 3) (rCons (rCallP 1 f_far_end (rCons (rVar 2) rNil)) rNil)))) (eCons (ofR (rTup (rCons (rVar 1) (rCons (rVar 2) rNil)))) (ofRA rNil)))))
    sNil))
def f_Search_go_on := fnM 4 b_Search_go_on
set_option maxHeartbeats 4000000 in
theorem c_Search_go_on (E : Ev K mg) : C8.MetG P K.wd K mg base 3 (He.ga K "Search") "go_on" (spB K 2 f_Search_go_on) [] := by
  obtain ⟨M, fd, F, bi⟩ := E.i_Search_go_on
  have sc : FnScope N_Search_go_on ["self", "state"] (C8.fnScope (initS 30 2)) := C8.fnScope_by (by decide +kernel)
  refine metM (ps := ["self", "state"]) M F bi sc fun cdv A outer s H Ex hr => ?_
  exact (dss_one (ds_for PassesOwn.never rfl (di_fl (de_of (dr_callP (c_steps_from E) hr (dra_cons (dr_atI (dr_var 0)) (dra_cons (dr_ixA hr (dr_var 1) dr_int) dra_nil)) (hk := by omega)))) (pg_tup (n := 2) rfl (pgs_cons (pg_name (i := 2) sc.nd rfl (by first | exact .inl rfl | exact .inr rfl)) (pgs_cons (pg_name (i := 3) sc.nd rfl (by first | exact .inl rfl | exact .inr rfl)) pgs_nil))) (gg_tup (ggs_cons (gg_name 2) (ggs_cons (gg_name 3) ggs_nil)))
   (dss_one (ds_if (det_of (drt_tru (dr_callP (c_is_let E) hr (dra_cons (dr_atI (dr_var 0)) (dra_cons (dr_var 1) (dra_cons (dr_var 2) dra_nil))) (hk := by omega))))
    (dss_one (ds_expr (de_meth E.cls_Search.2 (c_Search_note E) hr (dr_var 0) (dea_cons (de_of (dr_tup (dra_cons (dr_var 3) (dra_cons (dr_callP (c_far_end E) hr (dra_cons (dr_var 2) dra_nil) (hk := by omega)) dra_nil)))) (dea_cons (de_of (dr_tup (dra_cons (dr_var 1) (dra_cons (dr_var 2) dra_nil)))) dea_nil)) (hk := by omega))))
    dss_nil))))

/-! Search.__init__ -/
abbrev N_Search : List Str := ["self", "web", "one", "given", "variable", "at"]
def b_Search : SS :=
  (sSeq (sFldI "Search" ["web", "given", "came", "order"] "web" (ofR (rVar 0)) (ofR (rVar 1)))
  (sSeq (sFldI "Search" ["web", "given", "came", "order"] "given" (ofR (rVar 0)) (ofR (rVar 3)))
  (sSeq (sFldI "Search" ["web", "given", "came", "order"] "came" (ofR (rVar 0)) eDct0)
  (sSeq (sFldI "Search" ["web", "given", "came", "order"] "order" (ofR (rVar 0)) (eLst (ofRA rNil)))
  (sSeq (sFor (ofRA (iTupR (rVar 2))) (setN 4)
   (sExp (eMeth "Search" "note" 3 f_Search_note (rVar 0) (eCons (ofR (rTup (rCons (rVar 4) (rCons (rC (.str "tail")) rNil)))) (eCons (ofR (rC .non)) (ofRA rNil))))))
  (sSeq (sAsg (ofR (rC (.int 0))) (setN 5))
  (whileS (ofRT (rB (rBin g_ltA (rVar 5) (rCal gLen (rCons (rAtI "order" (rVar 0)) rNil)))))
   (sSeq (sExp (eMeth "Search" "go_on" 2 f_Search_go_on (rVar 0) (eCons (ofR (rBin ixA (rAtI "order" (rVar 0)) (rVar 5))) (ofRA rNil))))
   (sAugI (fun i j => i + j) 5 (ofR (rC (.int 1))))))))))))
def f_Search := fnM 6 b_Search
set_option maxHeartbeats 4000000 in
theorem m_Search (E : Ev K mg) : C8.MakG P K.wd K mg base 4 "Search" (He.ga K "Search") (spB K 4 f_Search) [] := by
  obtain ⟨fd, F, bi⟩ := E.i_Search___init__
  have sc : FnScope N_Search ["self", "web", "one", "given"] (C8.fnScope (initS 30 0)) := C8.fnScope_by (by decide +kernel)
  refine makM (ps := ["self", "web", "one", "given"]) E.mk_Search E.cls_Search.1 F bi sc fun cdv A outer s H Ex hr => ?_
  exact (dss_cons (ds_fldI E.cls_Search.2 (de_of (dr_var 0)) (de_of (dr_var 1)))
  (dss_cons (ds_fldI E.cls_Search.2 (de_of (dr_var 0)) (de_of (dr_var 3)))
  (dss_cons (ds_fldI E.cls_Search.2 (de_of (dr_var 0)) de_dct0)
  (dss_cons (ds_fldI E.cls_Search.2 (de_of (dr_var 0)) (de_lst dea_nil))
  (dss_cons (ds_for PassesOwn.never rfl (di_of (dir_tup (dr_var 2))) (pg_name (i := 4) sc.nd rfl (by first | exact .inl rfl | exact .inr rfl)) (gg_name 4)
   (dss_one (ds_expr (de_meth E.cls_Search.2 (c_Search_note E) hr (dr_var 0) (dea_cons (de_of (dr_tup (dra_cons (dr_var 4) (dra_cons dr_str dra_nil)))) (dea_cons (de_of dr_non) dea_nil)) (hk := by omega)))))
  (dss_cons (ds_set 5 sc.nd (de_of dr_int))
  (dss_one (ds_while PassesOwn.never (det_of (drt_cmpB (w_ltA hr) (dr_var 5) (dr_bi v_len E.n_len b_len (.inl ⟨_, rfl⟩) (dra_cons (dr_atI (dr_var 0)) dra_nil)) (nomark _)))
   (dss_cons (ds_expr (de_meth E.cls_Search.2 (c_Search_go_on E) hr (dr_var 0) (dea_cons (de_of (dr_ixA hr (dr_atI (dr_var 0)) (dr_var 5))) dea_nil) (hk := by omega)))
   (dss_one (ds_aug 5 sc.nd ip_add (de_of dr_int))))))))))))

/-! found_parting -/
abbrev N_found_parting : List Str := ["web", "one", "other", "given", "search", "state"]
def b_found_parting : SS :=
  (sSeq (sAsg (eMakM "Search" 4 f_Search (eCons (ofR (rVar 0)) (eCons (ofR (rVar 1)) (eCons (ofR (rVar 3)) (ofRA rNil))))) (setN 4))
  (sSeq (sForI (ofR (rAtI "order" (rVar 4))) (setN 5)
   (sIf (ofRT (rB (rBin g_in_ (rBin ixA (rVar 5) (rC (.int 0))) (rVar 2))))
    (sRet (eTup (eCons (ofR (rC (.str "open"))) (eCons (eMeth "Search" "walk_to" 2 f_Search_walk_to (rVar 4) (eCons (ofR (rVar 5)) (ofRA rNil))) (ofRA rNil)))))
    sNil))
  (sRet (ofR (rTup (rCons (rC (.str "apart")) (rCons (rCal gTuple (rCons (rCal gSortedA (rCons (rAtI "order" (rVar 4)) rNil)) rNil)) rNil)))))))
def f_found_parting := fnP 6 b_found_parting
set_option maxHeartbeats 4000000 in
theorem c_found_parting (E : Ev K mg) : C8.CalG P K.wd K mg base 6 "found_parting" (spP K 4 f_found_parting) [] := by
  obtain ⟨fa, fd, F, bi⟩ := E.d_found_parting
  have sc : FnScope N_found_parting ["web", "one", "other", "given"] (C8.fnScope (topS 31)) := C8.fnScope_by (by decide +kernel)
  refine calP (ps := ["web", "one", "other", "given"]) F bi sc fun cdv A outer s H Ex hr => ?_
  exact (dss_cons (ds_set 4 sc.nd (de_makM E.cls_Search.2 (m_Search E) hr (dea_cons (de_of (dr_var 0)) (dea_cons (de_of (dr_var 1)) (dea_cons (de_of (dr_var 3)) dea_nil))) (hk := by omega)))
  (dss_cons (ds_forI PassesOwn.never rfl (de_of (dr_atI (dr_var 4))) (pg_name (i := 5) sc.nd rfl (by first | exact .inl rfl | exact .inr rfl)) (gg_name 5)
   (dss_one (ds_if (det_of (drt_cmpB (w_in_ hr) (dr_ixA hr (dr_var 5) dr_int) (dr_var 2) (by with_unfolding_all rfl)))
    (dss_one (ds_ret (de_tup (dea_cons (de_of dr_str) (dea_cons (de_meth E.cls_Search.2 (c_Search_walk_to E) hr (dr_var 4) (dea_cons (de_of (dr_var 5)) dea_nil) (hk := by omega)) dea_nil)))))
    dss_nil)))
  (dss_one (ds_ret (de_of (dr_tup (dra_cons dr_str (dra_cons (dr_bi v_tuple E.n_tuple b_tuple (.inr ⟨_, rfl⟩) (dra_cons (dr_bi (v_sorted rfl hr) E.n_sorted b_sorted (.inl ⟨_, rfl⟩) (dra_cons (dr_atI (dr_var 4)) dra_nil)) dra_nil)) dra_nil))))))))

/-! apart -/
abbrev N_apart : List Str := ["web", "one", "other", "given"]
def b_apart : SS :=
  (sSeq (sExp (ofR (rCallP 4 f_check_lots (rCons (rVar 0) (rCons (rVar 1) (rCons (rVar 2) (rCons (rVar 3) rNil)))))))
  (sRet (ofR (rCallP 4 f_found_parting (rCons (rVar 0) (rCons (rVar 1) (rCons (rVar 2) (rCons (rVar 3) rNil))))))))
def f_apart := fnP 4 b_apart
set_option maxHeartbeats 4000000 in
theorem c_apart (E : Ev K mg) : C8.CalG P K.wd K mg base 7 "apart" (spP K 4 f_apart) [] := by
  obtain ⟨fa, fd, F, bi⟩ := E.d_apart
  have sc : FnScope N_apart ["web", "one", "other", "given"] (C8.fnScope (topS 32)) := C8.fnScope_by (by decide +kernel)
  refine calP (ps := ["web", "one", "other", "given"]) F bi sc fun cdv A outer s H Ex hr => ?_
  exact (dss_cons (ds_expr (de_of (dr_callP (c_check_lots E) hr (dra_cons (dr_var 0) (dra_cons (dr_var 1) (dra_cons (dr_var 2) (dra_cons (dr_var 3) dra_nil)))) (hk := by omega))))
  (dss_one (ds_ret (de_of (dr_callP (c_found_parting E) hr (dra_cons (dr_var 0) (dra_cons (dr_var 1) (dra_cons (dr_var 2) (dra_cons (dr_var 3) dra_nil)))) (hk := by omega))))))

/-! are_states -/
abbrev N_are_states : List Str := ["web", "thing", "at", "state"]
def b_are_states : SS :=
  (sSeq (sIf (ofRT (rNot (rTru (rIsT (isTy "tuple") (rVar 1)))))
   (sRet (ofR (rC (.bl false))))
   sNil)
  (sSeq (sFor (ofRA (iEnT (rVar 1))) (setTup [(setN 2), (setN 3)])
   (sSeq (sIf (ofRT (rOr (rNot (rTru (rIsT (isTy "tuple") (rVar 3)))) (rOr (rB (rBin g_ne (rCal gLen (rCons (rVar 3) rNil)) (rC (.int 2)))) (rNot (rTru (rCallP 2 f_is_variable (rCons (rVar 0) (rCons (rBin ixA (rVar 3) (rC (.int 0))) rNil))))))))
    (sRet (ofR (rC (.bl false))))
    sNil)
   (sSeq (sIf (ofRT (rOr (rNot (rTru (rIsT (isTy "str") (rBin ixA (rVar 3) (rC (.int 1)))))) (rB (rBin g_nin (rBin ixA (rVar 3) (rC (.int 1))) (rTup (rCons (rC (.str "head")) (rCons (rC (.str "tail")) rNil)))))))
    (sRet (ofR (rC (.bl false))))
    sNil)
   (sIf (ofRT (rAnd (rB (rBin g_gtA (rVar 2) (rC (.int 0)))) (rB (rBin g_geA (rBin ixA (rVar 1) (rBin g_sub (rVar 2) (rC (.int 1)))) (rVar 3)))))
    (sRet (ofR (rC (.bl false))))
    sNil))))
  (sRet (ofR (rC (.bl true))))))
def f_are_states := fnP 4 b_are_states
set_option maxHeartbeats 4000000 in
theorem c_are_states (E : Ev K mg) : C8.CalG P K.wd K mg base 4 "are_states" (spP K 2 f_are_states) [] := by
  obtain ⟨fa, fd, F, bi⟩ := E.d_are_states
  have sc : FnScope N_are_states ["web", "thing"] (C8.fnScope (topS 33)) := C8.fnScope_by (by decide +kernel)
  refine calP (ps := ["web", "thing"]) F bi sc fun cdv A outer s H Ex hr => ?_
  exact (dss_cons (ds_if (det_of (drt_not (drt_tru (dr_is (dr_var 1) E.n_isinstance E.n_tuple b_tuple kt_tuple))))
   (dss_one (ds_ret (de_of dr_bl)))
   dss_nil)
  (dss_cons (ds_for PassesOwn.never rfl (di_of (dir_enT (dr_var 1) E.n_enumerate)) (pg_tup (n := 2) rfl (pgs_cons (pg_name (i := 2) sc.nd rfl (by first | exact .inl rfl | exact .inr rfl)) (pgs_cons (pg_name (i := 3) sc.nd rfl (by first | exact .inl rfl | exact .inr rfl)) pgs_nil))) (gg_tup (ggs_cons (gg_name 2) (ggs_cons (gg_name 3) ggs_nil)))
   (dss_cons (ds_if (det_of (PW.pt (drw_or (drt_not (drt_tru (dr_is (dr_var 3) E.n_isinstance E.n_tuple b_tuple kt_tuple))) (drw_or (drt_cmpB (w_ne hr) (dr_bi v_len E.n_len b_len (.inl ⟨_, rfl⟩) (dra_cons (dr_var 3) dra_nil)) dr_int (nomark _)) (drw_or1 (drt_not (drt_tru (dr_callP (c_is_variable E) hr (dra_cons (dr_var 0) (dra_cons (dr_ixA hr (dr_var 3) dr_int) dra_nil)) (hk := by omega)))))))))
    (dss_one (ds_ret (de_of dr_bl)))
    dss_nil)
   (dss_cons (ds_if (det_of (PW.pt (drw_or (drt_not (drt_tru (dr_is (dr_ixA hr (dr_var 3) dr_int) E.n_isinstance E.n_str b_str kt_str))) (drw_or1 (drt_cmpB (w_nin hr) (dr_ixA hr (dr_var 3) dr_int) (dr_tup (dra_cons dr_str (dra_cons dr_str dra_nil))) (by with_unfolding_all rfl))))))
    (dss_one (ds_ret (de_of dr_bl)))
    dss_nil)
   (dss_one (ds_if (det_of (PW.pt (drw_and (drt_cmpB (w_gtA hr) (dr_var 2) dr_int (nomark _)) (drw_and1 (drt_cmpB (w_geA hr) (dr_ixA hr (dr_var 1) (dr_opB (w_sub hr) (dr_var 2) dr_int)) (dr_var 3) (nomark _))))))
    (dss_one (ds_ret (de_of dr_bl)))
    dss_nil)))))
  (dss_one (ds_ret (de_of dr_bl)))))

/-! is_closed -/
abbrev N_is_closed : List Str := ["web", "one", "other", "given", "states", "state", "variable", "kind"]
def b_is_closed : SS :=
  (sSeq (sIf (ofRT (rTru (rLc (iTupR (rVar 1)) (setN 6) (rB (rBin g_nin (rTup (rCons (rVar 6) (rCons (rC (.str "tail")) rNil))) (rVar 4))) (rVar 6) [6])))
   (sRet (ofR (rC (.bl false))))
   sNil)
  (sSeq (sFor (ofRA (iTupR (rVar 4))) (setN 5)
   (sSeq (sIf (ofRT (rB (rBin g_in_ (rBin ixA (rVar 5) (rC (.int 0))) (rVar 2))))
    (sRet (ofR (rC (.bl false))))
    sNil)
   (sFor (iFlE (ofR (rCallP 2 f_steps_from (rCons (rVar 0) (rCons (rBin ixA (rVar 5) (rC (.int 0))) rNil))))) (setTup [(setN 7), (setN 6)])
    (sIf (ofRT (rAnd (rTru (rCallP 3 f_is_let (rCons (rVar 3) (rCons (rVar 5) (rCons (rVar 7) rNil))))) (rB (rBin g_nin (rTup (rCons (rVar 6) (rCons (rCallP 1 f_far_end (rCons (rVar 7) rNil)) rNil))) (rVar 4)))))
     (sRet (ofR (rC (.bl false))))
     sNil))))
  (sRet (ofR (rC (.bl true))))))
def f_is_closed := fnP 8 b_is_closed
set_option maxHeartbeats 4000000 in
theorem c_is_closed (E : Ev K mg) : C8.CalG P K.wd K mg base 3 "is_closed" (spP K 5 f_is_closed) [] := by
  obtain ⟨fa, fd, F, bi⟩ := E.d_is_closed
  have sc : FnScope N_is_closed ["web", "one", "other", "given", "states"] (C8.fnScope (topS 34)) := C8.fnScope_by (by decide +kernel)
  refine calP (ps := ["web", "one", "other", "given", "states"]) F bi sc fun cdv A outer s H Ex hr => ?_
  exact (dss_cons (ds_if (det_of (drt_tru (dr_lc [("variable", 6)] rfl sc.nd (dir_tup (dr_var 1)) (blkOk_by (by rfl)) (fun _ _ _ _ _ => (pg_name (i := 6) sc.nd rfl (by first | exact .inl rfl | exact .inr rfl))) (gg_name 6) (fun _ _ _ _ _ => (drts_one (drt_cmpB (w_nin hr) (dr_tup (dra_cons (dr_var 6) (dra_cons dr_str dra_nil))) (dr_var 4) (by with_unfolding_all rfl)))) (fun _ _ _ _ _ => (dr_var 6)))))
   (dss_one (ds_ret (de_of dr_bl)))
   dss_nil)
  (dss_cons (ds_for PassesOwn.never rfl (di_of (dir_tup (dr_var 4))) (pg_name (i := 5) sc.nd rfl (by first | exact .inl rfl | exact .inr rfl)) (gg_name 5)
   (dss_cons (ds_if (det_of (drt_cmpB (w_in_ hr) (dr_ixA hr (dr_var 5) dr_int) (dr_var 2) (by with_unfolding_all rfl)))
    (dss_one (ds_ret (de_of dr_bl)))
    dss_nil)
   (dss_one (ds_for PassesOwn.never rfl (di_fl (de_of (dr_callP (c_steps_from E) hr (dra_cons (dr_var 0) (dra_cons (dr_ixA hr (dr_var 5) dr_int) dra_nil)) (hk := by omega)))) (pg_tup (n := 2) rfl (pgs_cons (pg_name (i := 7) sc.nd rfl (by first | exact .inl rfl | exact .inr rfl)) (pgs_cons (pg_name (i := 6) sc.nd rfl (by first | exact .inl rfl | exact .inr rfl)) pgs_nil))) (gg_tup (ggs_cons (gg_name 7) (ggs_cons (gg_name 6) ggs_nil)))
    (dss_one (ds_if (det_of (PW.pt (drw_and (drt_tru (dr_callP (c_is_let E) hr (dra_cons (dr_var 3) (dra_cons (dr_var 5) (dra_cons (dr_var 7) dra_nil))) (hk := by omega))) (drw_and1 (drt_cmpB (w_nin hr) (dr_tup (dra_cons (dr_var 6) (dra_cons (dr_callP (c_far_end E) hr (dra_cons (dr_var 7) dra_nil) (hk := by omega)) dra_nil))) (dr_var 4) (by with_unfolding_all rfl))))))
     (dss_one (ds_ret (de_of dr_bl)))
     dss_nil))))))
  (dss_one (ds_ret (de_of dr_bl)))))

/-! is_apart -/
abbrev N_is_apart : List Str := ["web", "one", "other", "given", "thing"]
def b_is_apart : SS :=
  (sSeq (sExp (ofR (rCallP 4 f_check_lots (rCons (rVar 0) (rCons (rVar 1) (rCons (rVar 2) (rCons (rVar 3) rNil)))))))
  (sSeq (sIf (ofRT (rOr (rNot (rTru (rIsT (isTy "tuple") (rVar 4)))) (rOr (rB (rBin g_ne (rCal gLen (rCons (rVar 4) rNil)) (rC (.int 2)))) (rNot (rTru (rIsT (isTy "str") (rBin ixA (rVar 4) (rC (.int 0)))))))))
   (sRet (ofR (rC (.bl false))))
   sNil)
  (sSeq (sIf (ofRT (rB (rBin g_eq (rBin ixA (rVar 4) (rC (.int 0))) (rC (.str "open")))))
   (sRet (ofR (rAndV (rCallP 3 f_is_open (rCons (rVar 0) (rCons (rBin ixA (rVar 4) (rC (.int 1))) (rCons (rVar 3) rNil)))) (rAndV (rBin g_in_ (rBin ixA (rBin ixA (rVar 4) (rC (.int 1))) (rC (.int 0))) (rVar 1)) (rBin g_in_ (rBin ixA (rBin ixA (rVar 4) (rC (.int 1))) (rNeg (rC (.int 1)))) (rVar 2))))))
   sNil)
  (sSeq (sIf (ofRT (rOr (rB (rBin g_ne (rBin ixA (rVar 4) (rC (.int 0))) (rC (.str "apart")))) (rNot (rTru (rCallP 2 f_are_states (rCons (rVar 0) (rCons (rBin ixA (rVar 4) (rC (.int 1))) rNil)))))))
   (sRet (ofR (rC (.bl false))))
   sNil)
  (sRet (ofR (rCallP 5 f_is_closed (rCons (rVar 0) (rCons (rVar 1) (rCons (rVar 2) (rCons (rVar 3) (rCons (rBin ixA (rVar 4) (rC (.int 1))) rNil))))))))))))
def f_is_apart := fnP 5 b_is_apart
set_option maxHeartbeats 4000000 in
theorem c_is_apart (E : Ev K mg) : C8.CalG P K.wd K mg base 6 "is_apart" (spP K 5 f_is_apart) [] := by
  obtain ⟨fa, fd, F, bi⟩ := E.d_is_apart
  have sc : FnScope N_is_apart ["web", "one", "other", "given", "thing"] (C8.fnScope (topS 35)) := C8.fnScope_by (by decide +kernel)
  refine calP (ps := ["web", "one", "other", "given", "thing"]) F bi sc fun cdv A outer s H Ex hr => ?_
  exact (dss_cons (ds_expr (de_of (dr_callP (c_check_lots E) hr (dra_cons (dr_var 0) (dra_cons (dr_var 1) (dra_cons (dr_var 2) (dra_cons (dr_var 3) dra_nil)))) (hk := by omega))))
  (dss_cons (ds_if (det_of (PW.pt (drw_or (drt_not (drt_tru (dr_is (dr_var 4) E.n_isinstance E.n_tuple b_tuple kt_tuple))) (drw_or (drt_cmpB (w_ne hr) (dr_bi v_len E.n_len b_len (.inl ⟨_, rfl⟩) (dra_cons (dr_var 4) dra_nil)) dr_int (nomark _)) (drw_or1 (drt_not (drt_tru (dr_is (dr_ixA hr (dr_var 4) dr_int) E.n_isinstance E.n_str b_str kt_str))))))))
   (dss_one (ds_ret (de_of dr_bl)))
   dss_nil)
  (dss_cons (ds_if (det_of (drt_cmpB (w_eq hr) (dr_ixA hr (dr_var 4) dr_int) dr_str (nomark _)))
   (dss_one (ds_ret (de_of (dr_and (dr_callP (c_is_open E) hr (dra_cons (dr_var 0) (dra_cons (dr_ixA hr (dr_var 4) dr_int) (dra_cons (dr_var 3) dra_nil))) (hk := by omega)) (dr_and (dr_cmpB (w_in_ hr) (dr_ixA hr (dr_ixA hr (dr_var 4) dr_int) dr_int) (dr_var 1) (by with_unfolding_all rfl)) (dr_one (dr_cmpB (w_in_ hr) (dr_ixA hr (dr_ixA hr (dr_var 4) dr_int) (dr_neg dr_int)) (dr_var 2) (by with_unfolding_all rfl))))))))
   dss_nil)
  (dss_cons (ds_if (det_of (PW.pt (drw_or (drt_cmpB (w_ne hr) (dr_ixA hr (dr_var 4) dr_int) dr_str (nomark _)) (drw_or1 (drt_not (drt_tru (dr_callP (c_are_states E) hr (dra_cons (dr_var 0) (dra_cons (dr_ixA hr (dr_var 4) dr_int) dra_nil)) (hk := by omega))))))))
   (dss_one (ds_ret (de_of dr_bl)))
   dss_nil)
  (dss_one (ds_ret (de_of (dr_callP (c_is_closed E) hr (dra_cons (dr_var 0) (dra_cons (dr_var 1) (dra_cons (dr_var 2) (dra_cons (dr_var 3) (dra_cons (dr_ixA hr (dr_var 4) dr_int) dra_nil))))) (hk := by omega)))))))))

/-! _law_draws -/
abbrev N__law_draws : List Str := ["script", "many", "row", "big", "seed", "k", "cell"]
def b__law_draws : SS :=
  (sSeq (sAsg (eLst (ofRA rNil)) (setN 2))
  (sSeq (sAsg (ofR (rIf (rTru (rVar 0)) (rCal gAbs (rCons (rCal gInt (rCons (rBin ixA (rVar 0) (rC (.int 0))) rNil)) rNil)) (rC (.int 0)))) (setN 3))
  (sSeq (sIf (ofRT (rB (rBin g_geA (rVar 3) (rC (.int 1000000000000000000)))))
   (sFor (ofRA (iRgR rng1 (rCons (rVar 1) rNil))) (setN 5)
    (sIf (ofRT (rB (rBin g_gtA (rVar 3) (rC (.int 0)))))
     (sSeq (sExp (eMet gAppend (rVar 2) (eCons (ofR (rBin g_mod (rCal gInt (rCons (rVar 3) rNil)) (rC (.int 1009)))) (ofRA rNil))))
     (sAsg (ofR (rBin g_div (rVar 3) (rC (.int 1009)))) (setN 3)))
     sNil))
   sNil)
  (sSeq (sAsg (ofR (rC (.int 3011))) (setN 4))
  (sSeq (sFor (ofRA (iRgR rng1 (rCons (rBin g_sub (rVar 1) (rCal gLen (rCons (rVar 2) rNil))) rNil))) (setN 5)
   (sSeq (sAsg (ofR (rVar 5)) (setN 6))
   (sSeq (sIf (ofRT (rTru (rVar 0)))
    (sAsg (ofR (rBin g_mod (rCal gInt (rCons (rBin ixA (rVar 0) (rBin g_mod (rCal gInt (rCons (rBin g_addA (rVar 5) (rC (.int 1))) rNil)) (rCal gLen (rCons (rVar 0) rNil)))) rNil)) (rC (.int 2147483647)))) (setN 6))
    sNil)
   (sSeq (sAsg (ofR (rBin g_mod (rCal gInt (rCons (rBin g_addA (rBin g_addA (rBin g_addA (rBin g_mulA (rVar 4) (rC (.int 48271))) (rVar 6)) (rBin g_mulA (rVar 5) (rC (.int 69621)))) (rC (.int 13))) rNil)) (rC (.int 2147483647)))) (setN 4))
   (sExp (eMet gAppend (rVar 2) (eCons (ofR (rBin g_mod (rCal gInt (rCons (rBin g_div (rBin g_mod (rCal gInt (rCons (rBin g_addA (rBin g_mulA (rVar 4) (rC (.int 16807))) (rC (.int 54321))) rNil)) (rC (.int 2147483647))) (rC (.int 7))) rNil)) (rC (.int 1009)))) (ofRA rNil))))))))
  (sRet (eRevL (rVar 2))))))))
def f__law_draws := fnB 7 b__law_draws
set_option maxHeartbeats 4000000 in
theorem c__law_draws (E : Ev K mg) : C8.CalG P K.wd K mg base 1 "_law_draws" (spB K 2 f__law_draws) [] := by
  obtain ⟨fa, fd, F, bi⟩ := E.d__law_draws
  have sc : FnScope N__law_draws ["script", "many"] (C8.fnScope (topS 37)) := C8.fnScope_by (by decide +kernel)
  refine calB (ps := ["script", "many"]) F bi sc fun cdv A outer s H Ex hr => ?_
  exact (dss_cons (ds_set 2 sc.nd (de_lst dea_nil))
  (dss_cons (ds_set 3 sc.nd (de_of (dr_if (drt_tru (dr_var 0)) (dr_bi v_abs E.n_abs b_abs (.inl ⟨_, rfl⟩) (dra_cons (dr_bi v_int E.n_int b_int (.inr ⟨_, rfl⟩) (dra_cons (dr_ixA hr (dr_var 0) dr_int) dra_nil)) dra_nil)) dr_int)))
  (dss_cons (ds_if (det_of (drt_cmpB (w_geA hr) (dr_var 3) dr_int (nomark _)))
   (dss_one (ds_for PassesOwn.never rfl (di_of (dir_rng1 (dra_cons (dr_var 1) dra_nil) E.n_range)) (pg_name (i := 5) sc.nd rfl (by first | exact .inl rfl | exact .inr rfl)) (gg_name 5)
    (dss_one (ds_if (det_of (drt_cmpB (w_gtA hr) (dr_var 3) dr_int (nomark _)))
     (dss_cons (ds_expr (de_append (dr_var 2) (dea_cons (de_of (dr_opB (w_mod hr) (dr_bi v_int E.n_int b_int (.inr ⟨_, rfl⟩) (dra_cons (dr_var 3) dra_nil)) dr_int)) dea_nil)))
     (dss_one (ds_set 3 sc.nd (de_of (dr_opB (w_div hr) (dr_var 3) dr_int)))))
     dss_nil))))
   dss_nil)
  (dss_cons (ds_set 4 sc.nd (de_of dr_int))
  (dss_cons (ds_for PassesOwn.never rfl (di_of (dir_rng1 (dra_cons (dr_opB (w_sub hr) (dr_var 1) (dr_bi v_len E.n_len b_len (.inl ⟨_, rfl⟩) (dra_cons (dr_var 2) dra_nil))) dra_nil) E.n_range)) (pg_name (i := 5) sc.nd rfl (by first | exact .inl rfl | exact .inr rfl)) (gg_name 5)
   (dss_cons (ds_set 6 sc.nd (de_of (dr_var 5)))
   (dss_cons (ds_if (det_of (drt_tru (dr_var 0)))
    (dss_one (ds_set 6 sc.nd (de_of (dr_opB (w_mod hr) (dr_bi v_int E.n_int b_int (.inr ⟨_, rfl⟩) (dra_cons (dr_ixA hr (dr_var 0) (dr_opB (w_mod hr) (dr_bi v_int E.n_int b_int (.inr ⟨_, rfl⟩) (dra_cons (dr_opB (w_addA hr) (dr_var 5) dr_int) dra_nil)) (dr_bi v_len E.n_len b_len (.inl ⟨_, rfl⟩) (dra_cons (dr_var 0) dra_nil)))) dra_nil)) dr_int))))
    dss_nil)
   (dss_cons (ds_set 4 sc.nd (de_of (dr_opB (w_mod hr) (dr_bi v_int E.n_int b_int (.inr ⟨_, rfl⟩) (dra_cons (dr_opB (w_addA hr) (dr_opB (w_addA hr) (dr_opB (w_addA hr) (dr_opB (w_mulA hr) (dr_var 4) dr_int) (dr_var 6)) (dr_opB (w_mulA hr) (dr_var 5) dr_int)) dr_int) dra_nil)) dr_int)))
   (dss_one (ds_expr (de_append (dr_var 2) (dea_cons (de_of (dr_opB (w_mod hr) (dr_bi v_int E.n_int b_int (.inr ⟨_, rfl⟩) (dra_cons (dr_opB (w_div hr) (dr_opB (w_mod hr) (dr_bi v_int E.n_int b_int (.inr ⟨_, rfl⟩) (dra_cons (dr_opB (w_addA hr) (dr_opB (w_mulA hr) (dr_var 4) dr_int) dr_int) dra_nil)) dr_int) dr_int) dra_nil)) dr_int)) dea_nil))))))))
  (dss_one (ds_ret (de_revL (dr_var 2)))))))))

/-! _law_take -/
abbrev N__law_take : List Str := ["draws", "many"]
def b__law_take : SS :=
  (sSeq (sIf (ofRT (rNot (rTru (rVar 0))))
   (sRet (ofR (rC (.int 0))))
   sNil)
  (sRet (eBin g_mod (eCal gInt (eCons (ePop (rVar 0)) (ofRA rNil))) (ofR (rVar 1)))))
def f__law_take := fnB 2 b__law_take
set_option maxHeartbeats 4000000 in
theorem c__law_take (E : Ev K mg) : C8.CalG P K.wd K mg base 1 "_law_take" (spB K 2 f__law_take) [] := by
  obtain ⟨fa, fd, F, bi⟩ := E.d__law_take
  have sc : FnScope N__law_take ["draws", "many"] (C8.fnScope (topS 38)) := C8.fnScope_by (by decide +kernel)
  refine calB (ps := ["draws", "many"]) F bi sc fun cdv A outer s H Ex hr => ?_
  exact (dss_cons (ds_if (det_of (drt_not (drt_tru (dr_var 0))))
   (dss_one (ds_ret (de_of dr_int)))
   dss_nil)
  (dss_one (ds_ret (de_opB (w_mod hr) (de_bi v_int E.n_int b_int (.inr ⟨_, rfl⟩) (dea_cons (de_pop (dr_var 0)) dea_nil)) (de_of (dr_var 1))))))

/-! _law_order -/
abbrev N__law_order : List Str := ["draws", "many", "left", "out", "k"]
def b__law_order : SS :=
  (sSeq (sAsg (rgL rng1 (rCons (rVar 1) rNil)) (setN 2))
  (sSeq (sAsg (eLst (ofRA rNil)) (setN 3))
  (sSeq (sFor (ofRA (iRgR rng1 (rCons (rVar 1) rNil))) (setN 4)
   (sExp (eMet gAppend (rVar 3) (eCons (eMet gPopAt (rVar 2) (eCons (eCallB 2 f__law_take (eCons (ofR (rVar 0)) (eCons (ofR (rCal gLen (rCons (rVar 2) rNil))) (ofRA rNil)))) (ofRA rNil))) (ofRA rNil)))))
  (sRet (ofR (rVar 3))))))
def f__law_order := fnB 5 b__law_order
set_option maxHeartbeats 4000000 in
theorem c__law_order (E : Ev K mg) : C8.CalG P K.wd K mg base 2 "_law_order" (spB K 2 f__law_order) [] := by
  obtain ⟨fa, fd, F, bi⟩ := E.d__law_order
  have sc : FnScope N__law_order ["draws", "many"] (C8.fnScope (topS 39)) := C8.fnScope_by (by decide +kernel)
  refine calB (ps := ["draws", "many"]) F bi sc fun cdv A outer s H Ex hr => ?_
  exact (dss_cons (ds_set 2 sc.nd (de_listRg1 rfl (dr_var 1) E.n_list E.n_range))
  (dss_cons (ds_set 3 sc.nd (de_lst dea_nil))
  (dss_cons (ds_for PassesOwn.never rfl (di_of (dir_rng1 (dra_cons (dr_var 1) dra_nil) E.n_range)) (pg_name (i := 4) sc.nd rfl (by first | exact .inl rfl | exact .inr rfl)) (gg_name 4)
   (dss_one (ds_expr (de_append (dr_var 3) (dea_cons (de_popAt (dr_var 2) (dea_cons (de_callB (c__law_take E) hr (dea_cons (de_of (dr_var 0)) (dea_cons (de_of (dr_bi v_len E.n_len b_len (.inl ⟨_, rfl⟩) (dra_cons (dr_var 2) dra_nil))) dea_nil)) (hk := by omega)) dea_nil)) dea_nil)))))
  (dss_one (ds_ret (de_of (dr_var 3)))))))

/-! _law_web -/
abbrev N__law_web : List Str := ["draws", "many", "thick", "tied", "order", "i", "arrows", "ties", "j"]
def b__law_web : SS :=
  (sSeq (sAsg (eCallB 2 f__law_order (eCons (ofR (rVar 0)) (eCons (ofR (rVar 1)) (ofRA rNil)))) (setN 4))
  (sSeq (sPar 6 7 (eCons (eLst (ofRA rNil)) (eCons (eLst (ofRA rNil)) (ofRA rNil))))
  (sSeq (sFor (ofRA (iRgR rng1 (rCons (rVar 1) rNil))) (setN 5)
   (sFor (ofRA (iRgR rng2 (rCons (rBin g_addA (rVar 5) (rC (.int 1))) (rCons (rVar 1) rNil)))) (setN 8)
    (sSeq (sIf (eB (eBin g_ltA (eCallB 2 f__law_take (eCons (ofR (rVar 0)) (eCons (ofR (rC (.int 8))) (ofRA rNil)))) (ofR (rVar 2))))
     (sExp (eMet gAppend (rVar 6) (eCons (ofR (rTup (rCons (rBin ixA (rVar 4) (rVar 5)) (rCons (rBin ixA (rVar 4) (rVar 8)) rNil)))) (ofRA rNil))))
     sNil)
    (sIf (eAnd (eB (eBin g_ltA (eCallB 2 f__law_take (eCons (ofR (rVar 0)) (eCons (ofR (rC (.int 8))) (ofRA rNil)))) (ofR (rVar 3)))) (ofRT (rB (rBin g_ltA (rCal gLen (rCons (rVar 7) rNil)) (rC (.int 6))))))
     (sExp (eMet gAppend (rVar 7) (eCons (ofR (rTup (rCons (rCal gMin2 (rCons (rBin ixA (rVar 4) (rVar 5)) (rCons (rBin ixA (rVar 4) (rVar 8)) rNil))) (rCons (rCal gMax2 (rCons (rBin ixA (rVar 4) (rVar 5)) (rCons (rBin ixA (rVar 4) (rVar 8)) rNil))) rNil)))) (ofRA rNil))))
     sNil))))
  (sRet (ofR (rTup (rCons (rVar 1) (rCons (rCal gTuple (rCons (rCal gSortedA (rCons (rVar 6) rNil)) rNil)) (rCons (rCal gTuple (rCons (rCal gSortedA (rCons (rVar 7) rNil)) rNil)) rNil)))))))))
def f__law_web := fnB 9 b__law_web
set_option maxHeartbeats 4000000 in
theorem c__law_web (E : Ev K mg) : C8.CalG P K.wd K mg base 3 "_law_web" (spB K 4 f__law_web) [] := by
  obtain ⟨fa, fd, F, bi⟩ := E.d__law_web
  have sc : FnScope N__law_web ["draws", "many", "thick", "tied"] (C8.fnScope (topS 40)) := C8.fnScope_by (by decide +kernel)
  refine calB (ps := ["draws", "many", "thick", "tied"]) F bi sc fun cdv A outer s H Ex hr => ?_
  exact (dss_cons (ds_set 4 sc.nd (de_callB (c__law_order E) hr (dea_cons (de_of (dr_var 0)) (dea_cons (de_of (dr_var 1)) dea_nil)) (hk := by omega)))
  (dss_cons (ds_par 6 7 rfl sc.nd (dea_cons (de_lst dea_nil) (dea_cons (de_lst dea_nil) dea_nil)))
  (dss_cons (ds_for PassesOwn.never rfl (di_of (dir_rng1 (dra_cons (dr_var 1) dra_nil) E.n_range)) (pg_name (i := 5) sc.nd rfl (by first | exact .inl rfl | exact .inr rfl)) (gg_name 5)
   (dss_one (ds_for PassesOwn.never rfl (di_of (dir_rng2 (dra_cons (dr_opB (w_addA hr) (dr_var 5) dr_int) (dra_cons (dr_var 1) dra_nil)) E.n_range)) (pg_name (i := 8) sc.nd rfl (by first | exact .inl rfl | exact .inr rfl)) (gg_name 8)
    (dss_cons (ds_if (det_cmpB (w_ltA hr) (de_callB (c__law_take E) hr (dea_cons (de_of (dr_var 0)) (dea_cons (de_of dr_int) dea_nil)) (hk := by omega)) (de_of (dr_var 2)) (nomark _))
     (dss_one (ds_expr (de_append (dr_var 6) (dea_cons (de_of (dr_tup (dra_cons (dr_ixA hr (dr_var 4) (dr_var 5)) (dra_cons (dr_ixA hr (dr_var 4) (dr_var 8)) dra_nil)))) dea_nil))))
     dss_nil)
    (dss_one (ds_if (PW.pt (dew_and (det_cmpB (w_ltA hr) (de_callB (c__law_take E) hr (dea_cons (de_of (dr_var 0)) (dea_cons (de_of dr_int) dea_nil)) (hk := by omega)) (de_of (dr_var 3)) (nomark _)) (dew_and1 (det_of (drt_cmpB (w_ltA hr) (dr_bi v_len E.n_len b_len (.inl ⟨_, rfl⟩) (dra_cons (dr_var 7) dra_nil)) dr_int (nomark _))))))
     (dss_one (ds_expr (de_append (dr_var 7) (dea_cons (de_of (dr_tup (dra_cons (dr_bi (v_min2 rfl) E.n_min b_min (.inl ⟨_, rfl⟩) (dra_cons (dr_ixA hr (dr_var 4) (dr_var 5)) (dra_cons (dr_ixA hr (dr_var 4) (dr_var 8)) dra_nil))) (dra_cons (dr_bi (v_max2 rfl) E.n_max b_max (.inl ⟨_, rfl⟩) (dra_cons (dr_ixA hr (dr_var 4) (dr_var 5)) (dra_cons (dr_ixA hr (dr_var 4) (dr_var 8)) dra_nil))) dra_nil)))) dea_nil))))
     dss_nil))))))
  (dss_one (ds_ret (de_of (dr_tup (dra_cons (dr_var 1) (dra_cons (dr_bi v_tuple E.n_tuple b_tuple (.inr ⟨_, rfl⟩) (dra_cons (dr_bi (v_sorted rfl hr) E.n_sorted b_sorted (.inl ⟨_, rfl⟩) (dra_cons (dr_var 6) dra_nil)) dra_nil)) (dra_cons (dr_bi v_tuple E.n_tuple b_tuple (.inr ⟨_, rfl⟩) (dra_cons (dr_bi (v_sorted rfl hr) E.n_sorted b_sorted (.inl ⟨_, rfl⟩) (dra_cons (dr_var 7) dra_nil)) dra_nil)) dra_nil))))))))))

/-! _law_renamed -/
abbrev N__law_renamed : List Str := ["web", "order", "arrows", "ties", "a", "b"]
def b__law_renamed : SS :=
  (sSeq (sAsg (ofR (rCal gSortedA (rCons (rLc (iLstR (rBin ixA (rVar 0) (rC (.int 1)))) (setTup [(setN 4), (setN 5)]) cYes (rTup (rCons (rBin ixA (rVar 1) (rVar 4)) (rCons (rBin ixA (rVar 1) (rVar 5)) rNil))) [4, 5]) rNil))) (setN 2))
  (sSeq (sAsg (ofR (rCal gSortedA (rCons (rLc (iLstR (rBin ixA (rVar 0) (rC (.int 2)))) (setTup [(setN 4), (setN 5)]) cYes (rTup (rCons (rCal gMin2 (rCons (rBin ixA (rVar 1) (rVar 4)) (rCons (rBin ixA (rVar 1) (rVar 5)) rNil))) (rCons (rCal gMax2 (rCons (rBin ixA (rVar 1) (rVar 4)) (rCons (rBin ixA (rVar 1) (rVar 5)) rNil))) rNil))) [4, 5]) rNil))) (setN 3))
  (sRet (ofR (rTup (rCons (rBin ixA (rVar 0) (rC (.int 0))) (rCons (rCal gTuple (rCons (rVar 2) rNil)) (rCons (rCal gTuple (rCons (rVar 3) rNil)) rNil))))))))
def f__law_renamed := fnP 6 b__law_renamed
set_option maxHeartbeats 4000000 in
theorem c__law_renamed (E : Ev K mg) : C8.CalG P K.wd K mg base 1 "_law_renamed" (spP K 2 f__law_renamed) [] := by
  obtain ⟨fa, fd, F, bi⟩ := E.d__law_renamed
  have sc : FnScope N__law_renamed ["web", "order"] (C8.fnScope (topS 41)) := C8.fnScope_by (by decide +kernel)
  refine calP (ps := ["web", "order"]) F bi sc fun cdv A outer s H Ex hr => ?_
  exact (dss_cons (ds_set 2 sc.nd (de_of (dr_bi (v_sorted rfl hr) E.n_sorted b_sorted (.inl ⟨_, rfl⟩) (dra_cons (dr_lc [("a", 4), ("b", 5)] rfl sc.nd (dir_lst (dr_ixA hr (dr_var 0) dr_int)) (blkOk_by (by rfl)) (fun _ _ _ _ _ => (pg_tup (n := 2) rfl (pgs_cons (pg_name (i := 4) sc.nd rfl (by first | exact .inl rfl | exact .inr rfl)) (pgs_cons (pg_name (i := 5) sc.nd rfl (by first | exact .inl rfl | exact .inr rfl)) pgs_nil)))) (gg_tup (ggs_cons (gg_name 4) (ggs_cons (gg_name 5) ggs_nil))) (fun _ _ _ _ _ => drts_nil) (fun _ _ _ _ _ => (dr_tup (dra_cons (dr_ixA hr (dr_var 1) (dr_var 4)) (dra_cons (dr_ixA hr (dr_var 1) (dr_var 5)) dra_nil))))) dra_nil))))
  (dss_cons (ds_set 3 sc.nd (de_of (dr_bi (v_sorted rfl hr) E.n_sorted b_sorted (.inl ⟨_, rfl⟩) (dra_cons (dr_lc [("a", 4), ("b", 5)] rfl sc.nd (dir_lst (dr_ixA hr (dr_var 0) dr_int)) (blkOk_by (by rfl)) (fun _ _ _ _ _ => (pg_tup (n := 2) rfl (pgs_cons (pg_name (i := 4) sc.nd rfl (by first | exact .inl rfl | exact .inr rfl)) (pgs_cons (pg_name (i := 5) sc.nd rfl (by first | exact .inl rfl | exact .inr rfl)) pgs_nil)))) (gg_tup (ggs_cons (gg_name 4) (ggs_cons (gg_name 5) ggs_nil))) (fun _ _ _ _ _ => drts_nil) (fun _ _ _ _ _ => (dr_tup (dra_cons (dr_bi (v_min2 rfl) E.n_min b_min (.inl ⟨_, rfl⟩) (dra_cons (dr_ixA hr (dr_var 1) (dr_var 4)) (dra_cons (dr_ixA hr (dr_var 1) (dr_var 5)) dra_nil))) (dra_cons (dr_bi (v_max2 rfl) E.n_max b_max (.inl ⟨_, rfl⟩) (dra_cons (dr_ixA hr (dr_var 1) (dr_var 4)) (dra_cons (dr_ixA hr (dr_var 1) (dr_var 5)) dra_nil))) dra_nil))))) dra_nil))))
  (dss_one (ds_ret (de_of (dr_tup (dra_cons (dr_ixA hr (dr_var 0) dr_int) (dra_cons (dr_bi v_tuple E.n_tuple b_tuple (.inr ⟨_, rfl⟩) (dra_cons (dr_var 2) dra_nil)) (dra_cons (dr_bi v_tuple E.n_tuple b_tuple (.inr ⟨_, rfl⟩) (dra_cons (dr_var 3) dra_nil)) dra_nil)))))))))

/-! _law_sides -/
abbrev N__law_sides : List Str := ["web", "here", "found", "a", "b"]
def b__law_sides : SS :=
  (sSeq (sAsg (eLst (ofRA rNil)) (setN 2))
  (sSeq (sFor (ofRA (iTupR (rBin ixA (rVar 0) (rC (.int 1))))) (setTup [(setN 3), (setN 4)])
   (sExp (eMet gExtend (rVar 2) (eCons (ofR (rIf (rB (rBin g_eq (rVar 3) (rVar 1))) (rFl (rCons (rTup (rCons (rC (.str "to")) (rCons (rC (.bl false)) (rCons (rVar 4) (rCons (rC (.bl true)) rNil))))) rNil)) (rIf (rB (rBin g_eq (rVar 4) (rVar 1))) (rFl (rCons (rTup (rCons (rC (.str "from")) (rCons (rC (.bl true)) (rCons (rVar 3) (rCons (rC (.bl false)) rNil))))) rNil)) (rFl rNil)))) (ofRA rNil)))))
  (sSeq (sFor (ofRA (iTupR (rBin ixA (rVar 0) (rC (.int 2))))) (setTup [(setN 3), (setN 4)])
   (sExp (eMet gExtend (rVar 2) (eCons (ofR (rIf (rB (rBin g_in_ (rVar 1) (rTup (rCons (rVar 3) (rCons (rVar 4) rNil))))) (rFl (rCons (rTup (rCons (rC (.str "tie")) (rCons (rC (.bl true)) (rCons (rIf (rB (rBin g_eq (rVar 3) (rVar 1))) (rVar 4) (rVar 3)) (rCons (rC (.bl true)) rNil))))) rNil)) (rFl rNil))) (ofRA rNil)))))
  (sRet (ofR (rVar 2))))))
def f__law_sides := fnP 5 b__law_sides
set_option maxHeartbeats 4000000 in
theorem c__law_sides (E : Ev K mg) : C8.CalG P K.wd K mg base 1 "_law_sides" (spP K 2 f__law_sides) [] := by
  obtain ⟨fa, fd, F, bi⟩ := E.d__law_sides
  have sc : FnScope N__law_sides ["web", "here"] (C8.fnScope (topS 42)) := C8.fnScope_by (by decide +kernel)
  refine calP (ps := ["web", "here"]) F bi sc fun cdv A outer s H Ex hr => ?_
  exact (dss_cons (ds_set 2 sc.nd (de_lst dea_nil))
  (dss_cons (ds_for PassesOwn.never rfl (di_of (dir_tup (dr_ixA hr (dr_var 0) dr_int))) (pg_tup (n := 2) rfl (pgs_cons (pg_name (i := 3) sc.nd rfl (by first | exact .inl rfl | exact .inr rfl)) (pgs_cons (pg_name (i := 4) sc.nd rfl (by first | exact .inl rfl | exact .inr rfl)) pgs_nil))) (gg_tup (ggs_cons (gg_name 3) (ggs_cons (gg_name 4) ggs_nil)))
   (dss_one (ds_expr (de_extend (dr_var 2) (dea_cons (de_of (dr_if (drt_cmpB (w_eq hr) (dr_var 3) (dr_var 1) (nomark _)) (dr_fl (dra_cons (dr_tup (dra_cons dr_str (dra_cons dr_bl (dra_cons (dr_var 4) (dra_cons dr_bl dra_nil))))) dra_nil)) (dr_if (drt_cmpB (w_eq hr) (dr_var 4) (dr_var 1) (nomark _)) (dr_fl (dra_cons (dr_tup (dra_cons dr_str (dra_cons dr_bl (dra_cons (dr_var 3) (dra_cons dr_bl dra_nil))))) dra_nil)) (dr_fl dra_nil)))) dea_nil)))))
  (dss_cons (ds_for PassesOwn.never rfl (di_of (dir_tup (dr_ixA hr (dr_var 0) dr_int))) (pg_tup (n := 2) rfl (pgs_cons (pg_name (i := 3) sc.nd rfl (by first | exact .inl rfl | exact .inr rfl)) (pgs_cons (pg_name (i := 4) sc.nd rfl (by first | exact .inl rfl | exact .inr rfl)) pgs_nil))) (gg_tup (ggs_cons (gg_name 3) (ggs_cons (gg_name 4) ggs_nil)))
   (dss_one (ds_expr (de_extend (dr_var 2) (dea_cons (de_of (dr_if (drt_cmpB (w_in_ hr) (dr_var 1) (dr_tup (dra_cons (dr_var 3) (dra_cons (dr_var 4) dra_nil))) (by with_unfolding_all rfl)) (dr_fl (dra_cons (dr_tup (dra_cons dr_str (dra_cons dr_bl (dra_cons (dr_if (drt_cmpB (w_eq hr) (dr_var 3) (dr_var 1) (nomark _)) (dr_var 4) (dr_var 3)) (dra_cons dr_bl dra_nil))))) dra_nil)) (dr_fl dra_nil))) dea_nil)))))
  (dss_one (ds_ret (de_of (dr_var 2)))))))

/-! _law_states -/
abbrev N__law_states : List Str := ["web", "states", "given", "found", "k", "here", "is_head", "word", "is_near", "there", "is_far"]
def b__law_states : SS :=
  (sSeq (sAsg (eListR (rVar 1)) (setN 3))
  (sSeq (sFor (ofRA (iRgR rng1 (rCons (rBin g_mulA (rC (.int 2)) (rBin ixA (rVar 0) (rC (.int 0)))) rNil))) (setN 4)
   (sIf (ofRT (rB (rBin g_ltA (rVar 4) (rCal gLen (rCons (rVar 3) rNil)))))
    (sSeq (sAsg (ofR (rBin ixA (rVar 3) (rVar 4))) (setTup [(setN 5), (setN 6)]))
    (sFor (iFlE (ofR (rCallP 2 f__law_sides (rCons (rVar 0) (rCons (rVar 5) rNil))))) (setTup [(setN 7), (setN 8), (setN 9), (setN 10)])
     (sIf (ofRT (rAnd (rB (rBin g_eq (rBin g_in_ (rVar 5) (rVar 2)) (rAndV (rVar 6) (rVar 8)))) (rB (rBin g_nin (rTup (rCons (rVar 9) (rCons (rVar 10) rNil))) (rVar 3)))))
      (sExp (eMet gAppend (rVar 3) (eCons (ofR (rTup (rCons (rVar 9) (rCons (rVar 10) rNil)))) (ofRA rNil))))
      sNil)))
    sNil))
  (sRet (ofR (rVar 3)))))
def f__law_states := fnP 11 b__law_states
set_option maxHeartbeats 4000000 in
theorem c__law_states (E : Ev K mg) : C8.CalG P K.wd K mg base 2 "_law_states" (spP K 3 f__law_states) [] := by
  obtain ⟨fa, fd, F, bi⟩ := E.d__law_states
  have sc : FnScope N__law_states ["web", "states", "given"] (C8.fnScope (topS 43)) := C8.fnScope_by (by decide +kernel)
  refine calP (ps := ["web", "states", "given"]) F bi sc fun cdv A outer s H Ex hr => ?_
  exact (dss_cons (ds_set 3 sc.nd (de_listR (dr_var 1) E.n_list))
  (dss_cons (ds_for PassesOwn.never rfl (di_of (dir_rng1 (dra_cons (dr_opB (w_mulA hr) dr_int (dr_ixA hr (dr_var 0) dr_int)) dra_nil) E.n_range)) (pg_name (i := 4) sc.nd rfl (by first | exact .inl rfl | exact .inr rfl)) (gg_name 4)
   (dss_one (ds_if (det_of (drt_cmpB (w_ltA hr) (dr_var 4) (dr_bi v_len E.n_len b_len (.inl ⟨_, rfl⟩) (dra_cons (dr_var 3) dra_nil)) (nomark _)))
    (dss_cons (ds_asg (de_of (dr_ixA hr (dr_var 3) (dr_var 4))) (pg_tup (n := 2) rfl (pgs_cons (pg_name (i := 5) sc.nd rfl (by first | exact .inl rfl | exact .inr rfl)) (pgs_cons (pg_name (i := 6) sc.nd rfl (by first | exact .inl rfl | exact .inr rfl)) pgs_nil))) (gg_tup (ggs_cons (gg_name 5) (ggs_cons (gg_name 6) ggs_nil))))
    (dss_one (ds_for PassesOwn.never rfl (di_fl (de_of (dr_callP (c__law_sides E) hr (dra_cons (dr_var 0) (dra_cons (dr_var 5) dra_nil)) (hk := by omega)))) (pg_tup (n := 4) rfl (pgs_cons (pg_name (i := 7) sc.nd rfl (by first | exact .inl rfl | exact .inr rfl)) (pgs_cons (pg_name (i := 8) sc.nd rfl (by first | exact .inl rfl | exact .inr rfl)) (pgs_cons (pg_name (i := 9) sc.nd rfl (by first | exact .inl rfl | exact .inr rfl)) (pgs_cons (pg_name (i := 10) sc.nd rfl (by first | exact .inl rfl | exact .inr rfl)) pgs_nil))))) (gg_tup (ggs_cons (gg_name 7) (ggs_cons (gg_name 8) (ggs_cons (gg_name 9) (ggs_cons (gg_name 10) ggs_nil)))))
     (dss_one (ds_if (det_of (PW.pt (drw_and (drt_cmpB (w_eq hr) (dr_cmpB (w_in_ hr) (dr_var 5) (dr_var 2) (by with_unfolding_all rfl)) (dr_and (dr_var 6) (dr_one (dr_var 8))) (nomark _)) (drw_and1 (drt_cmpB (w_nin hr) (dr_tup (dra_cons (dr_var 9) (dra_cons (dr_var 10) dra_nil))) (dr_var 3) (by with_unfolding_all rfl))))))
      (dss_one (ds_expr (de_append (dr_var 3) (dea_cons (de_of (dr_tup (dra_cons (dr_var 9) (dra_cons (dr_var 10) dra_nil)))) dea_nil))))
      dss_nil)))))
    dss_nil)))
  (dss_one (ds_ret (de_of (dr_var 3))))))

/-! _law_are_apart -/
abbrev N__law_are_apart : List Str := ["web", "one", "other", "given", "found", "here", "is_head"]
def b__law_are_apart : SS :=
  (sSeq (sAsg (ofR (rCallP 3 f__law_states (rCons (rVar 0) (rCons (rLc (iTupR (rVar 1)) (setN 5) cYes (rTup (rCons (rVar 5) (rCons (rC (.bl false)) rNil))) [5]) (rCons (rVar 3) rNil))))) (setN 4))
  (sRet (ofR (rNotV (rCal gAny (rCons (rLc (iLstR (rVar 4)) (setTup [(setN 5), (setN 6)]) cYes (rBin g_in_ (rVar 5) (rVar 2)) [5, 6]) rNil))))))
def f__law_are_apart := fnP 7 b__law_are_apart
set_option maxHeartbeats 4000000 in
theorem c__law_are_apart (E : Ev K mg) : C8.CalG P K.wd K mg base 3 "_law_are_apart" (spP K 4 f__law_are_apart) [] := by
  obtain ⟨fa, fd, F, bi⟩ := E.d__law_are_apart
  have sc : FnScope N__law_are_apart ["web", "one", "other", "given"] (C8.fnScope (topS 44)) := C8.fnScope_by (by decide +kernel)
  refine calP (ps := ["web", "one", "other", "given"]) F bi sc fun cdv A outer s H Ex hr => ?_
  exact (dss_cons (ds_set 4 sc.nd (de_of (dr_callP (c__law_states E) hr (dra_cons (dr_var 0) (dra_cons (dr_lc [("here", 5)] rfl sc.nd (dir_tup (dr_var 1)) (blkOk_by (by rfl)) (fun _ _ _ _ _ => (pg_name (i := 5) sc.nd rfl (by first | exact .inl rfl | exact .inr rfl))) (gg_name 5) (fun _ _ _ _ _ => drts_nil) (fun _ _ _ _ _ => (dr_tup (dra_cons (dr_var 5) (dra_cons dr_bl dra_nil))))) (dra_cons (dr_var 3) dra_nil))) (hk := by omega))))
  (dss_one (ds_ret (de_of (dr_not (dr_bi (v_any rfl) E.n_any b_any (.inl ⟨_, rfl⟩) (dra_cons (dr_lc [("here", 5), ("is_head", 6)] rfl sc.nd (dir_lst (dr_var 4)) (blkOk_by (by rfl)) (fun _ _ _ _ _ => (pg_tup (n := 2) rfl (pgs_cons (pg_name (i := 5) sc.nd rfl (by first | exact .inl rfl | exact .inr rfl)) (pgs_cons (pg_name (i := 6) sc.nd rfl (by first | exact .inl rfl | exact .inr rfl)) pgs_nil)))) (gg_tup (ggs_cons (gg_name 5) (ggs_cons (gg_name 6) ggs_nil))) (fun _ _ _ _ _ => drts_nil) (fun _ _ _ _ _ => (dr_cmpB (w_in_ hr) (dr_var 5) (dr_var 2) (by with_unfolding_all rfl)))) dra_nil)))))))

/-! _law_is_walk -/
abbrev N__law_is_walk : List Str := ["web", "thing", "at", "one", "side"]
def b__law_is_walk : SS :=
  (sSeq (sIf (ofRT (rOr (rNot (rTru (rIsT (isTy "tuple") (rVar 1)))) (rOr (rB (rBin g_ltA (rCal gLen (rCons (rVar 1) rNil)) (rC (.int 3)))) (rOr (rB (rBin g_gtA (rCal gLen (rCons (rVar 1) rNil)) (rC (.int 81)))) (rB (rBin g_eq (rBin g_mod (rCal gInt (rCons (rCal gLen (rCons (rVar 1) rNil)) rNil)) (rC (.int 2))) (rC (.int 0))))))))
   (sRet (ofR (rC (.bl false))))
   sNil)
  (sSeq (sFor (ofRA (iRgR rng3 (rCons (rC (.int 0)) (rCons (rCal gLen (rCons (rVar 1) rNil)) (rCons (rC (.int 2)) rNil))))) (setN 2)
   (sSeq (sAsg (ofR (rBin ixA (rVar 1) (rVar 2))) (setN 3))
   (sIf (ofRT (rOr (rNot (rTru (rIsT (isTy "int") (rVar 3)))) (rOr (rTru (rIsT (isTy "bool") (rVar 3))) (rNot (rB (rChn g_le g_ltA (rC (.int 0)) (rVar 3) (rBin ixA (rVar 0) (rC (.int 0)))))))))
    (sRet (ofR (rC (.bl false))))
    sNil)))
  (sSeq (sFor (ofRA (iRgR rng3 (rCons (rC (.int 0)) (rCons (rBin g_sub (rCal gLen (rCons (rVar 1) rNil)) (rC (.int 2))) (rCons (rC (.int 2)) rNil))))) (setN 2)
   (sIf (ofRT (rB (rBin g_nin (rTup (rCons (rBin ixA (rVar 1) (rBin g_addA (rVar 2) (rC (.int 1)))) (rCons (rBin ixA (rVar 1) (rBin g_addA (rVar 2) (rC (.int 2)))) rNil))) (rLc (iLstR (rCallP 2 f__law_sides (rCons (rVar 0) (rCons (rBin ixA (rVar 1) (rVar 2)) rNil)))) (setN 4) cYes (rTup (rCons (rBin ixA (rVar 4) (rC (.int 0))) (rCons (rBin ixA (rVar 4) (rC (.int 2))) rNil))) [4]))))
    (sRet (ofR (rC (.bl false))))
    sNil))
  (sRet (ofR (rC (.bl true)))))))
def f__law_is_walk := fnP 5 b__law_is_walk
set_option maxHeartbeats 4000000 in
theorem c__law_is_walk (E : Ev K mg) : C8.CalG P K.wd K mg base 2 "_law_is_walk" (spP K 2 f__law_is_walk) [] := by
  obtain ⟨fa, fd, F, bi⟩ := E.d__law_is_walk
  have sc : FnScope N__law_is_walk ["web", "thing"] (C8.fnScope (topS 45)) := C8.fnScope_by (by decide +kernel)
  refine calP (ps := ["web", "thing"]) F bi sc fun cdv A outer s H Ex hr => ?_
  exact (dss_cons (ds_if (det_of (PW.pt (drw_or (drt_not (drt_tru (dr_is (dr_var 1) E.n_isinstance E.n_tuple b_tuple kt_tuple))) (drw_or (drt_cmpB (w_ltA hr) (dr_bi v_len E.n_len b_len (.inl ⟨_, rfl⟩) (dra_cons (dr_var 1) dra_nil)) dr_int (nomark _)) (drw_or (drt_cmpB (w_gtA hr) (dr_bi v_len E.n_len b_len (.inl ⟨_, rfl⟩) (dra_cons (dr_var 1) dra_nil)) dr_int (nomark _)) (drw_or1 (drt_cmpB (w_eq hr) (dr_opB (w_mod hr) (dr_bi v_int E.n_int b_int (.inr ⟨_, rfl⟩) (dra_cons (dr_bi v_len E.n_len b_len (.inl ⟨_, rfl⟩) (dra_cons (dr_var 1) dra_nil)) dra_nil)) dr_int) dr_int (nomark _))))))))
   (dss_one (ds_ret (de_of dr_bl)))
   dss_nil)
  (dss_cons (ds_for PassesOwn.never rfl (di_of (dir_rng3 (dra_cons dr_int (dra_cons (dr_bi v_len E.n_len b_len (.inl ⟨_, rfl⟩) (dra_cons (dr_var 1) dra_nil)) (dra_cons dr_int dra_nil))) E.n_range)) (pg_name (i := 2) sc.nd rfl (by first | exact .inl rfl | exact .inr rfl)) (gg_name 2)
   (dss_cons (ds_set 3 sc.nd (de_of (dr_ixA hr (dr_var 1) (dr_var 2))))
   (dss_one (ds_if (det_of (PW.pt (drw_or (drt_not (drt_tru (dr_is (dr_var 3) E.n_isinstance E.n_int b_int kt_int))) (drw_or (drt_tru (dr_is (dr_var 3) E.n_isinstance E.n_bool b_bool kt_bool)) (drw_or1 (drt_not (drt_chnB (w_le hr) (w_ltA hr) dr_int (dr_var 3) (dr_ixA hr (dr_var 0) dr_int))))))))
    (dss_one (ds_ret (de_of dr_bl)))
    dss_nil))))
  (dss_cons (ds_for PassesOwn.never rfl (di_of (dir_rng3 (dra_cons dr_int (dra_cons (dr_opB (w_sub hr) (dr_bi v_len E.n_len b_len (.inl ⟨_, rfl⟩) (dra_cons (dr_var 1) dra_nil)) dr_int) (dra_cons dr_int dra_nil))) E.n_range)) (pg_name (i := 2) sc.nd rfl (by first | exact .inl rfl | exact .inr rfl)) (gg_name 2)
   (dss_one (ds_if (det_of (drt_cmpB (w_nin hr) (dr_tup (dra_cons (dr_ixA hr (dr_var 1) (dr_opB (w_addA hr) (dr_var 2) dr_int)) (dra_cons (dr_ixA hr (dr_var 1) (dr_opB (w_addA hr) (dr_var 2) dr_int)) dra_nil))) (dr_lc [("side", 4)] rfl sc.nd (dir_lst (dr_callP (c__law_sides E) hr (dra_cons (dr_var 0) (dra_cons (dr_ixA hr (dr_var 1) (dr_var 2)) dra_nil)) (hk := by omega))) (blkOk_by (by rfl)) (fun _ _ _ _ _ => (pg_name (i := 4) sc.nd rfl (by first | exact .inl rfl | exact .inr rfl))) (gg_name 4) (fun _ _ _ _ _ => drts_nil) (fun _ _ _ _ _ => (dr_tup (dra_cons (dr_ixA hr (dr_var 4) dr_int) (dra_cons (dr_ixA hr (dr_var 4) dr_int) dra_nil))))) (by with_unfolding_all rfl)))
    (dss_one (ds_ret (de_of dr_bl)))
    dss_nil)))
  (dss_one (ds_ret (de_of dr_bl))))))

/-! _law_is_open -/
abbrev N__law_is_open : List Str := ["web", "thing", "given", "at", "is_meeting_v"]
def b__law_is_open : SS :=
  (sSeq (sIf (ofRT (rOr (rNot (rTru (rCallP 2 f__law_is_walk (rCons (rVar 0) (rCons (rVar 1) rNil))))) (rOr (rB (rBin g_in_ (rBin ixA (rVar 1) (rC (.int 0))) (rVar 2))) (rB (rBin g_in_ (rBin ixA (rVar 1) (rNeg (rC (.int 1)))) (rVar 2))))))
   (sRet (ofR (rC (.bl false))))
   sNil)
  (sSeq (sFor (ofRA (iRgR rng3 (rCons (rC (.int 2)) (rCons (rBin g_sub (rCal gLen (rCons (rVar 1) rNil)) (rC (.int 2))) (rCons (rC (.int 2)) rNil))))) (setN 3)
   (sSeq (sAsg (ofR (rAndV (rBin g_in_ (rBin ixA (rVar 1) (rBin g_sub (rVar 3) (rC (.int 1)))) (rTup (rCons (rC (.str "to")) (rCons (rC (.str "tie")) rNil)))) (rBin g_in_ (rBin ixA (rVar 1) (rBin g_addA (rVar 3) (rC (.int 1)))) (rTup (rCons (rC (.str "from")) (rCons (rC (.str "tie")) rNil)))))) (setN 4))
   (sIf (ofRT (rB (rBin g_ne (rBin g_in_ (rBin ixA (rVar 1) (rVar 3)) (rVar 2)) (rVar 4))))
    (sRet (ofR (rC (.bl false))))
    sNil)))
  (sRet (ofR (rC (.bl true))))))
def f__law_is_open := fnP 5 b__law_is_open
set_option maxHeartbeats 4000000 in
theorem c__law_is_open (E : Ev K mg) : C8.CalG P K.wd K mg base 3 "_law_is_open" (spP K 3 f__law_is_open) [] := by
  obtain ⟨fa, fd, F, bi⟩ := E.d__law_is_open
  have sc : FnScope N__law_is_open ["web", "thing", "given"] (C8.fnScope (topS 46)) := C8.fnScope_by (by decide +kernel)
  refine calP (ps := ["web", "thing", "given"]) F bi sc fun cdv A outer s H Ex hr => ?_
  exact (dss_cons (ds_if (det_of (PW.pt (drw_or (drt_not (drt_tru (dr_callP (c__law_is_walk E) hr (dra_cons (dr_var 0) (dra_cons (dr_var 1) dra_nil)) (hk := by omega)))) (drw_or (drt_cmpB (w_in_ hr) (dr_ixA hr (dr_var 1) dr_int) (dr_var 2) (by with_unfolding_all rfl)) (drw_or1 (drt_cmpB (w_in_ hr) (dr_ixA hr (dr_var 1) (dr_neg dr_int)) (dr_var 2) (by with_unfolding_all rfl)))))))
   (dss_one (ds_ret (de_of dr_bl)))
   dss_nil)
  (dss_cons (ds_for PassesOwn.never rfl (di_of (dir_rng3 (dra_cons dr_int (dra_cons (dr_opB (w_sub hr) (dr_bi v_len E.n_len b_len (.inl ⟨_, rfl⟩) (dra_cons (dr_var 1) dra_nil)) dr_int) (dra_cons dr_int dra_nil))) E.n_range)) (pg_name (i := 3) sc.nd rfl (by first | exact .inl rfl | exact .inr rfl)) (gg_name 3)
   (dss_cons (ds_set 4 sc.nd (de_of (dr_and (dr_cmpB (w_in_ hr) (dr_ixA hr (dr_var 1) (dr_opB (w_sub hr) (dr_var 3) dr_int)) (dr_tup (dra_cons dr_str (dra_cons dr_str dra_nil))) (by with_unfolding_all rfl)) (dr_one (dr_cmpB (w_in_ hr) (dr_ixA hr (dr_var 1) (dr_opB (w_addA hr) (dr_var 3) dr_int)) (dr_tup (dra_cons dr_str (dra_cons dr_str dra_nil))) (by with_unfolding_all rfl))))))
   (dss_one (ds_if (det_of (drt_cmpB (w_ne hr) (dr_cmpB (w_in_ hr) (dr_ixA hr (dr_var 1) (dr_var 3)) (dr_var 2) (by with_unfolding_all rfl)) (dr_var 4) (nomark _)))
    (dss_one (ds_ret (de_of dr_bl)))
    dss_nil))))
  (dss_one (ds_ret (de_of dr_bl)))))

/-! _law_made -/
abbrev N__law_made : List Str := ["web"]
def b__law_made : SS :=
  (sRet (ofR (rCallP 3 f_Web (rCons (rBin ixA (rVar 0) (rC (.int 0))) (rCons (rBin ixA (rVar 0) (rC (.int 1))) (rCons (rBin ixA (rVar 0) (rC (.int 2))) rNil))))))
def f__law_made := fnP 1 b__law_made
set_option maxHeartbeats 4000000 in
theorem c__law_made (E : Ev K mg) : C8.CalG P K.wd K mg base 7 "_law_made" (spP K 1 f__law_made) [] := by
  obtain ⟨fa, fd, F, bi⟩ := E.d__law_made
  have sc : FnScope N__law_made ["web"] (C8.fnScope (topS 47)) := C8.fnScope_by (by decide +kernel)
  refine calP (ps := ["web"]) F bi sc fun cdv A outer s H Ex hr => ?_
  exact (dss_one (ds_ret (de_of (dr_mk E.cls_Web.2 (m_Web E) hr (dra_cons (dr_ixA hr (dr_var 0) dr_int) (dra_cons (dr_ixA hr (dr_var 0) dr_int) (dra_cons (dr_ixA hr (dr_var 0) dr_int) dra_nil))) (hk := by omega)))))

/-! _law_forms -/
abbrev N__law_forms : List Str := ["forms"]
def b__law_forms : SS :=
  (sSeq (sAsg (eLst (eCons (ofR (rTup (rCons (rTup (rCons (rC (.int 4)) (rCons (rFl (rCons (rTup (rCons (rC (.int 0)) (rCons (rC (.int 2)) rNil))) (rCons (rTup (rCons (rC (.int 1)) (rCons (rC (.int 2)) rNil))) (rCons (rTup (rCons (rC (.int 2)) (rCons (rC (.int 3)) rNil))) rNil)))) (rCons (rFl rNil) rNil)))) (rCons (rFl (rCons (rC (.int 3)) rNil)) rNil)))) (eCons (ofR (rTup (rCons (rTup (rCons (rC (.int 5)) (rCons (rFl (rCons (rTup (rCons (rC (.int 0)) (rCons (rC (.int 2)) rNil))) (rCons (rTup (rCons (rC (.int 1)) (rCons (rC (.int 2)) rNil))) (rCons (rTup (rCons (rC (.int 2)) (rCons (rC (.int 3)) rNil))) (rCons (rTup (rCons (rC (.int 3)) (rCons (rC (.int 4)) rNil))) rNil))))) (rCons (rFl rNil) rNil)))) (rCons (rFl (rCons (rC (.int 4)) rNil)) rNil)))) (ofRA rNil)))) (setN 0))
  (sSeq (sExp (eMet gAppend (rVar 0) (eCons (ofR (rTup (rCons (rTup (rCons (rC (.int 6)) (rCons (rFl (rCons (rTup (rCons (rC (.int 0)) (rCons (rC (.int 2)) rNil))) (rCons (rTup (rCons (rC (.int 1)) (rCons (rC (.int 2)) rNil))) (rCons (rTup (rCons (rC (.int 2)) (rCons (rC (.int 3)) rNil))) (rCons (rTup (rCons (rC (.int 3)) (rCons (rC (.int 4)) rNil))) (rCons (rTup (rCons (rC (.int 4)) (rCons (rC (.int 5)) rNil))) rNil)))))) (rCons (rFl rNil) rNil)))) (rCons (rFl (rCons (rC (.int 5)) rNil)) rNil)))) (ofRA rNil))))
  (sSeq (sExp (eMet gAppend (rVar 0) (eCons (ofR (rTup (rCons (rTup (rCons (rC (.int 6)) (rCons (rFl (rCons (rTup (rCons (rC (.int 0)) (rCons (rC (.int 2)) rNil))) (rCons (rTup (rCons (rC (.int 3)) (rCons (rC (.int 2)) rNil))) (rCons (rTup (rCons (rC (.int 3)) (rCons (rC (.int 4)) rNil))) (rCons (rTup (rCons (rC (.int 1)) (rCons (rC (.int 4)) rNil))) (rCons (rTup (rCons (rC (.int 2)) (rCons (rC (.int 5)) rNil))) (rCons (rTup (rCons (rC (.int 4)) (rCons (rC (.int 5)) rNil))) rNil))))))) (rCons (rFl rNil) rNil)))) (rCons (rFl (rCons (rC (.int 5)) rNil)) rNil)))) (ofRA rNil))))
  (sSeq (sExp (eMet gAppend (rVar 0) (eCons (ofR (rTup (rCons (rTup (rCons (rC (.int 6)) (rCons (rFl (rCons (rTup (rCons (rC (.int 0)) (rCons (rC (.int 2)) rNil))) (rCons (rTup (rCons (rC (.int 2)) (rCons (rC (.int 4)) rNil))) (rCons (rTup (rCons (rC (.int 3)) (rCons (rC (.int 5)) rNil))) rNil)))) (rCons (rFl (rCons (rTup (rCons (rC (.int 1)) (rCons (rC (.int 3)) rNil))) (rCons (rTup (rCons (rC (.int 2)) (rCons (rC (.int 3)) rNil))) rNil))) rNil)))) (rCons (rFl (rCons (rC (.int 4)) (rCons (rC (.int 5)) rNil))) rNil)))) (ofRA rNil))))
  (sSeq (sExp (eMet gAppend (rVar 0) (eCons (ofR (rTup (rCons (rTup (rCons (rC (.int 5)) (rCons (rFl (rCons (rTup (rCons (rC (.int 0)) (rCons (rC (.int 2)) rNil))) (rCons (rTup (rCons (rC (.int 2)) (rCons (rC (.int 3)) rNil))) rNil))) (rCons (rFl (rCons (rTup (rCons (rC (.int 1)) (rCons (rC (.int 2)) rNil))) (rCons (rTup (rCons (rC (.int 3)) (rCons (rC (.int 4)) rNil))) rNil))) rNil)))) (rCons (rFl (rCons (rC (.int 3)) rNil)) rNil)))) (ofRA rNil))))
  (sSeq (sExp (eMet gAppend (rVar 0) (eCons (ofR (rTup (rCons (rTup (rCons (rC (.int 6)) (rCons (rFl (rCons (rTup (rCons (rC (.int 2)) (rCons (rC (.int 3)) rNil))) (rCons (rTup (rCons (rC (.int 4)) (rCons (rC (.int 5)) rNil))) rNil))) (rCons (rFl (rCons (rTup (rCons (rC (.int 0)) (rCons (rC (.int 2)) rNil))) (rCons (rTup (rCons (rC (.int 2)) (rCons (rC (.int 4)) rNil))) (rCons (rTup (rCons (rC (.int 1)) (rCons (rC (.int 4)) rNil))) rNil)))) rNil)))) (rCons (rFl (rCons (rC (.int 3)) (rCons (rC (.int 5)) rNil))) rNil)))) (ofRA rNil))))
  (sRet (ofR (rVar 0)))))))))
def f__law_forms := fnP 1 b__law_forms
set_option maxHeartbeats 4000000 in
theorem c__law_forms (E : Ev K mg) : C8.CalG P K.wd K mg base 1 "_law_forms" (spP K 0 f__law_forms) [] := by
  obtain ⟨fa, fd, F, bi⟩ := E.d__law_forms
  have sc : FnScope N__law_forms [] (C8.fnScope (topS 48)) := C8.fnScope_by (by decide +kernel)
  refine calP (ps := []) F bi sc fun cdv A outer s H Ex hr => ?_
  exact (dss_cons (ds_set 0 sc.nd (de_lst (dea_cons (de_of (dr_tup (dra_cons (dr_tup (dra_cons dr_int (dra_cons (dr_fl (dra_cons (dr_tup (dra_cons dr_int (dra_cons dr_int dra_nil))) (dra_cons (dr_tup (dra_cons dr_int (dra_cons dr_int dra_nil))) (dra_cons (dr_tup (dra_cons dr_int (dra_cons dr_int dra_nil))) dra_nil)))) (dra_cons (dr_fl dra_nil) dra_nil)))) (dra_cons (dr_fl (dra_cons dr_int dra_nil)) dra_nil)))) (dea_cons (de_of (dr_tup (dra_cons (dr_tup (dra_cons dr_int (dra_cons (dr_fl (dra_cons (dr_tup (dra_cons dr_int (dra_cons dr_int dra_nil))) (dra_cons (dr_tup (dra_cons dr_int (dra_cons dr_int dra_nil))) (dra_cons (dr_tup (dra_cons dr_int (dra_cons dr_int dra_nil))) (dra_cons (dr_tup (dra_cons dr_int (dra_cons dr_int dra_nil))) dra_nil))))) (dra_cons (dr_fl dra_nil) dra_nil)))) (dra_cons (dr_fl (dra_cons dr_int dra_nil)) dra_nil)))) dea_nil))))
  (dss_cons (ds_expr (de_append (dr_var 0) (dea_cons (de_of (dr_tup (dra_cons (dr_tup (dra_cons dr_int (dra_cons (dr_fl (dra_cons (dr_tup (dra_cons dr_int (dra_cons dr_int dra_nil))) (dra_cons (dr_tup (dra_cons dr_int (dra_cons dr_int dra_nil))) (dra_cons (dr_tup (dra_cons dr_int (dra_cons dr_int dra_nil))) (dra_cons (dr_tup (dra_cons dr_int (dra_cons dr_int dra_nil))) (dra_cons (dr_tup (dra_cons dr_int (dra_cons dr_int dra_nil))) dra_nil)))))) (dra_cons (dr_fl dra_nil) dra_nil)))) (dra_cons (dr_fl (dra_cons dr_int dra_nil)) dra_nil)))) dea_nil)))
  (dss_cons (ds_expr (de_append (dr_var 0) (dea_cons (de_of (dr_tup (dra_cons (dr_tup (dra_cons dr_int (dra_cons (dr_fl (dra_cons (dr_tup (dra_cons dr_int (dra_cons dr_int dra_nil))) (dra_cons (dr_tup (dra_cons dr_int (dra_cons dr_int dra_nil))) (dra_cons (dr_tup (dra_cons dr_int (dra_cons dr_int dra_nil))) (dra_cons (dr_tup (dra_cons dr_int (dra_cons dr_int dra_nil))) (dra_cons (dr_tup (dra_cons dr_int (dra_cons dr_int dra_nil))) (dra_cons (dr_tup (dra_cons dr_int (dra_cons dr_int dra_nil))) dra_nil))))))) (dra_cons (dr_fl dra_nil) dra_nil)))) (dra_cons (dr_fl (dra_cons dr_int dra_nil)) dra_nil)))) dea_nil)))
  (dss_cons (ds_expr (de_append (dr_var 0) (dea_cons (de_of (dr_tup (dra_cons (dr_tup (dra_cons dr_int (dra_cons (dr_fl (dra_cons (dr_tup (dra_cons dr_int (dra_cons dr_int dra_nil))) (dra_cons (dr_tup (dra_cons dr_int (dra_cons dr_int dra_nil))) (dra_cons (dr_tup (dra_cons dr_int (dra_cons dr_int dra_nil))) dra_nil)))) (dra_cons (dr_fl (dra_cons (dr_tup (dra_cons dr_int (dra_cons dr_int dra_nil))) (dra_cons (dr_tup (dra_cons dr_int (dra_cons dr_int dra_nil))) dra_nil))) dra_nil)))) (dra_cons (dr_fl (dra_cons dr_int (dra_cons dr_int dra_nil))) dra_nil)))) dea_nil)))
  (dss_cons (ds_expr (de_append (dr_var 0) (dea_cons (de_of (dr_tup (dra_cons (dr_tup (dra_cons dr_int (dra_cons (dr_fl (dra_cons (dr_tup (dra_cons dr_int (dra_cons dr_int dra_nil))) (dra_cons (dr_tup (dra_cons dr_int (dra_cons dr_int dra_nil))) dra_nil))) (dra_cons (dr_fl (dra_cons (dr_tup (dra_cons dr_int (dra_cons dr_int dra_nil))) (dra_cons (dr_tup (dra_cons dr_int (dra_cons dr_int dra_nil))) dra_nil))) dra_nil)))) (dra_cons (dr_fl (dra_cons dr_int dra_nil)) dra_nil)))) dea_nil)))
  (dss_cons (ds_expr (de_append (dr_var 0) (dea_cons (de_of (dr_tup (dra_cons (dr_tup (dra_cons dr_int (dra_cons (dr_fl (dra_cons (dr_tup (dra_cons dr_int (dra_cons dr_int dra_nil))) (dra_cons (dr_tup (dra_cons dr_int (dra_cons dr_int dra_nil))) dra_nil))) (dra_cons (dr_fl (dra_cons (dr_tup (dra_cons dr_int (dra_cons dr_int dra_nil))) (dra_cons (dr_tup (dra_cons dr_int (dra_cons dr_int dra_nil))) (dra_cons (dr_tup (dra_cons dr_int (dra_cons dr_int dra_nil))) dra_nil)))) dra_nil)))) (dra_cons (dr_fl (dra_cons dr_int (dra_cons dr_int dra_nil))) dra_nil)))) dea_nil)))
  (dss_one (ds_ret (de_of (dr_var 0))))))))))

/-! _law_case -/
abbrev N__law_case : List Str := ["draws", "kind", "order", "many", "given", "web", "one"]
def b__law_case : SS :=
  (sSeq (sAsg (eCallB 2 f__law_take (eCons (ofR (rVar 0)) (eCons (ofR (rC (.int 10))) (ofRA rNil)))) (setN 1))
  (sSeq (sIf (ofRT (rB (rBin g_gtA (rVar 1) (rC (.int 6)))))
   (sSeq (sAsg (eBin g_addA (ofR (rC (.int 3))) (eCallB 2 f__law_take (eCons (ofR (rVar 0)) (eCons (ofR (rC (.int 4))) (ofRA rNil))))) (setN 3))
   (sSeq (sFrz 2 (sAsg (eTup (eCons (eCallB 4 f__law_web (eCons (ofR (rVar 0)) (eCons (ofR (rVar 3)) (eCons (eBin g_addA (ofR (rC (.int 1))) (eCallB 2 f__law_take (eCons (ofR (rVar 0)) (eCons (ofR (rC (.int 5))) (ofRA rNil))))) (eCons (eCallB 2 f__law_take (eCons (ofR (rVar 0)) (eCons (ofR (rC (.int 4))) (ofRA rNil)))) (ofRA rNil)))))) (eCons (eCallB 2 f__law_order (eCons (ofR (rVar 0)) (eCons (ofR (rVar 3)) (ofRA rNil)))) (ofRA rNil)))) (setTup [(setN 5), (setN 2)])))
   (sSeq (sAsg (eLc (iFlE (ofR (rSlL (rVar 2) (partD (some (rC (.int 2)))) (partD none)))) (setN 6) (eB (eBin g_eq (eCallB 2 f__law_take (eCons (ofR (rVar 0)) (eCons (ofR (rC (.int 2))) (ofRA rNil)))) (ofR (rC (.int 0))))) (ofR (rVar 6)) [6]) (setN 4))
   (sRet (ofR (rTup (rCons (rVar 5) (rCons (rBin ixA (rVar 2) (rC (.int 0))) (rCons (rBin ixA (rVar 2) (rC (.int 1))) (rCons (rCal gTuple (rCons (rCal gSortedA (rCons (rVar 4) rNil)) rNil)) rNil))))))))))
   sNil)
  (sSeq (sAsg (ofR (rBin ixA (rCallP 0 f__law_forms rNil) (rVar 1))) (setTup [(setN 5), (setN 4)]))
  (sSeq (sFrz 2 (sAsg (eCallB 2 f__law_order (eCons (ofR (rVar 0)) (eCons (ofR (rBin ixA (rVar 5) (rC (.int 0)))) (ofRA rNil)))) (setN 2)))
  (sRet (ofR (rTup (rCons (rCallP 2 f__law_renamed (rCons (rVar 5) (rCons (rVar 2) rNil))) (rCons (rBin ixA (rVar 2) (rC (.int 0))) (rCons (rBin ixA (rVar 2) (rC (.int 1))) (rCons (rCal gTuple (rCons (rCal gSortedA (rCons (rLc (iLstR (rVar 4)) (setN 6) cYes (rBin ixA (rVar 2) (rVar 6)) [6]) rNil)) rNil)) rNil)))))))))))
def f__law_case := fnB 7 b__law_case
set_option maxHeartbeats 4000000 in
theorem c__law_case (E : Ev K mg) : C8.CalG P K.wd K mg base 4 "_law_case" (spB K 1 f__law_case) [] := by
  obtain ⟨fa, fd, F, bi⟩ := E.d__law_case
  have sc : FnScope N__law_case ["draws"] (C8.fnScope (topS 49)) := C8.fnScope_by (by decide +kernel)
  refine calB (ps := ["draws"]) F bi sc fun cdv A outer s H Ex hr => ?_
  exact (dss_cons (ds_set 1 sc.nd (de_callB (c__law_take E) hr (dea_cons (de_of (dr_var 0)) (dea_cons (de_of dr_int) dea_nil)) (hk := by omega)))
  (dss_cons (ds_if (det_of (drt_cmpB (w_gtA hr) (dr_var 1) dr_int (nomark _)))
   (dss_cons (ds_set 3 sc.nd (de_opB (w_addA hr) (de_of dr_int) (de_callB (c__law_take E) hr (dea_cons (de_of (dr_var 0)) (dea_cons (de_of dr_int) dea_nil)) (hk := by omega))))
   (dss_cons (ds_frz 2 (ds_asg (de_tup (dea_cons (de_callB (c__law_web E) hr (dea_cons (de_of (dr_var 0)) (dea_cons (de_of (dr_var 3)) (dea_cons (de_opB (w_addA hr) (de_of dr_int) (de_callB (c__law_take E) hr (dea_cons (de_of (dr_var 0)) (dea_cons (de_of dr_int) dea_nil)) (hk := by omega))) (dea_cons (de_callB (c__law_take E) hr (dea_cons (de_of (dr_var 0)) (dea_cons (de_of dr_int) dea_nil)) (hk := by omega)) dea_nil)))) (hk := by omega)) (dea_cons (de_callB (c__law_order E) hr (dea_cons (de_of (dr_var 0)) (dea_cons (de_of (dr_var 3)) dea_nil)) (hk := by omega)) dea_nil))) (pg_tup (n := 2) rfl (pgs_cons (pg_name (i := 5) sc.nd rfl (by first | exact .inl rfl | exact .inr rfl)) (pgs_cons (pg_name (i := 2) sc.nd rfl (by first | exact .inl rfl | exact .inr rfl)) pgs_nil))) (gg_tup (ggs_cons (gg_name 5) (ggs_cons (gg_name 2) ggs_nil)))))
   (dss_cons (by first | exact (ds_set 4 sc.nd (de_lc [("one", 6)] rfl sc.nd (di_fl (de_of (dr_slL (dr_var 2) (dp_some dr_int) dp_none))) (blkOk_by (by rfl)) (fun _ _ _ _ _ => (pg_name (i := 6) sc.nd rfl (by first | exact .inl rfl | exact .inr rfl))) (gg_name 6) (fun _ _ _ _ _ => (dets_one (det_cmpB (w_eq hr) (de_callB (c__law_take E) hr (dea_cons (de_of (dr_var 0)) (dea_cons (de_of dr_int) dea_nil)) (hk := by omega)) (de_of dr_int) (nomark _)))) (fun _ _ _ _ _ => (de_of (dr_var 6))))) | exact (ds_setLcE 4 [("one", 6)] rfl sc.nd (di_fl (de_of (dr_slL (dr_var 2) (dp_some dr_int) dp_none))) (blkOk_by (by rfl)) (fun _ _ _ _ _ => (pg_name (i := 6) sc.nd rfl (by first | exact .inl rfl | exact .inr rfl))) (gg_name 6) (fun _ _ _ _ _ => (dets_one (det_cmpB (w_eq hr) (de_callB (c__law_take E) hr (dea_cons (de_of (dr_var 0)) (dea_cons (de_of dr_int) dea_nil)) (hk := by omega)) (de_of dr_int) (nomark _)))) (fun _ _ _ _ _ => (de_of (dr_var 6)))))
   (dss_one (ds_ret (de_of (dr_tup (dra_cons (dr_var 5) (dra_cons (dr_ixA hr (dr_var 2) dr_int) (dra_cons (dr_ixA hr (dr_var 2) dr_int) (dra_cons (dr_bi v_tuple E.n_tuple b_tuple (.inr ⟨_, rfl⟩) (dra_cons (dr_bi (v_sorted rfl hr) E.n_sorted b_sorted (.inl ⟨_, rfl⟩) (dra_cons (dr_var 4) dra_nil)) dra_nil)) dra_nil)))))))))))
   dss_nil)
  (dss_cons (ds_asg (de_of (dr_ixA hr (dr_callP0 (c__law_forms E) hr (hk := by omega)) (dr_var 1))) (pg_tup (n := 2) rfl (pgs_cons (pg_name (i := 5) sc.nd rfl (by first | exact .inl rfl | exact .inr rfl)) (pgs_cons (pg_name (i := 4) sc.nd rfl (by first | exact .inl rfl | exact .inr rfl)) pgs_nil))) (gg_tup (ggs_cons (gg_name 5) (ggs_cons (gg_name 4) ggs_nil))))
  (dss_cons (ds_frz 2 (ds_set 2 sc.nd (de_callB (c__law_order E) hr (dea_cons (de_of (dr_var 0)) (dea_cons (de_of (dr_ixA hr (dr_var 5) dr_int)) dea_nil)) (hk := by omega))))
  (dss_one (ds_ret (de_of (dr_tup (dra_cons (dr_callP (c__law_renamed E) hr (dra_cons (dr_var 5) (dra_cons (dr_var 2) dra_nil)) (hk := by omega)) (dra_cons (dr_ixA hr (dr_var 2) dr_int) (dra_cons (dr_ixA hr (dr_var 2) dr_int) (dra_cons (dr_bi v_tuple E.n_tuple b_tuple (.inr ⟨_, rfl⟩) (dra_cons (dr_bi (v_sorted rfl hr) E.n_sorted b_sorted (.inl ⟨_, rfl⟩) (dra_cons (dr_lc [("one", 6)] rfl sc.nd (dir_lst (dr_var 4)) (blkOk_by (by rfl)) (fun _ _ _ _ _ => (pg_name (i := 6) sc.nd rfl (by first | exact .inl rfl | exact .inr rfl))) (gg_name 6) (fun _ _ _ _ _ => drts_nil) (fun _ _ _ _ _ => (dr_ixA hr (dr_var 2) (dr_var 6)))) dra_nil)) dra_nil)) dra_nil))))))))))))

/-! _law_back -/
abbrev N__law_back : List Str := ["word"]
def b__law_back : SS :=
  (sRet (ofR (rBin ixA (rFd [.inr "to", .inr "from", .inr "tie"] (rCons (rC (.str "from")) (rCons (rC (.str "to")) (rCons (rC (.str "tie")) rNil)))) (rVar 0))))
def f__law_back := fnP 1 b__law_back
set_option maxHeartbeats 4000000 in
theorem c__law_back (E : Ev K mg) : C8.CalG P K.wd K mg base 1 "_law_back" (spP K 1 f__law_back) [] := by
  obtain ⟨fa, fd, F, bi⟩ := E.d__law_back
  have sc : FnScope N__law_back ["word"] (C8.fnScope (topS 50)) := C8.fnScope_by (by decide +kernel)
  refine calP (ps := ["word"]) F bi sc fun cdv A outer s H Ex hr => ?_
  exact (dss_one (ds_ret (de_of (dr_ixA hr (dr_fd (ks := [.inr "to", .inr "from", .inr "tie"]) (dfd_cons pe_str dr_str (dfd_cons pe_str dr_str (dfd_cons pe_str dr_str dfd_nil)))) (dr_var 0)))))

/-! _law_turned -/
abbrev N__law_turned : List Str := ["walk", "at", "one"]
def b__law_turned : SS :=
  (sRet (ofR (rCal gTuple (rCons (rLc (iEnT (rSt (rVar 0) (partD none) (partD none) (partD (some (rNeg (rC (.int 1))))))) (setTup [(setN 1), (setN 2)]) cYes (rIf (rB (rBin g_eq (rBin g_mod (rCal gInt (rCons (rVar 1) rNil)) (rC (.int 2))) (rC (.int 0)))) (rVar 2) (rCallP 1 f__law_back (rCons (rVar 2) rNil))) [1, 2]) rNil))))
def f__law_turned := fnP 3 b__law_turned
set_option maxHeartbeats 4000000 in
theorem c__law_turned (E : Ev K mg) : C8.CalG P K.wd K mg base 2 "_law_turned" (spP K 1 f__law_turned) [] := by
  obtain ⟨fa, fd, F, bi⟩ := E.d__law_turned
  have sc : FnScope N__law_turned ["walk"] (C8.fnScope (topS 51)) := C8.fnScope_by (by decide +kernel)
  refine calP (ps := ["walk"]) F bi sc fun cdv A outer s H Ex hr => ?_
  exact (dss_one (ds_ret (de_of (dr_bi v_tuple E.n_tuple b_tuple (.inr ⟨_, rfl⟩) (dra_cons (dr_lc [("at", 1), ("one", 2)] rfl sc.nd (dir_enT (dr_st (dr_var 0) dp_none dp_none (dp_some (dr_neg dr_int))) E.n_enumerate) (blkOk_by (by rfl)) (fun _ _ _ _ _ => (pg_tup (n := 2) rfl (pgs_cons (pg_name (i := 1) sc.nd rfl (by first | exact .inl rfl | exact .inr rfl)) (pgs_cons (pg_name (i := 2) sc.nd rfl (by first | exact .inl rfl | exact .inr rfl)) pgs_nil)))) (gg_tup (ggs_cons (gg_name 1) (ggs_cons (gg_name 2) ggs_nil))) (fun _ _ _ _ _ => drts_nil) (fun _ _ _ _ _ => (dr_if (drt_cmpB (w_eq hr) (dr_opB (w_mod hr) (dr_bi v_int E.n_int b_int (.inr ⟨_, rfl⟩) (dra_cons (dr_var 1) dra_nil)) dr_int) dr_int (nomark _)) (dr_var 2) (dr_callP (c__law_back E) hr (dra_cons (dr_var 2) dra_nil) (hk := by omega))))) dra_nil)))))

/-! _law_longer -/
abbrev N__law_longer : List Str := ["draws", "web", "walk", "at", "sides", "word", "is_near", "there", "is_far"]
def b__law_longer : SS :=
  (sSeq (sAsg (eBin g_mulA (ofR (rC (.int 2))) (eCallB 2 f__law_take (eCons (ofR (rVar 0)) (eCons (ofR (rBin g_div (rBin g_addA (rCal gLen (rCons (rVar 2) rNil)) (rC (.int 1))) (rC (.int 2)))) (ofRA rNil))))) (setN 3))
  (sSeq (sAsg (ofR (rCallP 2 f__law_sides (rCons (rVar 1) (rCons (rBin ixA (rVar 2) (rVar 3)) rNil)))) (setN 4))
  (sSeq (sAsg (eBin ixA (ofR (rVar 4)) (eCallB 2 f__law_take (eCons (ofR (rVar 0)) (eCons (ofR (rCal gLen (rCons (rVar 4) rNil))) (ofRA rNil))))) (setTup [(setN 5), (setN 6), (setN 7), (setN 8)]))
  (sRet (ofR (rBin g_addA (rBin g_addA (rSlT (rVar 2) (partD none) (partD (some (rBin g_addA (rVar 3) (rC (.int 1)))))) (rTup (rCons (rVar 5) (rCons (rVar 7) (rCons (rCallP 1 f__law_back (rCons (rVar 5) rNil)) rNil))))) (rSlT (rVar 2) (partD (some (rVar 3))) (partD none))))))))
def f__law_longer := fnB 9 b__law_longer
set_option maxHeartbeats 4000000 in
theorem c__law_longer (E : Ev K mg) : C8.CalG P K.wd K mg base 2 "_law_longer" (spB K 3 f__law_longer) [] := by
  obtain ⟨fa, fd, F, bi⟩ := E.d__law_longer
  have sc : FnScope N__law_longer ["draws", "web", "walk"] (C8.fnScope (topS 52)) := C8.fnScope_by (by decide +kernel)
  refine calB (ps := ["draws", "web", "walk"]) F bi sc fun cdv A outer s H Ex hr => ?_
  exact (dss_cons (ds_set 3 sc.nd (de_opB (w_mulA hr) (de_of dr_int) (de_callB (c__law_take E) hr (dea_cons (de_of (dr_var 0)) (dea_cons (de_of (dr_opB (w_div hr) (dr_opB (w_addA hr) (dr_bi v_len E.n_len b_len (.inl ⟨_, rfl⟩) (dra_cons (dr_var 2) dra_nil)) dr_int) dr_int)) dea_nil)) (hk := by omega))))
  (dss_cons (ds_set 4 sc.nd (de_of (dr_callP (c__law_sides E) hr (dra_cons (dr_var 1) (dra_cons (dr_ixA hr (dr_var 2) (dr_var 3)) dra_nil)) (hk := by omega))))
  (dss_cons (ds_asg (de_ixA hr (de_of (dr_var 4)) (de_callB (c__law_take E) hr (dea_cons (de_of (dr_var 0)) (dea_cons (de_of (dr_bi v_len E.n_len b_len (.inl ⟨_, rfl⟩) (dra_cons (dr_var 4) dra_nil))) dea_nil)) (hk := by omega))) (pg_tup (n := 4) rfl (pgs_cons (pg_name (i := 5) sc.nd rfl (by first | exact .inl rfl | exact .inr rfl)) (pgs_cons (pg_name (i := 6) sc.nd rfl (by first | exact .inl rfl | exact .inr rfl)) (pgs_cons (pg_name (i := 7) sc.nd rfl (by first | exact .inl rfl | exact .inr rfl)) (pgs_cons (pg_name (i := 8) sc.nd rfl (by first | exact .inl rfl | exact .inr rfl)) pgs_nil))))) (gg_tup (ggs_cons (gg_name 5) (ggs_cons (gg_name 6) (ggs_cons (gg_name 7) (ggs_cons (gg_name 8) ggs_nil))))))
  (dss_one (ds_ret (de_of (dr_opB (w_addA hr) (dr_opB (w_addA hr) (dr_slT (dr_var 2) dp_none (dp_some (dr_opB (w_addA hr) (dr_var 3) dr_int))) (dr_tup (dra_cons (dr_var 5) (dra_cons (dr_var 7) (dra_cons (dr_callP (c__law_back E) hr (dra_cons (dr_var 5) dra_nil) (hk := by omega)) dra_nil))))) (dr_slT (dr_var 2) (dp_some (dr_var 3)) dp_none))))))))

/-! _law_is_judged -/
abbrev N__law_is_judged : List Str := ["web", "one", "other", "given", "walk", "told", "mine", "flags"]
def b__law_is_judged : SS :=
  (sSeq (sPar 6 7 (eCons (ofR (rCallP 1 f__law_made (rCons (rVar 0) rNil))) (eCons (eLst (eCons (ofR (rCallP 2 f__law_is_walk (rCons (rVar 0) (rCons (rVar 4) rNil)))) (eCons (ofR (rCallP 3 f__law_is_open (rCons (rVar 0) (rCons (rVar 4) (rCons (rVar 3) rNil))))) (ofRA rNil)))) (ofRA rNil))))
  (sSeq (sExp (eMet gAppend (rVar 7) (eCons (ofR (rAndV (rBin ixA (rVar 7) (rC (.int 1))) (rBin g_eq (rTup (rCons (rBin ixA (rVar 4) (rC (.int 0))) (rCons (rBin ixA (rVar 4) (rNeg (rC (.int 1)))) rNil))) (rTup (rCons (rVar 1) (rCons (rVar 2) rNil)))))) (ofRA rNil))))
  (sSeq (sAsg (ofR (rFl (rCons (rCallP 2 f_is_walk (rCons (rVar 6) (rCons (rVar 4) rNil))) (rCons (rCallP 3 f_is_open (rCons (rVar 6) (rCons (rVar 4) (rCons (rVar 3) rNil)))) (rCons (rCallP 5 f_is_apart (rCons (rVar 6) (rCons (rTup (rCons (rVar 1) rNil)) (rCons (rTup (rCons (rVar 2) rNil)) (rCons (rVar 3) (rCons (rTup (rCons (rC (.str "open")) (rCons (rVar 4) rNil))) rNil)))))) rNil))))) (setN 5))
  (sRet (ofR (rBin g_eq (rCal gRepr (rCons (rVar 5) rNil)) (rCal gReprA (rCons (rVar 7) rNil))))))))
def f__law_is_judged := fnP 8 b__law_is_judged
set_option maxHeartbeats 4000000 in
theorem c__law_is_judged (E : Ev K mg) : C8.CalG P K.wd K mg base 8 "_law_is_judged" (spP K 5 f__law_is_judged) [] := by
  obtain ⟨fa, fd, F, bi⟩ := E.d__law_is_judged
  have sc : FnScope N__law_is_judged ["web", "one", "other", "given", "walk"] (C8.fnScope (topS 53)) := C8.fnScope_by (by decide +kernel)
  refine calP (ps := ["web", "one", "other", "given", "walk"]) F bi sc fun cdv A outer s H Ex hr => ?_
  exact (dss_cons (ds_par 6 7 rfl sc.nd (dea_cons (de_of (dr_callP (c__law_made E) hr (dra_cons (dr_var 0) dra_nil) (hk := by omega))) (dea_cons (de_lst (dea_cons (de_of (dr_callP (c__law_is_walk E) hr (dra_cons (dr_var 0) (dra_cons (dr_var 4) dra_nil)) (hk := by omega))) (dea_cons (de_of (dr_callP (c__law_is_open E) hr (dra_cons (dr_var 0) (dra_cons (dr_var 4) (dra_cons (dr_var 3) dra_nil))) (hk := by omega))) dea_nil))) dea_nil)))
  (dss_cons (ds_expr (de_append (dr_var 7) (dea_cons (de_of (dr_and (dr_ixA hr (dr_var 7) dr_int) (dr_one (dr_cmpB (w_eq hr) (dr_tup (dra_cons (dr_ixA hr (dr_var 4) dr_int) (dra_cons (dr_ixA hr (dr_var 4) (dr_neg dr_int)) dra_nil))) (dr_tup (dra_cons (dr_var 1) (dra_cons (dr_var 2) dra_nil))) (nomark _))))) dea_nil)))
  (dss_cons (ds_set 5 sc.nd (de_of (dr_fl (dra_cons (dr_callP (c_is_walk E) hr (dra_cons (dr_var 6) (dra_cons (dr_var 4) dra_nil)) (hk := by omega)) (dra_cons (dr_callP (c_is_open E) hr (dra_cons (dr_var 6) (dra_cons (dr_var 4) (dra_cons (dr_var 3) dra_nil))) (hk := by omega)) (dra_cons (dr_callP (c_is_apart E) hr (dra_cons (dr_var 6) (dra_cons (dr_tup (dra_cons (dr_var 1) dra_nil)) (dra_cons (dr_tup (dra_cons (dr_var 2) dra_nil)) (dra_cons (dr_var 3) (dra_cons (dr_tup (dra_cons dr_str (dra_cons (dr_var 4) dra_nil))) dra_nil))))) (hk := by omega)) dra_nil))))))
  (dss_one (ds_ret (de_of (dr_cmpB (w_eq hr) (dr_bi (v_repr hr) E.n_repr b_repr (.inl ⟨_, rfl⟩) (dra_cons (dr_var 5) dra_nil)) (dr_bi (v_reprA hr) E.n_repr b_repr (.inl ⟨_, rfl⟩) (dra_cons (dr_var 7) dra_nil)) (nomark _))))))))

/-! _law_are_walks_right -/
abbrev N__law_are_walks_right : List Str := ["draws", "web", "one", "other", "given", "walk", "turned", "here", "turn", "some", "good", "longer", "lap"]
def b__law_are_walks_right : SS :=
  (sSeq (sAsg (ofR (rCallP 1 f__law_turned (rCons (rVar 5) rNil))) (setN 6))
  (sSeq (sFor (ofRA (iTupR (rTup (rCons (rVar 5) (rCons (rVar 6) rNil))))) (setN 7)
   (sSeq (sIf (ofRT (rOr (rNot (rTru (rCallP 5 f__law_is_judged (rCons (rVar 1) (rCons (rVar 2) (rCons (rVar 3) (rCons (rVar 4) (rCons (rVar 7) rNil)))))))) (rNot (rTru (rCallP 5 f__law_is_judged (rCons (rVar 1) (rCons (rVar 3) (rCons (rVar 2) (rCons (rVar 4) (rCons (rVar 7) rNil))))))))))
    (sRet (ofR (rC (.bl false))))
    sNil)
   (sFor (ofRA (iRgR rng1 (rCons (rC (.int 4)) rNil))) (setN 8)
    (sSeq (sAsg (eCallB 3 f__law_longer (eCons (ofR (rVar 0)) (eCons (ofR (rVar 1)) (eCons (ofR (rVar 7)) (ofRA rNil))))) (setN 11))
    (sIf (ofRT (rNot (rTru (rCallP 5 f__law_is_judged (rCons (rVar 1) (rCons (rBin ixA (rVar 7) (rC (.int 0))) (rCons (rBin ixA (rVar 7) (rNeg (rC (.int 1)))) (rCons (rVar 4) (rCons (rVar 11) rNil)))))))))
     (sRet (ofR (rC (.bl false))))
     sNil)))))
  (sSeq (sAsg (ofR (rVar 5)) (setN 7))
  (sSeq (sFor (ofRA (iRgR rng1 (rCons (rC (.int 22)) rNil))) (setN 8)
   (sSeq (sAsg (eLc (ofRA (iRgR rng1 (rCons (rC (.int 5)) rNil))) (setN 12) cYesE (eCallB 3 f__law_longer (eCons (ofR (rVar 0)) (eCons (ofR (rVar 1)) (eCons (ofR (rVar 7)) (ofRA rNil))))) [12]) (setN 9))
   (sSeq (sAsg (ofR (rLc (iLstR (rVar 9)) (setN 2) (rTru (rCallP 3 f__law_is_open (rCons (rVar 1) (rCons (rVar 2) (rCons (rVar 4) rNil))))) (rVar 2) [2])) (setN 10))
   (sSeq (sAsg (ofR (rIf (rB (rBin g_ne (rVar 10) (rFl rNil))) (rBin ixA (rVar 10) (rC (.int 0))) (rIf (rB (rBin g_gtA (rVar 8) (rC (.int 19)))) (rBin ixA (rVar 9) (rC (.int 0))) (rVar 7)))) (setN 7))
   (sIf (ofRT (rNot (rTru (rCallP 5 f__law_is_judged (rCons (rVar 1) (rCons (rBin ixA (rVar 5) (rC (.int 0))) (rCons (rBin ixA (rVar 5) (rNeg (rC (.int 1)))) (rCons (rVar 4) (rCons (rVar 7) rNil)))))))))
    (sRet (ofR (rC (.bl false))))
    sNil)))))
  (sRet (ofR (rCallP 3 f__law_is_open (rCons (rVar 1) (rCons (rVar 6) (rCons (rVar 4) rNil))))))))))
def f__law_are_walks_right := fnB 13 b__law_are_walks_right
set_option maxHeartbeats 4000000 in
theorem c__law_are_walks_right (E : Ev K mg) : C8.CalG P K.wd K mg base 9 "_law_are_walks_right" (spB K 6 f__law_are_walks_right) [] := by
  obtain ⟨fa, fd, F, bi⟩ := E.d__law_are_walks_right
  have sc : FnScope N__law_are_walks_right ["draws", "web", "one", "other", "given", "walk"] (C8.fnScope (topS 54)) := C8.fnScope_by (by decide +kernel)
  refine calB (ps := ["draws", "web", "one", "other", "given", "walk"]) F bi sc fun cdv A outer s H Ex hr => ?_
  exact (dss_cons (ds_set 6 sc.nd (de_of (dr_callP (c__law_turned E) hr (dra_cons (dr_var 5) dra_nil) (hk := by omega))))
  (dss_cons (ds_for PassesOwn.never rfl (di_of (dir_tup (dr_tup (dra_cons (dr_var 5) (dra_cons (dr_var 6) dra_nil))))) (pg_name (i := 7) sc.nd rfl (by first | exact .inl rfl | exact .inr rfl)) (gg_name 7)
   (dss_cons (ds_if (det_of (PW.pt (drw_or (drt_not (drt_tru (dr_callP (c__law_is_judged E) hr (dra_cons (dr_var 1) (dra_cons (dr_var 2) (dra_cons (dr_var 3) (dra_cons (dr_var 4) (dra_cons (dr_var 7) dra_nil))))) (hk := by omega)))) (drw_or1 (drt_not (drt_tru (dr_callP (c__law_is_judged E) hr (dra_cons (dr_var 1) (dra_cons (dr_var 3) (dra_cons (dr_var 2) (dra_cons (dr_var 4) (dra_cons (dr_var 7) dra_nil))))) (hk := by omega))))))))
    (dss_one (ds_ret (de_of dr_bl)))
    dss_nil)
   (dss_one (ds_for PassesOwn.never rfl (di_of (dir_rng1 (dra_cons dr_int dra_nil) E.n_range)) (pg_name (i := 8) sc.nd rfl (by first | exact .inl rfl | exact .inr rfl)) (gg_name 8)
    (dss_cons (ds_set 11 sc.nd (de_callB (c__law_longer E) hr (dea_cons (de_of (dr_var 0)) (dea_cons (de_of (dr_var 1)) (dea_cons (de_of (dr_var 7)) dea_nil))) (hk := by omega)))
    (dss_one (ds_if (det_of (drt_not (drt_tru (dr_callP (c__law_is_judged E) hr (dra_cons (dr_var 1) (dra_cons (dr_ixA hr (dr_var 7) dr_int) (dra_cons (dr_ixA hr (dr_var 7) (dr_neg dr_int)) (dra_cons (dr_var 4) (dra_cons (dr_var 11) dra_nil))))) (hk := by omega)))))
     (dss_one (ds_ret (de_of dr_bl)))
     dss_nil)))))))
  (dss_cons (ds_set 7 sc.nd (de_of (dr_var 5)))
  (dss_cons (ds_for PassesOwn.never rfl (di_of (dir_rng1 (dra_cons dr_int dra_nil) E.n_range)) (pg_name (i := 8) sc.nd rfl (by first | exact .inl rfl | exact .inr rfl)) (gg_name 8)
   (dss_cons (by first | exact (ds_set 9 sc.nd (de_lc [("lap", 12)] rfl sc.nd (di_of (dir_rng1 (dra_cons dr_int dra_nil) E.n_range)) (blkOk_by (by rfl)) (fun _ _ _ _ _ => (pg_name (i := 12) sc.nd rfl (by first | exact .inl rfl | exact .inr rfl))) (gg_name 12) (fun _ _ _ _ _ => dets_nil) (fun _ _ _ _ _ => (de_callB (c__law_longer E) hr (dea_cons (de_of (dr_var 0)) (dea_cons (de_of (dr_var 1)) (dea_cons (de_of (dr_var 7)) dea_nil))) (hk := by omega))))) | exact (ds_setLcE 9 [("lap", 12)] rfl sc.nd (di_of (dir_rng1 (dra_cons dr_int dra_nil) E.n_range)) (blkOk_by (by rfl)) (fun _ _ _ _ _ => (pg_name (i := 12) sc.nd rfl (by first | exact .inl rfl | exact .inr rfl))) (gg_name 12) (fun _ _ _ _ _ => dets_nil) (fun _ _ _ _ _ => (de_callB (c__law_longer E) hr (dea_cons (de_of (dr_var 0)) (dea_cons (de_of (dr_var 1)) (dea_cons (de_of (dr_var 7)) dea_nil))) (hk := by omega)))))
   (dss_cons (by first | exact (ds_set 10 sc.nd (de_of (dr_lc [("one", 2)] rfl sc.nd (dir_lst (dr_var 9)) (blkOk_by (by rfl)) (fun _ _ _ _ _ => (pg_name (i := 2) sc.nd rfl (by first | exact .inl rfl | exact .inr rfl))) (gg_name 2) (fun _ _ _ _ _ => (drts_one (drt_tru (dr_callP (c__law_is_open E) hr (dra_cons (dr_var 1) (dra_cons (dr_var 2) (dra_cons (dr_var 4) dra_nil))) (hk := by omega))))) (fun _ _ _ _ _ => (dr_var 2))))) | exact (ds_setLcR 10 [("one", 2)] rfl sc.nd (dir_lst (dr_var 9)) (blkOk_by (by rfl)) (fun _ _ _ _ _ => (pg_name (i := 2) sc.nd rfl (by first | exact .inl rfl | exact .inr rfl))) (gg_name 2) (fun _ _ _ _ _ => (drts_one (drt_tru (dr_callP (c__law_is_open E) hr (dra_cons (dr_var 1) (dra_cons (dr_var 2) (dra_cons (dr_var 4) dra_nil))) (hk := by omega))))) (fun _ _ _ _ _ => (dr_var 2))))
   (dss_cons (ds_set 7 sc.nd (de_of (dr_if (drt_cmpB (w_ne hr) (dr_var 10) (dr_fl dra_nil) (nomark _)) (dr_ixA hr (dr_var 10) dr_int) (dr_if (drt_cmpB (w_gtA hr) (dr_var 8) dr_int (nomark _)) (dr_ixA hr (dr_var 9) dr_int) (dr_var 7)))))
   (dss_one (ds_if (det_of (drt_not (drt_tru (dr_callP (c__law_is_judged E) hr (dra_cons (dr_var 1) (dra_cons (dr_ixA hr (dr_var 5) dr_int) (dra_cons (dr_ixA hr (dr_var 5) (dr_neg dr_int)) (dra_cons (dr_var 4) (dra_cons (dr_var 7) dra_nil))))) (hk := by omega)))))
    (dss_one (ds_ret (de_of dr_bl)))
    dss_nil))))))
  (dss_one (ds_ret (de_of (dr_callP (c__law_is_open E) hr (dra_cons (dr_var 1) (dra_cons (dr_var 6) (dra_cons (dr_var 4) dra_nil))) (hk := by omega)))))))))

/-! law -/
abbrev N_law : List Str := ["script", "draws", "told", "walk", "web", "one", "other", "given", "mine", "is_apart_here"]
def b_law : SS :=
  (sSeq (sAsg (eCallB 2 f__law_draws (eCons (ofR (rVar 0)) (eCons (ofR (rC (.int 420))) (ofRA rNil)))) (setN 1))
  (sSeq (sAsg (eCallB 1 f__law_case (eCons (ofR (rVar 1)) (ofRA rNil))) (setTup [(setN 4), (setN 5), (setN 6), (setN 7)]))
  (sSeq (sPar 8 9 (eCons (ofR (rCallP 1 f__law_made (rCons (rVar 4) rNil))) (eCons (ofR (rCallP 4 f__law_are_apart (rCons (rVar 4) (rCons (rTup (rCons (rVar 5) rNil)) (rCons (rTup (rCons (rVar 6) rNil)) (rCons (rVar 7) rNil)))))) (ofRA rNil))))
  (sSeq (sAsg (ofR (rCallP 4 f_apart (rCons (rVar 8) (rCons (rTup (rCons (rVar 5) rNil)) (rCons (rTup (rCons (rVar 6) rNil)) (rCons (rVar 7) rNil)))))) (setN 2))
  (sSeq (sIf (ofRT (rOr (rNot (rTru (rIsT (isTy "tuple") (rVar 2)))) (rOr (rB (rBin g_ne (rCal gLen (rCons (rVar 2) rNil)) (rC (.int 2)))) (rB (rBin g_ne (rBin ixA (rVar 2) (rC (.int 0))) (rIf (rTru (rVar 9)) (rC (.str "apart")) (rC (.str "open"))))))))
   (sRet (ofR (rC (.bl false))))
   sNil)
  (sSeq (sIf (ofRT (rTru (rVar 9)))
   (sRet (ofR (rBin g_isA (rCallP 5 f_is_apart (rCons (rVar 8) (rCons (rTup (rCons (rVar 5) rNil)) (rCons (rTup (rCons (rVar 6) rNil)) (rCons (rVar 7) (rCons (rVar 2) rNil)))))) (rC (.bl true)))))
   sNil)
  (sSeq (sAsg (ofR (rBin ixA (rVar 2) (rC (.int 1)))) (setN 3))
  (sSeq (sIf (ofRT (rOr (rNot (rTru (rCallP 3 f__law_is_open (rCons (rVar 4) (rCons (rVar 3) (rCons (rVar 7) rNil)))))) (rB (rBin g_ne (rTup (rCons (rBin ixA (rVar 3) (rC (.int 0))) (rCons (rBin ixA (rVar 3) (rNeg (rC (.int 1)))) rNil))) (rTup (rCons (rVar 5) (rCons (rVar 6) rNil)))))))
   (sRet (ofR (rC (.bl false))))
   sNil)
  (sRet (eCallB 6 f__law_are_walks_right (eCons (ofR (rVar 1)) (eCons (ofR (rVar 4)) (eCons (ofR (rVar 5)) (eCons (ofR (rVar 6)) (eCons (ofR (rVar 7)) (eCons (ofR (rVar 3)) (ofRA rNil)))))))))))))))))
def f_law := fnP 10 b_law
set_option maxHeartbeats 4000000 in
theorem c_law (E : Ev K mg) : C8.CalG P K.wd K mg base 10 "law" (spP K 1 f_law) [] := by
  obtain ⟨fa, fd, F, bi⟩ := E.d_law
  have sc : FnScope N_law ["script"] (C8.fnScope (topS 55)) := C8.fnScope_by (by decide +kernel)
  refine calP (ps := ["script"]) F bi sc fun cdv A outer s H Ex hr => ?_
  exact (dss_cons (ds_set 1 sc.nd (de_callB (c__law_draws E) hr (dea_cons (de_of (dr_var 0)) (dea_cons (de_of dr_int) dea_nil)) (hk := by omega)))
  (dss_cons (ds_asg (de_callB (c__law_case E) hr (dea_cons (de_of (dr_var 1)) dea_nil) (hk := by omega)) (pg_tup (n := 4) rfl (pgs_cons (pg_name (i := 4) sc.nd rfl (by first | exact .inl rfl | exact .inr rfl)) (pgs_cons (pg_name (i := 5) sc.nd rfl (by first | exact .inl rfl | exact .inr rfl)) (pgs_cons (pg_name (i := 6) sc.nd rfl (by first | exact .inl rfl | exact .inr rfl)) (pgs_cons (pg_name (i := 7) sc.nd rfl (by first | exact .inl rfl | exact .inr rfl)) pgs_nil))))) (gg_tup (ggs_cons (gg_name 4) (ggs_cons (gg_name 5) (ggs_cons (gg_name 6) (ggs_cons (gg_name 7) ggs_nil))))))
  (dss_cons (ds_par 8 9 rfl sc.nd (dea_cons (de_of (dr_callP (c__law_made E) hr (dra_cons (dr_var 4) dra_nil) (hk := by omega))) (dea_cons (de_of (dr_callP (c__law_are_apart E) hr (dra_cons (dr_var 4) (dra_cons (dr_tup (dra_cons (dr_var 5) dra_nil)) (dra_cons (dr_tup (dra_cons (dr_var 6) dra_nil)) (dra_cons (dr_var 7) dra_nil)))) (hk := by omega))) dea_nil)))
  (dss_cons (ds_set 2 sc.nd (de_of (dr_callP (c_apart E) hr (dra_cons (dr_var 8) (dra_cons (dr_tup (dra_cons (dr_var 5) dra_nil)) (dra_cons (dr_tup (dra_cons (dr_var 6) dra_nil)) (dra_cons (dr_var 7) dra_nil)))) (hk := by omega))))
  (dss_cons (ds_if (det_of (PW.pt (drw_or (drt_not (drt_tru (dr_is (dr_var 2) E.n_isinstance E.n_tuple b_tuple kt_tuple))) (drw_or (drt_cmpB (w_ne hr) (dr_bi v_len E.n_len b_len (.inl ⟨_, rfl⟩) (dra_cons (dr_var 2) dra_nil)) dr_int (nomark _)) (drw_or1 (drt_cmpB (w_ne hr) (dr_ixA hr (dr_var 2) dr_int) (dr_if (drt_tru (dr_var 9)) dr_str dr_str) (nomark _)))))))
   (dss_one (ds_ret (de_of dr_bl)))
   dss_nil)
  (dss_cons (ds_if (det_of (drt_tru (dr_var 9)))
   (dss_one (ds_ret (de_of (dr_cmpB (w_isA hr) (dr_callP (c_is_apart E) hr (dra_cons (dr_var 8) (dra_cons (dr_tup (dra_cons (dr_var 5) dra_nil)) (dra_cons (dr_tup (dra_cons (dr_var 6) dra_nil)) (dra_cons (dr_var 7) (dra_cons (dr_var 2) dra_nil))))) (hk := by omega)) dr_bl (nomark _)))))
   dss_nil)
  (dss_cons (ds_set 3 sc.nd (de_of (dr_ixA hr (dr_var 2) dr_int)))
  (dss_cons (ds_if (det_of (PW.pt (drw_or (drt_not (drt_tru (dr_callP (c__law_is_open E) hr (dra_cons (dr_var 4) (dra_cons (dr_var 3) (dra_cons (dr_var 7) dra_nil))) (hk := by omega)))) (drw_or1 (drt_cmpB (w_ne hr) (dr_tup (dra_cons (dr_ixA hr (dr_var 3) dr_int) (dra_cons (dr_ixA hr (dr_var 3) (dr_neg dr_int)) dra_nil))) (dr_tup (dra_cons (dr_var 5) (dra_cons (dr_var 6) dra_nil))) (nomark _))))))
   (dss_one (ds_ret (de_of dr_bl)))
   dss_nil)
  (dss_one (ds_ret (de_callB (c__law_are_walks_right E) hr (dea_cons (de_of (dr_var 1)) (dea_cons (de_of (dr_var 4)) (dea_cons (de_of (dr_var 5)) (dea_cons (de_of (dr_var 6)) (dea_cons (de_of (dr_var 7)) (dea_cons (de_of (dr_var 3)) dea_nil)))))) (hk := by omega))))))))))))

set_option maxHeartbeats 4000000 in
theorem k_law (E : Ev K mg) {fa : Addr} {fd : FuncData} (F : C8.Def K mg "law" (topS 55) fa fd) : FnG P K.wd K mg base C8.CX0 10 fa fd ["script"] (spP K 1 f_law) := by
  have sc : FnScope N_law ["script"] (C8.fnScope (topS 55)) := C8.fnScope_by (by decide +kernel)
  refine calPF (ps := ["script"]) F sc fun cdv A outer s H Ex hr => ?_
  exact (dss_cons (ds_set 1 sc.nd (de_callB (c__law_draws E) hr (dea_cons (de_of (dr_var 0)) (dea_cons (de_of dr_int) dea_nil)) (hk := by omega)))
  (dss_cons (ds_asg (de_callB (c__law_case E) hr (dea_cons (de_of (dr_var 1)) dea_nil) (hk := by omega)) (pg_tup (n := 4) rfl (pgs_cons (pg_name (i := 4) sc.nd rfl (by first | exact .inl rfl | exact .inr rfl)) (pgs_cons (pg_name (i := 5) sc.nd rfl (by first | exact .inl rfl | exact .inr rfl)) (pgs_cons (pg_name (i := 6) sc.nd rfl (by first | exact .inl rfl | exact .inr rfl)) (pgs_cons (pg_name (i := 7) sc.nd rfl (by first | exact .inl rfl | exact .inr rfl)) pgs_nil))))) (gg_tup (ggs_cons (gg_name 4) (ggs_cons (gg_name 5) (ggs_cons (gg_name 6) (ggs_cons (gg_name 7) ggs_nil))))))
  (dss_cons (ds_par 8 9 rfl sc.nd (dea_cons (de_of (dr_callP (c__law_made E) hr (dra_cons (dr_var 4) dra_nil) (hk := by omega))) (dea_cons (de_of (dr_callP (c__law_are_apart E) hr (dra_cons (dr_var 4) (dra_cons (dr_tup (dra_cons (dr_var 5) dra_nil)) (dra_cons (dr_tup (dra_cons (dr_var 6) dra_nil)) (dra_cons (dr_var 7) dra_nil)))) (hk := by omega))) dea_nil)))
  (dss_cons (ds_set 2 sc.nd (de_of (dr_callP (c_apart E) hr (dra_cons (dr_var 8) (dra_cons (dr_tup (dra_cons (dr_var 5) dra_nil)) (dra_cons (dr_tup (dra_cons (dr_var 6) dra_nil)) (dra_cons (dr_var 7) dra_nil)))) (hk := by omega))))
  (dss_cons (ds_if (det_of (PW.pt (drw_or (drt_not (drt_tru (dr_is (dr_var 2) E.n_isinstance E.n_tuple b_tuple kt_tuple))) (drw_or (drt_cmpB (w_ne hr) (dr_bi v_len E.n_len b_len (.inl ⟨_, rfl⟩) (dra_cons (dr_var 2) dra_nil)) dr_int (nomark _)) (drw_or1 (drt_cmpB (w_ne hr) (dr_ixA hr (dr_var 2) dr_int) (dr_if (drt_tru (dr_var 9)) dr_str dr_str) (nomark _)))))))
   (dss_one (ds_ret (de_of dr_bl)))
   dss_nil)
  (dss_cons (ds_if (det_of (drt_tru (dr_var 9)))
   (dss_one (ds_ret (de_of (dr_cmpB (w_isA hr) (dr_callP (c_is_apart E) hr (dra_cons (dr_var 8) (dra_cons (dr_tup (dra_cons (dr_var 5) dra_nil)) (dra_cons (dr_tup (dra_cons (dr_var 6) dra_nil)) (dra_cons (dr_var 7) (dra_cons (dr_var 2) dra_nil))))) (hk := by omega)) dr_bl (nomark _)))))
   dss_nil)
  (dss_cons (ds_set 3 sc.nd (de_of (dr_ixA hr (dr_var 2) dr_int)))
  (dss_cons (ds_if (det_of (PW.pt (drw_or (drt_not (drt_tru (dr_callP (c__law_is_open E) hr (dra_cons (dr_var 4) (dra_cons (dr_var 3) (dra_cons (dr_var 7) dra_nil))) (hk := by omega)))) (drw_or1 (drt_cmpB (w_ne hr) (dr_tup (dra_cons (dr_ixA hr (dr_var 3) dr_int) (dra_cons (dr_ixA hr (dr_var 3) (dr_neg dr_int)) dra_nil))) (dr_tup (dra_cons (dr_var 5) (dra_cons (dr_var 6) dra_nil))) (nomark _))))))
   (dss_one (ds_ret (de_of dr_bl)))
   dss_nil)
  (dss_one (ds_ret (de_callB (c__law_are_walks_right E) hr (dea_cons (de_of (dr_var 1)) (dea_cons (de_of (dr_var 4)) (dea_cons (de_of (dr_var 5)) (dea_cons (de_of (dr_var 6)) (dea_cons (de_of (dr_var 7)) (dea_cons (de_of (dr_var 3)) dea_nil)))))) (hk := by omega))))))))))))

end
end K30
namespace FL
open PySem PySem.Spec PyProof.Rows L2
theorem lcR_map {α : Type} {set : Sets} {cond : RT} {elt : RE} {δ : Env'} {G : Hs} (e : α → D) (δ1 : α → Env') (c : α → Bool) (f : α → D) : ∀ (xs : List α),
    (∀ x ∈ xs, set (e x) δ = some (δ1 x) ∧ cond (δ1 x) G = some (c x) ∧ (c x = true → elt (δ1 x) G = some (f x))) → lcR set cond elt (xs.map e) δ G = some ((xs.filter c).map f)
  | [], _ => rfl
  | x :: xs, h => by
    obtain ⟨h1, h2, h3⟩ := h x List.mem_cons_self
    have ih := lcR_map e δ1 c f xs fun y hy => h y (List.mem_cons_of_mem _ hy)
    rw [List.map_cons, lcR, h1, Option.bind_some, h2, Option.bind_some, ih]
    cases hc : c x with
    | true => rw [if_pos rfl, h3 hc, Option.bind_some, Option.bind_some, List.filter_cons, hc]; rfl
    | false => rw [if_neg (by simp), List.filter_cons, hc]; rfl
theorem blsD_map : ∀ bs : List Bool, blsD (bs.map .bl) = some bs
  | [] => rfl
  | b :: bs => by simp [blsD, blsD_map bs]
theorem intsD_map : ∀ bs : List Int, intsD (bs.map .int) = some bs
  | [] => rfl
  | b :: bs => by simp [intsD, intsD_map bs]
def eP (p : Int × Int) : D := .tup [.int p.1, .int p.2]
theorem eqb_int (a b : Int) : eqb (.int a) (.int b) = decide (a = b) := by
  show PyData.eqv (.int a) (.int b) = _
  simp only [PyData.eqv]
  rfl
theorem eqb_P (p q : Int × Int) : eqb (eP p) (eP q) = decide (p = q) := by
  obtain ⟨a, b⟩ := p
  obtain ⟨c, d⟩ := q
  simp only [eqb, eP, D.py, pys, PyData.eqv, PyData.eqvAll]
  by_cases h1 : a = c <;> by_cases h2 : b = d <;> simp [h1, h2]
theorem eP_ok (p : Int × Int) : (eP p).ok = true := rfl
theorem eP_dep (p : Int × Int) : (eP p).dep = 1 := rfl
theorem oks_map {α : Type} {e : α → D} (h : ∀ x, (e x).ok = true) : ∀ xs : List α, oks (xs.map e) = true
  | [] => rfl
  | x :: xs => by simp [oks, h x, oks_map h xs]
theorem deps_map {α : Type} {e : α → D} {n : Nat} (h : ∀ x, (e x).dep ≤ n) : ∀ xs : List α, deps (xs.map e) ≤ n
  | [] => Nat.zero_le _
  | x :: xs => by
    have h1 := h x
    have h2 := deps_map h xs
    simp only [List.map_cons, deps]
    omega
theorem ims_map {α : Type} {e : α → D} (h : ∀ x, (e x).im = true) : ∀ xs : List α, ims (xs.map e) = true
  | [] => rfl
  | x :: xs => by simp [ims, h x, ims_map h xs]
theorem inB_map {α : Type} [DecidableEq α] {e : α → D} {y : α} (h : ∀ x, eqb (e x) (e y) = decide (x = y)) (xs : List α) : inB (e y) (xs.map e) = decide (y ∈ xs) := by
  unfold inB
  rw [List.any_map]
  induction xs with
  | nil => simp
  | cons x xs ih =>
    rw [List.any_cons, ih]
    show (eqb (e x) (e y) || _) = _
    rw [h x]
    by_cases hx : x = y
    · subst hx; simp
    · have : y ≠ x := fun z => hx z.symm
      simp [hx, this]
theorem lt_int (a b : Int) : g_ltA G (.int a) (.int b) = some (.bl (decide (a < b))) := rfl
theorem ltb_P (p q : Int × Int) : ltb (eP p) (eP q) = (decide (p.1 < q.1) || (!decide (q.1 < p.1) && decide (p.2 < q.2))) := by
  obtain ⟨a, b⟩ := p
  obtain ⟨c, d⟩ := q
  show PyProof.Rows.lexLt PyProof.Rows.itemOrd [.inl 1, .inl a, .inl 1, .inl b, .inl 0] [.inl 1, .inl c, .inl 1, .inl d, .inl 0] = _
  rw [PyProof.Rows.lex_self, PyProof.Rows.lex_cons, PyProof.Rows.lex_self, PyProof.Rows.lex_cons, PyProof.Rows.lex_self]
  show (decide (a < c) || (!decide (c < a) && (decide (b < d) || (!decide (d < b) && false)))) = _
  simp
/-- pairs in order -/
def leP (p q : Int × Int) : Bool := !(decide (q.1 < p.1) || (!decide (p.1 < q.1) && decide (q.2 < p.2)))
def ltP (p q : Int × Int) : Prop := p.1 < q.1 ∨ (p.1 = q.1 ∧ p.2 < q.2)
theorem leP_iff (p q : Int × Int) : leP p q = true ↔ p = q ∨ ltP p q := by
  obtain ⟨a, b⟩ := p
  obtain ⟨c, d⟩ := q
  simp only [leP, ltP, Bool.not_eq_true', Bool.or_eq_false_iff, Bool.and_eq_false_iff, decide_eq_false_iff_not, Bool.not_eq_false', decide_eq_true_eq, Prod.mk.injEq]
  omega
theorem srtd_P (L : List (Int × Int)) : srtd (L.map eP) = (L.mergeSort leP).map eP := by
  unfold srtd
  rw [← List.map_mergeSort]
  intro x _ y _
  show leP x y = !(ltb (eP y) (eP x))
  rw [ltb_P]
  rfl
theorem sort_perm (L : List (Int × Int)) : (L.mergeSort leP).Perm L := List.mergeSort_perm L leP
theorem sort_lt {L : List (Int × Int)} (nd : L.Nodup) : (L.mergeSort leP).Pairwise ltP := by
  have h1 : (L.mergeSort leP).Pairwise fun a b => leP a b = true := List.pairwise_mergeSort (le := leP) (fun a b c h1 h2 => by
    rw [leP_iff] at h1 h2 ⊢
    obtain ⟨a1, a2⟩ := a
    obtain ⟨b1, b2⟩ := b
    obtain ⟨c1, c2⟩ := c
    simp only [ltP, Prod.mk.injEq] at h1 h2 ⊢
    omega) (fun a b => by
    rw [Bool.or_eq_true, leP_iff, leP_iff]
    obtain ⟨a1, a2⟩ := a
    obtain ⟨b1, b2⟩ := b
    simp only [ltP, Prod.mk.injEq]
    omega) L
  have h2 : (L.mergeSort leP).Nodup := (sort_perm L).nodup_iff.mpr nd
  exact (List.pairwise_and_iff.mpr ⟨h1, h2⟩).imp fun {a b} h => ((leP_iff a b).mp h.1).resolve_left h.2

section
variable {G : Hs}
theorem ixA_tup (ds : List D) (i : Int) : ixA G (.tup ds) (.int i) = atI ds i := by
  show (match atI ds i with | some d => some d | none => _) = _
  cases h : atI ds i with
  | some d => rfl
  | none => rfl
theorem ixA_fl (ds : List D) (i : Int) : ixA G (.fl ds) (.int i) = atI ds i := by
  show (match atI ds i with | some d => some d | none => _) = _
  cases h : atI ds i with
  | some d => rfl
  | none => rfl
theorem ixA_scr (ns : List Int) (i : Int) : ixA G (.scr ns) (.int i) = (atI ns i).map .int := by
  show (match (atI ns i).map D.int with | some d => some d | none => _) = _
  cases h : atI ns i with
  | some d => rfl
  | none => rfl
theorem ixA_rf {k : Nat} {ds : List D} (i : Int) (h : G[k]? = some (.lst ds)) : ixA G (.rf k) (.int i) = atI ds i := by
  have e : ixD G (.rf k) (.int i) = atI ds i := by simp only [ixD, h]
  unfold ixA fOr
  rw [e]
  cases h2 : atI ds i with
  | some d => rfl
  | none => simp [ixDct, ixFd, fOr, dctG, h]
theorem at_nat {α : Type} (xs : List α) (i : Nat) : L2.atI xs (i : Int) = xs[i]? := by
  unfold L2.atI ixN
  rw [if_pos (Int.natCast_nonneg i)]
  by_cases h : i < xs.length
  · rw [if_pos (by omega)]
    simp
  · rw [if_neg (by omega), List.getElem?_eq_none (by omega)]
    rfl
theorem at_int {α : Type} (xs : List α) {i : Int} (h : 0 ≤ i) : L2.atI xs i = xs[i.toNat]? := by
  rw [← at_nat, Int.toNat_of_nonneg h]
theorem at_0 {α : Type} (x : α) (xs : List α) : L2.atI (x :: xs) 0 = some x := at_nat (x :: xs) 0
theorem at_1 {α : Type} (x y : α) (xs : List α) : L2.atI (x :: y :: xs) 1 = some y := at_nat (x :: y :: xs) 1
theorem at_2 {α : Type} (x y z : α) (xs : List α) : L2.atI (x :: y :: z :: xs) 2 = some z := at_nat (x :: y :: z :: xs) 2
theorem at_m1 {α : Type} (xs : List α) : L2.atI xs (-1) = xs.getLast? := by
  unfold L2.atI ixN
  rw [if_neg (by decide)]
  cases xs with
  | nil => rfl
  | cons x xs =>
    rw [if_pos (by simp only [List.length_cons]; omega), List.getLast?_eq_getElem?]
    simp only [Option.bind_some]
    congr 1
    simp only [List.length_cons]
    omega
theorem lt_ii (a b : Int) : g_ltA G (.int a) (.int b) = some (.bl (decide (a < b))) := rfl
theorem gt_ii (a b : Int) : g_gtA G (.int a) (.int b) = some (.bl (decide (b < a))) := rfl
theorem ge_ii (a b : Int) : g_geA G (.int a) (.int b) = some (.bl (decide (b ≤ a))) := rfl
theorem le_ii (a b : Int) : g_le G (.int a) (.int b) = some (.bl (decide (a ≤ b))) := rfl
theorem add_ii (a b : Int) : g_addA G (.int a) (.int b) = some (.int (a + b)) := rfl
theorem sub_ii (a b : Int) : g_sub G (.int a) (.int b) = some (.int (a - b)) := rfl
theorem mod_ii (a b : Int) (h : 0 < b) : g_mod G (.int a) (.int b) = some (.int (a % b)) := by
  show (if decide (0 < b) = true then _ else _) = _
  rw [if_pos (by simpa using h)]
theorem eq_ii (a b : Int) : g_eq G (.int a) (.int b) = some (.bl (decide (a = b))) := by
  show (if _ then _ else _) = _
  rw [if_pos ⟨⟨rfl, rfl⟩, Nat.zero_le _, Nat.zero_le _⟩, eqb_int]
theorem ne_ii (a b : Int) : g_ne G (.int a) (.int b) = some (.bl (!decide (a = b))) := by
  show (if _ then _ else _) = _
  rw [if_pos ⟨⟨rfl, rfl⟩, Nat.zero_le _, Nat.zero_le _⟩, eqb_int]
theorem len_tup (ds : List D) : gLen G [.tup ds] = some (.int ds.length) := rfl
theorem len_fl (ds : List D) : gLen G [.fl ds] = some (.int ds.length) := rfl
theorem len_scr (ns : List Int) : gLen G [.scr ns] = some (.int ns.length) := rfl
theorem len_rf {k : Nat} {ds : List D} (h : G[k]? = some (.lst ds)) : gLen G [.rf k] = some (.int ds.length) := by simp [gLen, seqG, h]
theorem all_bl (bs : List Bool) : gAll G [.fl (bs.map .bl)] = some (.bl (bs.all id)) := by simp [gAll, lstG, blsD_map]
theorem any_bl (bs : List Bool) : gAny G [.fl (bs.map .bl)] = some (.bl (bs.any id)) := by simp [gAny, lstG, blsD_map]
end
/-- sequencing -/
theorem sq_nx {g h : SS} {δ δ1 : Env'} {G G1 : Hs} (e : g δ G = some (.nx, δ1, G1)) : sSeq g h δ G = h δ1 G1 := by
  unfold sSeq
  rw [e]
  rfl
theorem sq_rt {g h : SS} {δ δ1 : Env'} {G G1 : Hs} {d : D} (e : g δ G = some (.rt d, δ1, G1)) : sSeq g h δ G = some (.rt d, δ1, G1) := by
  unfold sSeq
  rw [e]
  rfl
theorem if_of {t : ET} {g h : SS} {δ : Env'} {G G1 : Hs} {b : Bool} (e : t δ G = some (b, G1)) : sIf t g h δ G = if b = true then g δ G1 else h δ G1 := by
  unfold sIf
  rw [e]
  rfl
theorem ofRT_of {t : RT} {δ : Env'} {G : Hs} {b : Bool} (e : t δ G = some b) : ofRT t δ G = some (b, G) := by
  unfold ofRT
  rw [e]
  rfl
theorem ofR_of {t : RE} {δ : Env'} {G : Hs} {b : D} (e : t δ G = some b) : ofR t δ G = some (b, G) := by
  unfold ofR
  rw [e]
  rfl
theorem asg_of {f : EE} {i : Nat} {δ : Env'} {G G1 : Hs} {d : D} (e : f δ G = some (d, G1)) (h : i < δ.length) : sAsg f (setN i) δ G = some (.nx, δ.set i (some d), G1) := by
  unfold sAsg setN
  rw [e]
  simp [h]
theorem ret_of {f : EE} {δ : Env'} {G G1 : Hs} {d : D} (e : f δ G = some (d, G1)) : sRet f δ G = some (.rt d, δ, G1) := by
  unfold sRet
  rw [e]
  rfl
theorem exp_of {f : EE} {δ : Env'} {G G1 : Hs} {d : D} (e : f δ G = some (d, G1)) : sExp f δ G = some (.nx, δ, G1) := by
  unfold sExp
  rw [e]
  rfl
theorem callP_of {np : Nat} {F : List D → Option D} {fs : RA} {δ : Env'} {G : Hs} {ds : List D} {d : D} (e : fs δ G = some ds) (hi : ims ds = true) (hl : ds.length = np) (hF : F ds = some d) : rCallP np F fs δ G = some d := by
  unfold rCallP
  rw [e, Option.bind_some, if_pos ⟨hi, hl⟩, hF]

section
variable {δ δ1 : Env'} {G G1 : Hs} {fa fb fc : RE} {fs : RA} {t u : RT} {d x y z r : D} {xs : List D} {b c : Bool} {i : Nat} {g g1 g2 : Hs → D → D → Option D} {k : Hs → List D → Option D}
theorem var_of (h : δ[i]? = some (some d)) : rVar i δ G = some d := by simp [rVar, h]
theorem c_of : rC d δ G = some d := rfl
theorem bin_of (ha : fa δ G = some x) (hb : fb δ G = some y) (h : g G x y = some d) : rBin g fa fb δ G = some d := by simp [rBin, ha, hb, h]
theorem cons_of (ha : fa δ G = some x) (hs : fs δ G = some xs) : rCons fa fs δ G = some (x :: xs) := by simp [rCons, ha, hs]
theorem nil_of : rNil δ G = some [] := rfl
theorem cal_of (hs : fs δ G = some xs) (h : k G xs = some d) : rCal k fs δ G = some d := by simp [rCal, hs, h]
theorem cal1_of (ha : fa δ G = some x) (h : k G [x] = some d) : rCal k (rCons fa rNil) δ G = some d := cal_of (cons_of ha nil_of) h
theorem cal2_of (ha : fa δ G = some x) (hb : fb δ G = some y) (h : k G [x, y] = some d) : rCal k (rCons fa (rCons fb rNil)) δ G = some d := cal_of (cons_of ha (cons_of hb nil_of)) h
theorem tup_of (hs : fs δ G = some xs) (hl : xs.length ≤ 1000) : rTup fs δ G = some (.tup xs) := by simp [rTup, hs, hl]
theorem fl_of (hs : fs δ G = some xs) (hl : xs.length ≤ 1000) : rFl fs δ G = some (.fl xs) := by simp [rFl, hs, hl]
theorem tru_of (h : fa δ G = some d) (ht : truD G d = some b) : rTru fa δ G = some b := by simp [rTru, h, ht]
theorem b_of (h : fa δ G = some (.bl b)) : rB fa δ G = some b := by simp [rB, h, toB]
theorem not_of (h : t δ G = some b) : rNot t δ G = some (!b) := by simp [rNot, h]
theorem not_f (h : t δ G = some true) : rNot t δ G = some false := by simp [rNot, h]
theorem not_t (h : t δ G = some false) : rNot t δ G = some true := by simp [rNot, h]
theorem or_of (h : t δ G = some b) (h2 : b = false → u δ G = some c) : rOr t u δ G = some (b || c) := by
  cases b with
  | true => simp [rOr, h]
  | false => simp [rOr, h, h2 rfl]
theorem and_of (h : t δ G = some b) (h2 : b = true → u δ G = some c) : rAnd t u δ G = some (b && c) := by
  cases b with
  | true => simp [rAnd, h, h2 rfl]
  | false => simp [rAnd, h]
theorem andV_of (h : fa δ G = some (.bl b)) (h2 : b = true → fb δ G = some (.bl c)) : rAndV fa fb δ G = some (.bl (b && c)) := by
  cases b with
  | true => simp [rAndV, h, h2 rfl, toB]
  | false => simp [rAndV, h, toB]
theorem orV_of (h : fa δ G = some (.bl b)) (h2 : b = false → fb δ G = some (.bl c)) : rOrV fa fb δ G = some (.bl (b || c)) := by
  cases b with
  | true => simp [rOrV, h, toB]
  | false => simp [rOrV, h, h2 rfl, toB]
theorem notV_of (h : fa δ G = some (.bl b)) : rNotV fa δ G = some (.bl (!b)) := by simp [rNotV, h, toB]
theorem isT_of {p : String → Bool} {T : String} (h : fa δ G = some d) (ht : tyN G d = some T) : rIsT p fa δ G = some (.bl (p T)) := by simp [rIsT, h, ht]
theorem chn_of (ha : fa δ G = some x) (hb : fb δ G = some y) (h1 : g1 G x y = some (.bl b)) (h2 : b = true → fc δ G = some z ∧ g2 G y z = some (.bl c)) : rChn g1 g2 fa fb fc δ G = some (.bl (b && c)) := by
  cases b with
  | true => simp [rChn, ha, hb, h1, toB, (h2 rfl).1, (h2 rfl).2]
  | false => simp [rChn, ha, hb, h1, toB]
theorem rif_t (h : t δ G = some true) : rIf t fa fb δ G = fa δ G := by simp [rIf, h]
theorem rif_f (h : t δ G = some false) : rIf t fa fb δ G = fb δ G := by simp [rIf, h]
theorem if_t {ua : ET} {s1 s2 : SS} (h : ua δ G = some (true, G1)) : sIf ua s1 s2 δ G = s1 δ G1 := by simp [sIf, h]
theorem if_f {ua : ET} {s1 s2 : SS} (h : ua δ G = some (false, G1)) : sIf ua s1 s2 δ G = s2 δ G1 := by simp [sIf, h]
theorem attr_of {f : Str} {C : Str} {ns : List Str} {ds : List D} (h : fa δ G = some (.obj C ns ds)) (hl : (ns.zip ds).lookup f = some d) : rAttr f fa δ G = some d := by simp [rAttr, h, hl]
theorem itup_of (h : fa δ G = some (.tup xs)) : iTupR fa δ G = some xs := by simp [iTupR, h]
theorem ilst_of (h : fa δ G = some x) (hx : lstG G x = some xs) : iLstR fa δ G = some xs := by simp [iLstR, h, hx]
theorem range_map (lo : Int) (n : Nat) : rangeD lo n = (List.range n).map fun i : Nat => .int (lo + (i : Int)) := rfl
theorem rg1_of {j : Int} (h : fa δ G = some (.int j)) (h1 : -1000000 ≤ j) (h2 : j ≤ 1000000) : iRgR rng1 (rCons fa rNil) δ G = some ((List.range j.toNat).map fun i : Nat => .int (0 + (i : Int))) := by
  simp [iRgR, rCons, rNil, h, rng1, h1, h2, range_map]
theorem rg2_of {i j : Int} (h : fa δ G = some (.int i)) (hb : fb δ G = some (.int j)) (h0 : -1000000 ≤ i ∧ i ≤ 1000000) (h1 : -1000000 ≤ j) (h2 : j ≤ 1000000) : iRgR rng2 (rCons fa (rCons fb rNil)) δ G = some ((List.range (j - i).toNat).map fun k : Nat => .int (i + (k : Int))) := by
  simp [iRgR, rCons, rNil, h, hb, rng2, h0, h1, h2, range_map]
theorem rlc_of {α : Type} {src : RA} {set : Sets} {cond : RT} {elt : RE} {vs : List Nat} (e : α → D) (δ1 : α → Env') (c : α → Bool) (f : α → D) (xs : List α) (hs : src δ G = some (xs.map e)) (hl : xs.length ≤ 10000000)
    (h : ∀ x ∈ xs, set (e x) (wipeD δ vs) = some (δ1 x) ∧ cond (δ1 x) G = some (c x) ∧ (c x = true → elt (δ1 x) G = some (f x))) : rLc src set cond elt vs δ G = some (.fl ((xs.filter c).map f)) := by
  unfold rLc
  rw [hs, Option.bind_some, if_pos (by rw [List.length_map]; exact hl), lcR_map e δ1 c f xs h]
  rfl
theorem fnP_of {n : Nat} {body : SS} {ds : List D} (h : body (slots n ds) [] = some (.rt d, δ, G)) (hd : d.im = true) : fnP n body ds = some d := by
  unfold fnP
  rw [h]
  show outD d G = some d
  unfold outD
  rw [if_pos hd]
theorem fnP_fl {n k : Nat} {body : SS} {ds : List D} (h : body (slots n ds) [] = some (.rt (.rf k), δ, G)) (hk : G[k]? = some (.lst xs)) (hd : ims xs = true) : fnP n body ds = some (.fl xs) := by
  unfold fnP
  rw [h]
  show outD (.rf k) G = _
  unfold outD
  rw [if_neg (by simp [D.im])]
  simp [hk, hd]
end
section
variable {δ : Env'} {G G1 : Hs} {fa : RE} {ga : EE} {gs : EA} {d : D} {xs ys zs : List D} {k : Nat}
theorem econs1_of (h : ga δ G = some (d, G1)) : eCons ga (ofRA rNil) δ G = some ([d], G1) := by
  unfold eCons
  rw [h]
  rfl
theorem app_of (ho : fa δ G = some (.rf k)) (hk : G[k]? = some (.lst xs)) (hs : gs δ G = some ([d], G1)) (hk1 : G1[k]? = some (.lst ys)) (hl : ys.length < 10000000) : eMet gAppend fa gs δ G = some (.non, G1.set k (.lst (ys ++ [d]))) := by
  unfold eMet
  simp only [ho, Option.bind_some, lstG, hk, hs, gAppend, hk1]
  rw [if_pos hl]
theorem ext_of (ho : fa δ G = some (.rf k)) (hk : G[k]? = some (.lst xs)) (hs : gs δ G = some ([.fl zs], G1)) (hk1 : G1[k]? = some (.lst ys)) (hl : ys.length + zs.length ≤ 10000000) : eMet gExtend fa gs δ G = some (.non, G1.set k (.lst (ys ++ zs))) := by
  unfold eMet
  simp only [ho, Option.bind_some, lstG, hk, hs, gExtend, hk1]
  rw [if_pos hl]
end
end FL
namespace K30
open PySem PySem.Spec PyProof.Rows L2 FL
theorem is_integer_int (i : Int) : f_is_integer [.int i] = some (.bl true) := rfl
theorem is_integer_str (x : Str) : f_is_integer [.str x] = some (.bl false) := rfl
theorem is_between_int (i a b : Int) : f_is_between [.int i, .int a, .int b] = some (.bl (decide (a ≤ i) && decide (i ≤ b))) :=
  fnP_of (ret_of (ofR_of (andV_of (b := true) (callP_of (cons_of (var_of rfl) nil_of) rfl rfl (is_integer_int i)) fun _ => chn_of (var_of rfl) (var_of rfl) (le_ii a i) fun _ => ⟨var_of rfl, le_ii i b⟩))) rfl
theorem is_under_int (i m : Int) : f_is_under [.int i, .int m] = some (.bl (decide (0 ≤ i) && decide (i < m))) :=
  fnP_of (ret_of (ofR_of (andV_of (b := true) (callP_of (cons_of (var_of rfl) nil_of) rfl rfl (is_integer_int i)) fun _ => chn_of c_of (var_of rfl) (le_ii 0 i) fun _ => ⟨var_of rfl, lt_ii i m⟩))) rfl
theorem is_under_str (x : Str) (m : Int) : f_is_under [.str x, .int m] = some (.bl false) :=
  fnP_of (ret_of (ofR_of (andV_of (b := false) (c := false) (callP_of (cons_of (var_of rfl) nil_of) rfl rfl (is_integer_str x)) fun h => by cases h))) rfl
theorem is_arrow_P {n : Int} {p : Int × Int} (h : 0 ≤ p.1 ∧ p.1 < n ∧ 0 ≤ p.2 ∧ p.2 < n ∧ p.1 ≠ p.2) : f_is_arrow [.int n, eP p] = some (.bl true) := by
  obtain ⟨a, b⟩ := p
  obtain ⟨h1, h2, h3, h4, h5⟩ := h
  have hu1 : f_is_under [.int a, .int n] = some (.bl true) := by
    rw [is_under_int]
    have h1 : 0 ≤ a := h1
    have h2 : a < n := h2
    simp [h1, h2]
  have hu2 : f_is_under [.int b, .int n] = some (.bl true) := by
    rw [is_under_int]
    have h1 : 0 ≤ b := h3
    have h2 : b < n := h4
    simp [h1, h2]
  have hn : decide (a = b) = false := decide_eq_false h5
  have v1 : ∀ G, ixA G (eP (a, b)) (.int 0) = some (.int a) := fun G => by rw [eP, ixA_tup, at_0]
  have v2 : ∀ G, ixA G (eP (a, b)) (.int 1) = some (.int b) := fun G => by rw [eP, ixA_tup, at_1]
  refine fnP_of ((sq_nx (if_f (ofRT_of (or_of (b := false) (c := false) (not_f (tru_of (isT_of (var_of rfl) rfl) rfl)) fun _ => or_of (b := false) (c := false) (b_of (bin_of (cal1_of (var_of rfl) (len_tup _)) c_of (ne_ii _ _))) fun _ =>
    not_f (tru_of (callP_of (cons_of (bin_of (var_of rfl) c_of (v1 _)) (cons_of (var_of rfl) nil_of)) rfl rfl hu1) rfl)) ))).trans
    (ret_of (ofR_of (andV_of (b := true) (c := true) (callP_of (cons_of (bin_of (var_of rfl) c_of (v2 _)) (cons_of (var_of rfl) nil_of)) rfl rfl hu2) fun _ => bin_of (bin_of (var_of rfl) c_of (v1 _)) (bin_of (var_of rfl) c_of (v2 _)) (by rw [ne_ii, hn]; rfl))))) rfl
theorem eP_im (p : Int × Int) : (eP p).im = true := rfl
theorem alike_P (p q : Int × Int) : PySem.W.alike (eP p).py (eP q).py = true := by
  simp [eP, D.py, pys, PySem.W.alike, PySem.W.alikeAll]
theorem lt_P {G : Hs} {p q : Int × Int} (h : ltP p q) : g_ltA G (eP p) (eP q) = some (.bl true) := by
  have e : g_ltA G (eP p) (eP q) = fLtD G (eP p) (eP q) := rfl
  rw [e]
  unfold fLtD
  rw [if_pos ⟨⟨rfl, rfl⟩, alike_P p q, rfl, by show (1 : Nat) ≤ 60; decide⟩, ltb_P]
  congr 2
  obtain ⟨a, b⟩ := p
  obtain ⟨c, d⟩ := q
  rcases h with h | ⟨h1, h2⟩
  · have h : a < c := h
    simp [h]
  · have h1 : a = c := h1
    have h2 : b < d := h2
    simp [h1, h2]
theorem at_map {L : List (Int × Int)} {i : Int} {j : Nat} (hi : 0 ≤ i) (hj : i.toNat = j) (hl : j < L.length) : L2.atI (L.map eP) i = some (eP L[j]) := by
  rw [at_int _ hi, hj, List.getElem?_map, List.getElem?_eq_getElem hl]
  rfl
theorem are_rising_P {L : List (Int × Int)} (h : L.Pairwise ltP) (hl : L.length ≤ 1000) : f_are_rising [.tup (L.map eP)] = some (.bl true) := by
  refine fnP_of (ret_of (ofR_of (cal1_of (rlc_of (fun i : Nat => D.int (1 + (i : Int))) (fun i => [some (.tup (L.map eP)), some (.int (1 + (i : Int)))]) (fun _ => true) (fun _ => .bl true) (List.range (((L.map eP).length : Int) - 1).toNat)
    (rg2_of c_of (cal1_of (var_of rfl) (len_tup _)) (by decide) (by rw [List.length_map]; omega) (by rw [List.length_map]; omega)) (by rw [List.length_range, List.length_map]; omega) fun i hi => ?_) ?_))) rfl
  · have hi' : i + 1 < L.length := by
      have := List.mem_range.mp hi
      rw [List.length_map] at this
      omega
    refine ⟨rfl, rfl, fun _ => bin_of (bin_of (var_of rfl) (bin_of (var_of rfl) c_of (sub_ii _ _)) ((ixA_tup _ _).trans (at_map (j := i) (by omega) (by omega) (by omega)))) (bin_of (var_of rfl) (var_of rfl) ((ixA_tup _ _).trans (at_map (j := i + 1) (by omega) (by omega) hi'))) ?_⟩
    exact lt_P (List.pairwise_iff_getElem.mp h i (i + 1) (by omega) hi' (by omega))
  · have e : ((List.range (((L.map eP).length : Int) - 1).toNat).filter fun _ => true).map (fun _ => D.bl true) = (List.replicate (((L.map eP).length : Int) - 1).toNat true).map .bl := by
      rw [List.map_replicate, List.map_const', List.filter_eq_self.mpr (fun _ _ => rfl), List.length_range]
    rw [e, all_bl]
    congr 2
    rw [List.all_eq_true]
    intro x hx
    exact (List.mem_replicate.mp hx).2
theorem are_pairs_P {n : Int} {L : List (Int × Int)} (h : L.Pairwise ltP) (hl : L.length ≤ 1000) (hp : ∀ p ∈ L, 0 ≤ p.1 ∧ p.1 < n ∧ 0 ≤ p.2 ∧ p.2 < n ∧ p.1 ≠ p.2) : f_are_pairs [.int n, .tup (L.map eP)] = some (.bl true) := by
  have hel : ∀ p ∈ L, rCallP 2 f_is_arrow (rCons (rVar 0) (rCons (rVar 2) rNil)) [some (.int n), some (.tup (L.map eP)), some (eP p)] [] = some (.bl true) := fun p hp' =>
    callP_of (ds := [.int n, eP p]) (cons_of (var_of rfl) (cons_of (var_of rfl) nil_of)) rfl rfl (is_arrow_P (hp p hp'))
  refine fnP_of ((sq_nx (if_f (ofRT_of (or_of (b := false) (c := false) (not_f (tru_of (isT_of (var_of rfl) rfl) rfl)) fun _ => not_f (tru_of (d := .bl true) (cal1_of (rlc_of eP (fun p => [some (.int n), some (.tup (L.map eP)), some (eP p)]) (fun _ => true) (fun _ => .bl true) L (itup_of (var_of rfl)) (by omega) fun p hp' =>
    ⟨rfl, rfl, fun _ => hel p hp'⟩) ?_) rfl))))).trans (ret_of (ofR_of (callP_of (ds := [.tup (L.map eP)]) (cons_of (var_of rfl) nil_of) (by simp [ims, D.im, ims_map eP_im]) rfl (are_rising_P h hl))))) rfl
  have e : (L.filter fun _ => true).map (fun _ => D.bl true) = (List.replicate L.length true).map .bl := by
    rw [List.map_replicate, List.map_const', List.filter_eq_self.mpr (fun _ _ => rfl)]
  rw [e, all_bl]
  have : (List.replicate L.length true).all id = true := by
    rw [List.all_eq_true]
    intro x hx
    exact (List.mem_replicate.mp hx).2
  rw [this]
end K30
namespace FL
open PySem PySem.Spec PyProof.Rows L2
theorem oks_int (xs : List Int) : oks (xs.map D.int) = true := oks_map (fun _ => rfl) xs
theorem deps_int (xs : List Int) : deps (xs.map D.int) ≤ 0 := deps_map (e := D.int) (fun _ => Nat.zero_le _) xs
theorem in_ints {G : Hs} {y : D} {v : Int} {xs : List Int} (h : seqG G y = some (xs.map .int)) (neg : Bool) : fIn neg G (.int v) y = some (.bl (if neg = true then !decide (v ∈ xs) else decide (v ∈ xs))) := by
  unfold fIn
  have hd := deps_int xs
  rw [h, Option.bind_some, if_pos ⟨⟨rfl, oks_int xs⟩, Nat.zero_le _, by omega⟩, inB_map (fun x => eqb_int x v)]
theorem whileS_eq (t : ET) (b : SS) (δ : Env') (G : Hs) : whileS t b δ G = (t δ G).bind fun x => if x.1 = true then (b δ x.2).bind fun y => match y.1 with
    | .nx => whileS t b y.2.1 y.2.2
    | .ct => whileS t b y.2.1 y.2.2
    | .bk => some (.nx, y.2.1, y.2.2)
    | .rt r => some (.rt r, y.2.1, y.2.2)
  else some (.nx, δ, x.2) := by
  rw [whileS]
  rfl
theorem while_nx {t : ET} {b : SS} {δ δ1 : Env'} {G G1 G2 : Hs} (h : t δ G = some (true, G1)) (hb : b δ G1 = some (.nx, δ1, G2)) : whileS t b δ G = whileS t b δ1 G2 := by
  rw [whileS_eq, h, Option.bind_some, if_pos rfl, hb]
  rfl
theorem while_rt {t : ET} {b : SS} {δ δ1 : Env'} {G G1 G2 : Hs} {d : D} (h : t δ G = some (true, G1)) (hb : b δ G1 = some (.rt d, δ1, G2)) : whileS t b δ G = some (.rt d, δ1, G2) := by
  rw [whileS_eq, h, Option.bind_some, if_pos rfl, hb]
  rfl
theorem nodup_le {α : Type} [DecidableEq α] : ∀ {l m : List α}, l.Nodup → (∀ x ∈ l, x ∈ m) → l.length ≤ m.length
  | [], m, _, _ => Nat.zero_le _
  | x :: l, m, nd, h => by
    have hx := h x List.mem_cons_self
    have ih := nodup_le (m := m.erase x) (List.nodup_cons.mp nd).2 fun y hy => by
      have hne : y ≠ x := fun z => (List.nodup_cons.mp nd).1 (z ▸ hy)
      exact (List.mem_erase_of_ne hne).mpr (h y (List.mem_cons_of_mem _ hy))
    rw [List.length_erase_of_mem hx] at ih
    have : 0 < m.length := List.length_pos_of_mem hx
    simp only [List.length_cons]
    omega
end FL
namespace K30
open PySem PySem.Spec PyProof.Rows L2 FL
def upto (n : Nat) : List Int := (List.range n).map fun i : Nat => (i : Int)
theorem mem_upto {n : Nat} {v : Int} : v ∈ upto n ↔ 0 ≤ v ∧ v < n := by
  unfold upto
  rw [List.mem_map]
  constructor
  · rintro ⟨i, hi, rfl⟩
    have := List.mem_range.mp hi
    omega
  · rintro ⟨h1, h2⟩
    exact ⟨v.toNat, List.mem_range.mpr (by omega), by omega⟩
theorem upto_nd (n : Nat) : (upto n).Nodup := by
  unfold upto
  rw [List.Nodup, List.pairwise_map]
  exact List.nodup_range.imp fun {a b} h z => h (by omega)
def rdyC (A : List (Int × Int)) (outs : List Int) (v : Int) : Bool := !decide (v ∈ outs) && (((A.filter fun p => decide (p.2 = v)).map fun p => decide (p.1 ∈ outs)).all id)
def rdy (n : Nat) (A : List (Int × Int)) (outs : List Int) : List Int := (upto n).filter (rdyC A outs)
theorem ready_of {n : Nat} {A : List (Int × Int)} {outs : List Int} {o3 : Option D} (hn : n ≤ 100) (hA : A.length ≤ 1000) :
    rLc (iRgR rng1 (rCons (rVar 0) rNil)) (setN 4) (rAnd (rB (rBin g_nin (rVar 4) (rVar 2))) (rTru (rCal gAll (rCons (rLc (iTupR (rVar 1)) (setTup [(setN 5), (setN 6)]) (rB (rBin g_eq (rVar 6) (rVar 4))) (rBin g_in_ (rVar 5) (rVar 2)) [5, 6]) rNil)))) (rVar 4) [4]
      [some (.int n), some (.tup (A.map eP)), some (.rf 0), o3, none, none, none] [.lst (outs.map .int)] = some (.fl ((rdy n A outs).map .int)) := by
  have h := rlc_of (δ := [some (.int n), some (.tup (A.map eP)), some (.rf 0), o3, none, none, none]) (G := [.lst (outs.map .int)]) (src := iRgR rng1 (rCons (rVar 0) rNil)) (set := setN 4) (vs := [4])
    (cond := rAnd (rB (rBin g_nin (rVar 4) (rVar 2))) (rTru (rCal gAll (rCons (rLc (iTupR (rVar 1)) (setTup [(setN 5), (setN 6)]) (rB (rBin g_eq (rVar 6) (rVar 4))) (rBin g_in_ (rVar 5) (rVar 2)) [5, 6]) rNil)))) (elt := rVar 4)
    (fun i : Nat => D.int (0 + (i : Int))) (fun i => [some (.int n), some (.tup (A.map eP)), some (.rf 0), o3, some (.int (0 + (i : Int))), none, none]) (fun i => rdyC A outs (0 + (i : Int))) (fun i => .int (0 + (i : Int))) (List.range (n : Int).toNat)
    (rg1_of (var_of rfl) (by omega) (by omega)) (by rw [List.length_range]; omega) fun i hi => by
      refine ⟨rfl, and_of (b := !decide (0 + (i : Int) ∈ outs)) (b_of (bin_of (var_of rfl) (var_of rfl) (in_ints (xs := outs) rfl true))) fun _ => tru_of (d := .bl (((A.filter fun p => decide (p.2 = 0 + (i : Int))).map fun p => decide (p.1 ∈ outs)).all id)) (cal1_of (rlc_of eP
        (fun p => [some (.int n), some (.tup (A.map eP)), some (.rf 0), o3, some (.int (0 + (i : Int))), some (.int p.1), some (.int p.2)]) (fun p => decide (p.2 = 0 + (i : Int))) (fun p => .bl (decide (p.1 ∈ outs))) A (itup_of (var_of rfl)) (by omega)
          fun p hp => ⟨rfl, b_of (bin_of (var_of rfl) (var_of rfl) (eq_ii _ _)), fun _ => bin_of (var_of rfl) (var_of rfl) (in_ints (xs := outs) rfl false)⟩) ?_) rfl, fun _ => var_of rfl⟩
      rw [show ((A.filter fun p => decide (p.2 = 0 + (i : Int))).map fun p => D.bl (decide (p.1 ∈ outs))) = ((A.filter fun p => decide (p.2 = 0 + (i : Int))).map fun p => decide (p.1 ∈ outs)).map D.bl by rw [List.map_map]; rfl]
      exact all_bl _
  rw [h]
  congr 2
  unfold rdy upto
  rw [List.filter_map, List.map_map]
  have e : ∀ i : Nat, (0 + (i : Int)) = (i : Int) := fun i => by omega
  simp only [e, Function.comp_def, Int.toNat_natCast]
theorem ordered_go {n : Nat} {A : List (Int × Int)} (hn : n ≤ 100) (hA : A.length ≤ 1000) : ∀ (m : Nat) (outs : List Int) (o3 : Option D), outs.Nodup → (∀ v ∈ outs, v ∈ upto n) → n - outs.length = m →
    ∃ outs' δ G, whileS (ofRT (rTru (rC (.bl true))))
   (sSeq (sAsg (ofR (rLc (iRgR rng1 (rCons (rVar 0) rNil)) (setN 4) (rAnd (rB (rBin g_nin (rVar 4) (rVar 2))) (rTru (rCal gAll (rCons (rLc (iTupR (rVar 1)) (setTup [(setN 5), (setN 6)]) (rB (rBin g_eq (rVar 6) (rVar 4))) (rBin g_in_ (rVar 5) (rVar 2)) [5, 6]) rNil)))) (rVar 4) [4])) (setN 3))
   (sSeq (sIf (ofRT (rNot (rTru (rVar 3))))
    (sRet (ofR (rCal gTuple (rCons (rVar 2) rNil))))
    sNil)
   (sExp (eMet gAppend (rVar 2) (eCons (ofR (rBin ixA (rVar 3) (rC (.int 0)))) (ofRA rNil)))))) [some (.int n), some (.tup (A.map eP)), some (.rf 0), o3, none, none, none] [.lst (outs.map .int)] = some (.rt (.tup (outs'.map .int)), δ, G) ∧ outs'.Nodup ∧ (∀ v ∈ outs', v ∈ upto n) ∧ rdy n A outs' = [] := by
  intro m
  induction m using Nat.strongRecOn with
  | _ m ih =>
    intro outs o3 nd sub hm
    have hr := ready_of (o3 := o3) (outs := outs) hn hA
    cases hy : rdy n A outs with
    | nil =>
      rw [hy] at hr
      refine ⟨outs, _, _, while_rt (G1 := [.lst (outs.map .int)]) rfl ((sq_nx (asg_of (ofR_of hr) (by simp))).trans (sq_rt ((if_t (ofRT_of (not_t (tru_of (var_of rfl) rfl)))).trans (ret_of (ofR_of (cal1_of (var_of rfl) rfl)))))), nd, sub, hy⟩
    | cons v r =>
      rw [hy] at hr
      have hv : v ∈ rdy n A outs := by rw [hy]; exact List.mem_cons_self
      have hv1 := List.mem_filter.mp hv
      have hv2 : v ∉ outs := by
        have := hv1.2
        unfold rdyC at this
        rw [Bool.and_eq_true] at this
        simpa using this.1
      have nd' : (outs ++ [v]).Nodup := by
        rw [List.nodup_append]
        exact ⟨nd, by simp, fun a ha b hb z => by
          have : b = v := by simpa using hb
          subst this
          subst z
          exact hv2 ha⟩
      have sub' : ∀ w ∈ outs ++ [v], w ∈ upto n := fun w hw => by
        rcases List.mem_append.mp hw with hw | hw
        · exact sub w hw
        · have : w = v := by simpa using hw
          subst this
          exact hv1.1
      have hlen := nodup_le nd' sub'
      have hln : (upto n).length = n := by simp [upto]
      rw [hln, List.length_append, List.length_singleton] at hlen
      obtain ⟨outs', δ, G, e, h1, h2, h3⟩ := ih (n - (outs ++ [v]).length) (by rw [List.length_append, List.length_singleton]; omega) (outs ++ [v]) (some (.fl ((v :: r).map .int))) nd' sub' rfl
      refine ⟨outs', δ, G, ?_, h1, h2, h3⟩
      rw [while_nx (G1 := [.lst (outs.map .int)]) rfl ((sq_nx (asg_of (ofR_of hr) (by simp))).trans ((sq_nx (if_f (ofRT_of (not_f (tru_of (var_of rfl) rfl))))).trans (exp_of (G1 := [.lst ((outs ++ [v]).map .int)]) (d := .non) ?_)))]
      · exact e
      · exact app_of (xs := outs.map .int) (var_of rfl) rfl (econs1_of (ofR_of (bin_of (var_of rfl) c_of ((ixA_fl _ _).trans (at_0 _ _))))) rfl (by rw [List.length_map]; omega) |>.trans (by rw [List.map_append]; rfl)
end K30
namespace FL
theorem fnI_of {x : PySem.Str} {n : Nat} {is : List Nat} {body : SS} {ds out : List D} {δ : Env'} {G : Hs} (h : body (slots n (.rf 0 :: ds)) [.ins x [] []] = some (.nx, δ, G)) (hg : G[0]? = some (.ins x [] [])) (h0 : δ[0]? = some (some (.rf 0))) (hp : pickD δ is = some out)   : fnI x n is body ds = some out := by
  unfold fnI
  rw [h]
  simp only [Option.bind_some, h0, hg, hp, if_true]
end FL
namespace K30
open PySem PySem.Spec PyProof.Rows L2 FL
structure Good (n : Nat) (A T : List (Int × Int)) : Prop where
  n1 : 2 ≤ n
  n2 : n ≤ 6
  aS : A.Pairwise ltP
  tS : T.Pairwise ltP
  aR : ∀ p ∈ A, 0 ≤ p.1 ∧ p.1 < n ∧ 0 ≤ p.2 ∧ p.2 < n ∧ p.1 ≠ p.2
  tR : ∀ p ∈ T, 0 ≤ p.1 ∧ p.1 < p.2 ∧ p.2 < n
  aL : A.length ≤ 15
  tL : T.length ≤ 6
  pos : ∃ pos : Int → Nat, ∀ p ∈ A, pos p.1 < pos p.2
def eW (n : Nat) (A T : List (Int × Int)) : D := .tup [.int n, .tup (A.map eP), .tup (T.map eP)]
def eM (n : Nat) (A T : List (Int × Int)) : D := .obj "Web" ["many", "arrows", "ties"] [.int n, .tup (A.map eP), .tup (T.map eP)]
theorem eW_im (n : Nat) (A T : List (Int × Int)) : (eW n A T).im = true := by simp [eW, D.im, ims, ims_map eP_im]
theorem eM_im (n : Nat) (A T : List (Int × Int)) : (eM n A T).im = true := by simp [eM, D.im, ims, ims_map eP_im]
section
variable {n : Nat} {A T : List (Int × Int)}
theorem rdy_nil (g : Good n A T) {outs : List Int} (h : rdy n A outs = []) : ∀ v ∈ upto n, v ∈ outs := by
  obtain ⟨pos, hp⟩ := g.pos
  have main : ∀ (k : Nat) (v : Int), pos v = k → v ∈ upto n → v ∈ outs := by
    intro k
    induction k using Nat.strongRecOn with
    | _ k ih =>
      intro v hk hv
      apply Classical.byContradiction
      intro hn
      have : v ∈ rdy n A outs := by
        refine List.mem_filter.mpr ⟨hv, ?_⟩
        unfold rdyC
        rw [Bool.and_eq_true]
        refine ⟨by simpa using hn, ?_⟩
        rw [List.all_eq_true]
        intro b hb
        obtain ⟨p, hpm, rfl⟩ := List.mem_map.mp hb
        obtain ⟨hpA, hpv⟩ := List.mem_filter.mp hpm
        have hpv : p.2 = v := of_decide_eq_true hpv
        have h1 := g.aR p hpA
        have h2 := hp p hpA
        rw [hpv, hk] at h2
        exact decide_eq_true (ih (pos p.1) h2 p.1 rfl (mem_upto.mpr ⟨h1.1, h1.2.1⟩))
      rw [h] at this
      simp at this
  exact fun v hv => main (pos v) v rfl hv
theorem ordered_P (g : Good n A T) : ∃ outs : List Int, f_ordered [.int n, .tup (A.map eP)] = some (.tup (outs.map .int)) ∧ n ≤ outs.length := by
  have hA := g.aL
  have hn := g.n2
  obtain ⟨outs, δ, G, e, h1, h2, h3⟩ := ordered_go (n := n) (A := A) (by omega) (by omega) (n - 0) [] none List.nodup_nil (by simp) rfl
  refine ⟨outs, fnP_of ((sq_nx (asg_of (G1 := [.lst []]) rfl (by simp [slots]))).trans e) (by simp [D.im, ims_map (e := D.int) (fun _ => rfl)]), ?_⟩
  have := nodup_le (upto_nd n) (rdy_nil g h3)
  simpa [upto] using this

theorem web_P (g : Good n A T) : f_Web [.int n, .tup (A.map eP), .tup (T.map eP)] = some (eM n A T) := by
  have hA := g.aL
  have hT := g.tL
  have hn := g.n2
  have hn1 := g.n1
  obtain ⟨outs, ho, hol⟩ := ordered_P g
  have h1 : f_is_between [.int n, .int 1, c_MOST_VARIABLES] = some (.bl true) := by
    rw [c_MOST_VARIABLES, is_between_int]
    have a1 : (1 : Int) ≤ n := by omega
    have a2 : (n : Int) ≤ 6 := by omega
    simp [a1, a2]
  have h2 : f_are_pairs [.int n, .tup (A.map eP)] = some (.bl true) := are_pairs_P g.aS (by omega) g.aR
  have h3 : f_are_pairs [.int n, .tup (T.map eP)] = some (.bl true) := are_pairs_P g.tS (by omega) fun p hp => by
    have := g.tR p hp
    exact ⟨by omega, by omega, by omega, by omega, by omega⟩
  have l1 : g_ltA [.ins "Web" [] []] (.int ((outs.map D.int).length : Int)) (.int n) = some (.bl false) := by
    rw [lt_ii]
    congr 2
    rw [decide_eq_false_iff_not, List.length_map]
    omega
  have l2 : g_gtA [.ins "Web" [] []] (.int ((T.map eP).length : Int)) c_MOST_TIES = some (.bl false) := by
    rw [c_MOST_TIES, gt_ii]
    congr 2
    rw [decide_eq_false_iff_not, List.length_map]
    omega
  have hany : rLc (iTupR (rVar 3)) (setTup [(setN 4), (setN 5)]) cYes (rBin g_gtA (rVar 4) (rVar 5)) [4, 5] (slots 6 [.rf 0, .int n, .tup (A.map eP), .tup (T.map eP)]) [.ins "Web" [] []] = some (.fl ((T.map fun _ => false).map .bl)) := by
    have h := rlc_of (δ := slots 6 [.rf 0, .int n, .tup (A.map eP), .tup (T.map eP)]) (G := [.ins "Web" [] []]) (src := iTupR (rVar 3)) (set := setTup [(setN 4), (setN 5)]) (cond := cYes) (elt := rBin g_gtA (rVar 4) (rVar 5)) (vs := [4, 5])
      eP (fun p => [some (.rf 0), some (.int n), some (.tup (A.map eP)), some (.tup (T.map eP)), some (.int p.1), some (.int p.2)]) (fun _ => true) (fun _ => .bl false) T (itup_of (var_of rfl)) (by omega) fun p hp => ⟨rfl, rfl, fun _ => bin_of (var_of rfl) (var_of rfl) (by
        rw [gt_ii]
        congr 2
        have := g.tR p hp
        rw [decide_eq_false_iff_not]
        omega)⟩
    rw [h, List.filter_eq_self.mpr (fun _ _ => rfl), List.map_map]
    rfl
  have hi : fnI "Web" 6 [1, 2, 3] b_Web [.int n, .tup (A.map eP), .tup (T.map eP)] = some [.int n, .tup (A.map eP), .tup (T.map eP)] := by
    refine fnI_of ((sq_nx (if_f (ofRT_of (not_f (tru_of (callP_of (ds := [.int n, .int 1, c_MOST_VARIABLES]) (cons_of (var_of rfl) (cons_of c_of (cons_of c_of nil_of))) rfl rfl h1) rfl))))).trans
      ((sq_nx (if_f (ofRT_of (or_of (b := false) (c := false) (not_f (tru_of (callP_of (ds := [.int n, .tup (A.map eP)]) (cons_of (var_of rfl) (cons_of (var_of rfl) nil_of)) (by simp [ims, D.im, ims_map eP_im]) rfl h2) rfl)) fun _ =>
        b_of (bin_of (cal1_of (callP_of (ds := [.int n, .tup (A.map eP)]) (cons_of (var_of rfl) (cons_of (var_of rfl) nil_of)) (by simp [ims, D.im, ims_map eP_im]) rfl ho) (len_tup _)) (var_of rfl) l1))))).trans
      ((sq_nx (if_f (ofRT_of (or_of (b := false) (c := false) (not_f (tru_of (callP_of (ds := [.int n, .tup (T.map eP)]) (cons_of (var_of rfl) (cons_of (var_of rfl) nil_of)) (by simp [ims, D.im, ims_map eP_im]) rfl h3) rfl)) fun _ =>
        b_of (bin_of (cal1_of (var_of rfl) (len_tup _)) c_of l2))))).trans
      ((sq_nx (if_f (ofRT_of (tru_of (d := .bl false) (cal1_of hany ((any_bl _).trans (by congr 2; rw [List.any_map]; simp))) rfl)))).trans rfl)))) rfl rfl rfl
  unfold f_Web mkF
  rw [hi, Option.bind_some, if_pos ⟨by simp [ims, D.im, ims_map eP_im], rfl, by decide⟩]
  rfl
theorem made_P (g : Good n A T) : f__law_made [eW n A T] = some (eM n A T) := by
  refine fnP_of (ret_of (ofR_of (callP_of (ds := [.int n, .tup (A.map eP), .tup (T.map eP)]) (cons_of (bin_of (var_of rfl) c_of ((ixA_tup _ _).trans (at_0 _ _))) (cons_of (bin_of (var_of rfl) c_of ((ixA_tup _ _).trans (at_1 _ _ _))) (cons_of (bin_of (var_of rfl) c_of ((ixA_tup _ _).trans (at_2 _ _ _ _))) nil_of))) (by simp [ims, D.im, ims_map eP_im]) rfl (web_P g)))) (eM_im n A T)
end
end K30
namespace FL
open PySem PySem.Spec PyProof.Rows L2
theorem eqb_str (a b : Str) : eqb (.str a) (.str b) = decide (a = b) := by
  show PyData.eqv (.str a) (.str b) = _
  simp only [PyData.eqv]
  by_cases h : a = b
  · subst h; simp
  · simp [h]
theorem eqb_int_str (a : Int) (b : Str) : eqb (.int a) (.str b) = false := by
  show PyData.eqv (.int a) (.str b) = _
  simp [PyData.eqv]
theorem eqb_str_int (a : Int) (b : Str) : eqb (.str b) (.int a) = false := by
  show PyData.eqv (.str b) (.int a) = _
  simp [PyData.eqv]
theorem eq_of {G : Hs} {x y : D} (hx : x.ok = true) (hy : y.ok = true) (dx : x.dep ≤ 60) (dy : y.dep ≤ 60) : g_eq G x y = some (.bl (eqb x y)) := by
  show fEq G x y = _
  unfold fEq
  rw [if_pos ⟨⟨hx, hy⟩, dx, dy⟩]
theorem ne_of' {G : Hs} {x y : D} (hx : x.ok = true) (hy : y.ok = true) (dx : x.dep ≤ 60) (dy : y.dep ≤ 60) : g_ne G x y = some (.bl (!eqb x y)) := by
  show fNe G x y = _
  unfold fNe
  rw [if_pos ⟨⟨hx, hy⟩, dx, dy⟩]
theorem in_of {G : Hs} {x y : D} {ds : List D} (hs : seqG G y = some ds) (hx : x.ok = true) (hy : oks ds = true) (dx : x.dep ≤ 60) (dy : deps ds ≤ 59) (neg : Bool) : fIn neg G x y = some (.bl (if neg = true then !inB x ds else inB x ds)) := by
  unfold fIn
  rw [hs, Option.bind_some, if_pos ⟨⟨hx, hy⟩, dx, dy⟩]
/-- a loop that leaves by False -/
theorem forL_all {set : Sets} {b : SS} {G : Hs} (c : Nat → Bool) (e : Nat → D) (P : Env' → Prop) : ∀ (ks : List Nat) (δ : Env'), P δ →
    (∀ k ∈ ks, ∀ δ, P δ → ∃ δ1, set (e k) δ = some δ1 ∧ ∃ δ2, P δ2 ∧ b δ1 G = if c k = true then some (.nx, δ2, G) else some (.rt (.bl false), δ2, G)) →
    ∃ δ', P δ' ∧ forL set b (ks.map e) δ G = if ks.all c = true then some (.nx, δ', G) else some (.rt (.bl false), δ', G)
  | [], δ, hP, _ => ⟨δ, hP, by simp [forL]⟩
  | k :: ks, δ, hP, h => by
    obtain ⟨δ1, h1, δ2, h2, h3⟩ := h k List.mem_cons_self δ hP
    rw [List.map_cons]
    cases hc : c k with
    | true =>
      obtain ⟨δ', h4, h5⟩ := forL_all c e P ks δ2 h2 fun k hk => h k (List.mem_cons_of_mem _ hk)
      refine ⟨δ', h4, ?_⟩
      rw [forL, h1, Option.bind_some, h3, hc, if_pos rfl, Option.bind_some, List.all_cons, hc, Bool.true_and]
      exact h5
    | false =>
      refine ⟨δ2, h2, ?_⟩
      rw [forL, h1, Option.bind_some, h3, hc, if_neg (by simp), Option.bind_some, List.all_cons, hc, Bool.false_and, if_neg (by simp)]
theorem rg3_of {δ : Env'} {G : Hs} {fa fb fc : RE} {i j : Int} {m : Nat} (ha : fa δ G = some (.int i)) (hb : fb δ G = some (.int j)) (hc : fc δ G = some (.int 2)) (hi : 0 ≤ i ∧ i ≤ 1000) (hj : -1000 ≤ j ∧ j ≤ 1000) (hm : Builtin.Range.rangeSize i j 2 = m) :
    iRgR rng3 (rCons fa (rCons fb (rCons fc rNil))) δ G = some ((List.range m).map fun k : Nat => .int (i + (k : Int) * 2)) := by
  have hs : Builtin.Range.small i j 2 = true := by
    unfold Builtin.Range.small Builtin.Range.rangeSize
    simp only [Builtin.Range.rangeFitsLong, Bool.and_eq_true, Bool.or_eq_true, decide_eq_true_eq, beq_iff_eq, show ((2 : Int) > 0) from by decide, if_true]
    split <;> omega
  simp only [iRgR, rCons, rNil, ha, hb, hc, Option.bind_some, rng3]
  rw [if_pos ⟨by decide, by decide, hs, by rw [hm]; omega⟩, hm]
  rfl
end FL
namespace K30
open PySem PySem.Spec PyProof.Rows L2 FL
inductive Kd where | to | fr | ti
deriving DecidableEq
def Kd.s : Kd → Str | .to => "to" | .fr => "from" | .ti => "tie"
inductive I0 where | v (i : Int) | k (k : Kd)
deriving DecidableEq
def eI : I0 → D | .v i => .int i | .k k => .str k.s
theorem Kd.inj (a b : Kd) : decide (a.s = b.s) = decide (a = b) := by cases a <;> cases b <;> decide +kernel
theorem Kd.ok (a : Kd) : (D.str a.s).ok = true := by cases a <;> decide +kernel
theorem eI_ok (x : I0) : (eI x).ok = true := by
  cases x with
  | v i => rfl
  | k k => exact k.ok
theorem eI_dep (x : I0) : (eI x).dep ≤ 0 := by cases x <;> exact Nat.le_refl _
theorem eI_im (x : I0) : (eI x).im = true := by cases x <;> rfl
theorem eI_eqb (x y : I0) : eqb (eI x) (eI y) = decide (x = y) := by
  cases x with
  | v i => cases y with
    | v j => simp [eI, eqb_int]
    | k l => simp [eI, eqb_int_str]
  | k a => cases y with
    | v j => simp [eI, eqb_str_int]
    | k b =>
      show eqb (.str a.s) (.str b.s) = _
      rw [eqb_str, Kd.inj]
      simp
section
variable {n : Nat} {A T : List (Int × Int)}
theorem is_variable_v (v : Int) : f_is_variable [eM n A T, .int v] = some (.bl (decide (0 ≤ v) && decide (v < n))) :=
  fnP_of (ret_of (ofR_of (callP_of (ds := [.int v, .int n]) (cons_of (var_of rfl) (cons_of (attr_of (var_of rfl) rfl) nil_of)) rfl rfl (is_under_int v n)))) rfl
theorem is_variable_k (k : Kd) : f_is_variable [eM n A T, .str k.s] = some (.bl false) :=
  fnP_of (ret_of (ofR_of (callP_of (ds := [.str k.s, .int n]) (cons_of (var_of rfl) (cons_of (attr_of (var_of rfl) rfl) nil_of)) rfl rfl (is_under_str k.s n)))) rfl
/-- an edge as the law has it -/
def edge (A T : List (Int × Int)) (a : Int) : Kd → Int → Bool
  | .to, b => decide ((a, b) ∈ A)
  | .fr, b => decide ((b, a) ∈ A)
  | .ti, b => decide ((min a b, max a b) ∈ T)
theorem in_P {G : Hs} {y : D} {L : List (Int × Int)} {p : Int × Int} (hs : seqG G y = some (L.map eP)) (neg : Bool) : fIn neg G (eP p) y = some (.bl (if neg = true then !decide (p ∈ L) else decide (p ∈ L))) := by
  have hd := deps_map (e := eP) (n := 1) (fun _ => Nat.le_refl _) L
  rw [in_of hs (eP_ok p) (oks_map eP_ok L) (by rw [eP_dep]; omega) (by omega) neg, inB_map (fun x => eqb_P x p)]
  congr 2
  cases neg <;> simp
theorem eq_kk {G : Hs} (a b : Kd) : g_eq G (.str a.s) (.str b.s) = some (.bl (decide (a = b))) := by
  rw [eq_of a.ok b.ok (Nat.zero_le _) (Nat.zero_le _), eqb_str, Kd.inj]
theorem edge_fits_P (a b : Int) (k : Kd) : f_edge_fits [eM n A T, .int a, .str k.s, .int b] = some (.bl (edge A T a k b)) := by
  have e1 : ∀ G, g_eq G (.str k.s) (.str "to") = some (.bl (decide (k = .to))) := fun G => eq_kk k .to
  have e2 : ∀ G, g_eq G (.str k.s) (.str "from") = some (.bl (decide (k = .fr))) := fun G => eq_kk k .fr
  cases k with
  | to => exact fnP_of (sq_rt ((if_t (ofRT_of (b_of (bin_of (var_of rfl) c_of (e1 _))))).trans (ret_of (ofR_of (bin_of (tup_of (cons_of (var_of rfl) (cons_of (var_of rfl) nil_of)) (by simp)) (attr_of (var_of rfl) rfl) (in_P (p := (a, b)) (L := A) rfl false)))))) rfl
  | fr => exact fnP_of ((sq_nx (if_f (ofRT_of (b_of (bin_of (var_of rfl) c_of (e1 _)))))).trans (sq_rt ((if_t (ofRT_of (b_of (bin_of (var_of rfl) c_of (e2 _))))).trans (ret_of (ofR_of (bin_of (tup_of (cons_of (var_of rfl) (cons_of (var_of rfl) nil_of)) (by simp)) (attr_of (var_of rfl) rfl) (in_P (p := (b, a)) (L := A) rfl false))))))) rfl
  | ti =>
    refine fnP_of ((sq_nx (if_f (ofRT_of (b_of (bin_of (var_of rfl) c_of (e1 _)))))).trans ((sq_nx (if_f (ofRT_of (b_of (bin_of (var_of rfl) c_of (e2 _)))))).trans (ret_of (ofR_of (bin_of (tup_of (cons_of (cal2_of (x := .int a) (y := .int b) (d := .int (min a b)) (var_of rfl) (var_of rfl) ?_) (cons_of (cal2_of (x := .int a) (y := .int b) (d := .int (max a b)) (var_of rfl) (var_of rfl) ?_) nil_of)) (by simp)) (attr_of (var_of rfl) rfl) (in_P (p := (min a b, max a b)) (L := T) rfl false)))))) rfl
    · show some (D.int (if b < a then b else a)) = _
      congr 2
      omega
    · show some (D.int (if b > a then b else a)) = _
      congr 2
      omega
end
end K30
namespace FL
open PySem PySem.Spec PyProof.Rows L2
/-- every second item -/
def ev2 {α : Type} (xs : List α) : List α := (List.range ((xs.length + 1) / 2)).filterMap fun k => xs[2 * k]?
theorem adj2 (l : Nat) : Builtin.Slice.sliceAdjust none none 2 (l : Int) = (0, (l : Int)) := by
  unfold Builtin.Slice.sliceAdjust
  simp
theorem plc2 (l : Nat) : Builtin.Slice.slicePlaces 0 (l : Int) 2 = (l + 1) / 2 := by
  unfold Builtin.Slice.slicePlaces
  simp only [show ((2 : Int) > 0) from by decide, if_true]
  split <;> omega
theorem stepL2 {α : Type} (xs : List α) : stepL xs none none 2 = ev2 xs := by
  unfold stepL ev2
  rw [adj2]
  simp only [plc2]
  congr 1
  funext k
  congr 1
  omega
theorem stepC2 {α : Type} (xs : List α) : stepC xs none none 2 = (xs.length + 1) / 2 := by
  unfold stepC
  rw [adj2]
  exact plc2 _
theorem ev2_map {α β : Type} (f : α → β) (xs : List α) : ev2 (xs.map f) = (ev2 xs).map f := by
  unfold ev2
  rw [List.map_filterMap, List.length_map]
  congr 1
  funext k
  rw [List.getElem?_map]
theorem st2_of {δ : Env'} {G : Hs} {fa : RE} {ds : List D} (h : fa δ G = some (.tup ds)) (hl : ds.length ≤ 1000) : rSt fa (partD none) (partD none) (partD (some (rC (.int 2)))) δ G = some (.tup (ev2 ds)) := by
  simp only [rSt, h, Option.bind_some, partD, rC]
  rw [if_pos ⟨by decide, by decide, by rw [stepC2]; omega⟩, stepL2]
theorem ev2_len {α : Type} (xs : List α) : (ev2 xs).length ≤ xs.length := by
  unfold ev2
  refine Nat.le_trans (List.length_filterMap_le _ _) ?_
  rw [List.length_range]
  omega
theorem ev2_all {α : Type} (p : α → Bool) (q : Option α → Bool) (h : ∀ x, q (some x) = p x) (xs : List α) : (ev2 xs).all p = (List.range ((xs.length + 1) / 2)).all fun k => q xs[2 * k]? := by
  unfold ev2
  rw [Bool.eq_iff_iff, List.all_eq_true, List.all_eq_true]
  constructor
  · intro hh k hk
    have hk := List.mem_range.mp hk
    have e : xs[2 * k]? = some (xs[2 * k]'(by omega)) := List.getElem?_eq_getElem (by omega)
    rw [e, h]
    exact hh _ (List.mem_filterMap.mpr ⟨k, List.mem_range.mpr hk, e⟩)
  · intro hh x hx
    obtain ⟨k, hk, e⟩ := List.mem_filterMap.mp hx
    have := hh k hk
    rw [e, h] at this
    exact this
theorem for_nx {src : EA} {set : Sets} {b : SS} {δ : Env'} {G G1 : Hs} {ds : List D} (h : src δ G = some (ds, G1)) : sFor src set b δ G = forL set b ds δ G1 := by
  unfold sFor
  rw [h]
  rfl
theorem ofRA_of {f : RA} {δ : Env'} {G : Hs} {ds : List D} (h : f δ G = some ds) : ofRA f δ G = some (ds, G) := by
  unfold ofRA
  rw [h]
  rfl
end FL
namespace K30
open PySem PySem.Spec PyProof.Rows L2 FL
def isVx (n : Nat) : I0 → Bool | .v a => decide (0 ≤ a) && decide (a < n) | _ => false
def isV (n : Nat) : Option I0 → Bool | some x => isVx n x | none => false
def edO (A T : List (Int × Int)) : Option I0 → Option I0 → Option I0 → Bool | some (.v a), some (.k k), some (.v b) => edge A T a k b | _, _, _ => false
def szOK (l : Nat) : Bool := decide (l % 2 = 1 ∧ 3 ≤ l ∧ l ≤ 81)
def edges (A T : List (Int × Int)) (its : List I0) : Bool := (List.range ((its.length - 1) / 2)).all fun i => edO A T its[2 * i]? its[2 * i + 1]? its[2 * i + 2]?
def Wk (n : Nat) (A T : List (Int × Int)) (its : List I0) : Bool := szOK its.length && ((ev2 its).all (isVx n) && edges A T its)
section
variable {n : Nat} {A T : List (Int × Int)}
theorem is_variable_x (x : I0) : f_is_variable [eM n A T, eI x] = some (.bl (isVx n x)) := by
  cases x with
  | v a => exact is_variable_v a
  | k k => exact is_variable_k k
theorem kinds_in {G : Hs} (k : Kd) : g_nin G (.str k.s) c_KINDS = some (.bl false) := by
  have e : fIn true G (.str k.s) c_KINDS = _ := in_of (ds := [.str "to", .str "from", .str "tie"]) rfl k.ok (by decide +kernel) (Nat.zero_le _) (by decide +kernel) true
  rw [show g_nin G (.str k.s) c_KINDS = fIn true G (.str k.s) c_KINDS from rfl, e]
  congr 2
  cases k <;> decide +kernel
theorem len_of_map (its : List I0) : ((its.map eI).length : Int) = its.length := by rw [List.length_map]
theorem mem_ev2_some {its : List I0} (h : (ev2 its).all (isVx n) = true) {i : Nat} (hi : 2 * i < its.length) : ∃ a : Int, its[2 * i]? = some (.v a) := by
  have e : its[2 * i]? = some its[2 * i] := List.getElem?_eq_getElem hi
  have := List.all_eq_true.mp h its[2 * i] (List.mem_filterMap.mpr ⟨i, List.mem_range.mpr (by omega), e⟩)
  cases hx : its[2 * i] with
  | v a => exact ⟨a, by rw [e, hx]⟩
  | k k => rw [hx] at this; cases this
theorem is_walk_P (its : List I0) (hl : its.length ≤ 200) : f_is_walk [eM n A T, .tup (its.map eI)] = some (.bl (Wk n A T its)) := by
  have hsz : ∀ δ : Env', δ[1]? = some (some (.tup (its.map eI))) → rOr (rNot (rTru (rIsT (isTy "tuple") (rVar 1)))) (rOr (rB (rBin g_eq (rBin g_mod (rCal gLen (rCons (rVar 1) rNil)) (rC (.int 2))) (rC (.int 0)))) (rNot (rB (rChn g_le g_le (rC (.int 3)) (rCal gLen (rCons (rVar 1) rNil)) (rBin g_addA (rBin g_mulA (rC (.int 2)) (rC c_MOST_STEPS)) (rC (.int 1))))))) δ [] = some (!szOK its.length) := by
    intro δ h
    have e := or_of (t := rNot (rTru (rIsT (isTy "tuple") (rVar 1)))) (u := rOr (rB (rBin g_eq (rBin g_mod (rCal gLen (rCons (rVar 1) rNil)) (rC (.int 2))) (rC (.int 0)))) (rNot (rB (rChn g_le g_le (rC (.int 3)) (rCal gLen (rCons (rVar 1) rNil)) (rBin g_addA (rBin g_mulA (rC (.int 2)) (rC c_MOST_STEPS)) (rC (.int 1))))))) (b := false) (c := !szOK its.length) (not_f (tru_of (isT_of (var_of (G := []) h) rfl) rfl)) fun _ => by
      have e2 := or_of (δ := δ) (G := []) (t := rB (rBin g_eq (rBin g_mod (rCal gLen (rCons (rVar 1) rNil)) (rC (.int 2))) (rC (.int 0)))) (b := decide ((its.length : Int) % 2 = 0)) (u := rNot (rB (rChn g_le g_le (rC (.int 3)) (rCal gLen (rCons (rVar 1) rNil)) (rBin g_addA (rBin g_mulA (rC (.int 2)) (rC c_MOST_STEPS)) (rC (.int 1)))))) (c := !(decide ((3 : Int) ≤ its.length) && decide ((its.length : Int) ≤ 81)))
        (b_of (bin_of (bin_of (cal1_of (var_of h) ((len_tup _).trans (by rw [len_of_map]))) c_of (mod_ii _ _ (by decide))) c_of (eq_ii _ _))) fun _ => not_of (b_of (chn_of c_of (cal1_of (var_of h) ((len_tup _).trans (by rw [len_of_map]))) (le_ii _ _) fun _ => ⟨bin_of (bin_of c_of c_of rfl) c_of (add_ii _ _), le_ii _ _⟩))
      rw [e2]
      congr 1
      unfold szOK
      rw [Bool.eq_iff_iff]
      simp only [Bool.or_eq_true, decide_eq_true_eq, Bool.not_eq_true', Bool.and_eq_false_iff, decide_eq_false_iff_not]
      omega
    rw [e]
    rfl
  unfold Wk
  have h0 := hsz (slots 5 [eM n A T, .tup (its.map eI)]) rfl
  cases hs : szOK its.length with
  | false =>
    rw [hs] at h0
    exact fnP_of (sq_rt ((if_t (ofRT_of h0)).trans (ret_of (ofR_of c_of)))) rfl
  | true =>
    rw [hs] at h0
    have hs' : its.length % 2 = 1 ∧ 3 ≤ its.length ∧ its.length ≤ 81 := of_decide_eq_true hs
    have hcmp : rTru (rLc (iTupR (rSt (rVar 1) (partD none) (partD none) (partD (some (rC (.int 2)))))) (setN 4) (rNot (rTru (rCallP 2 f_is_variable (rCons (rVar 0) (rCons (rVar 4) rNil))))) (rVar 4) [4]) (slots 5 [eM n A T, .tup (its.map eI)]) [] = some (!(ev2 its).all (isVx n)) := by
      refine tru_of (rlc_of (δ := slots 5 [eM n A T, .tup (its.map eI)]) eI (fun x => [some (eM n A T), some (.tup (its.map eI)), none, none, some (eI x)]) (fun x => !isVx n x) eI (ev2 its) (itup_of ((st2_of (var_of rfl) (by rw [List.length_map]; omega)).trans (by rw [ev2_map]))) (by have := ev2_len its; omega) fun x hx => ?_) ?_
      · exact ⟨rfl, not_of (tru_of (d := .bl (isVx n x)) (callP_of (ds := [eM n A T, eI x]) (cons_of (var_of rfl) (cons_of (var_of rfl) nil_of)) (by simp [ims, eM_im, eI_im]) rfl (is_variable_x x)) rfl), fun _ => var_of rfl⟩
      · show some (!(List.map eI (List.filter (fun x => !isVx n x) (ev2 its))).isEmpty) = _
        congr 1
        rw [List.isEmpty_map, Bool.eq_iff_iff]
        simp only [Bool.not_eq_true', List.isEmpty_eq_false_iff, ne_eq, List.filter_eq_nil_iff]
        rw [List.all_eq_false]
        simp
    cases hv : (ev2 its).all (isVx n) with
    | false =>
      rw [hv] at hcmp
      exact fnP_of ((sq_nx (if_f (ofRT_of h0))).trans (sq_rt ((if_t (ofRT_of hcmp)).trans (ret_of (ofR_of c_of))))) rfl
    | true =>
      rw [hv] at hcmp
      obtain ⟨δ', hP, hf⟩ := forL_all (set := setN 2) (G := []) (b := (sSeq (sAsg (ofR (rBin ixA (rVar 1) (rVar 2))) (setN 3))
   (sIf (ofRT (rOr (rNot (rTru (rIsT (isTy "str") (rVar 3)))) (rOr (rB (rBin g_nin (rVar 3) (rC c_KINDS))) (rNot (rTru (rCallP 4 f_edge_fits (rCons (rVar 0) (rCons (rBin ixA (rVar 1) (rBin g_sub (rVar 2) (rC (.int 1)))) (rCons (rVar 3) (rCons (rBin ixA (rVar 1) (rBin g_addA (rVar 2) (rC (.int 1)))) rNil))))))))))
    (sRet (ofR (rC (.bl false))))
    FL.sNil))) (fun i => edO A T its[2 * i]? its[2 * i + 1]? its[2 * i + 2]?) (fun k : Nat => D.int (1 + (k : Int) * 2)) (fun δ => ∃ o2 o3, δ = [some (eM n A T), some (.tup (its.map eI)), o2, o3, none]) (List.range ((its.length - 1) / 2)) (slots 5 [eM n A T, .tup (its.map eI)]) ⟨none, none, rfl⟩ (fun i hi δ hδ => by
        obtain ⟨o2, o3, rfl⟩ := hδ
        have hi := List.mem_range.mp hi
        obtain ⟨a, ea⟩ := mem_ev2_some hv (i := i) (by omega)
        obtain ⟨b, eb⟩ := mem_ev2_some hv (i := i + 1) (by omega)
        have eb' : its[2 * i + 2]? = some (.v b) := eb
        have ek : its[2 * i + 1]? = some its[2 * i + 1] := List.getElem?_eq_getElem (by omega)
        have i0 : ∀ G, ixA G (.tup (its.map eI)) (.int (1 + (i : Int) * 2 - 1)) = some (.int a) := fun G => by
          rw [ixA_tup, at_int _ (by omega), List.getElem?_map, show (1 + (i : Int) * 2 - 1).toNat = 2 * i by omega, ea]
          rfl
        have i2 : ∀ G, ixA G (.tup (its.map eI)) (.int (1 + (i : Int) * 2 + 1)) = some (.int b) := fun G => by
          rw [ixA_tup, at_int _ (by omega), List.getElem?_map, show (1 + (i : Int) * 2 + 1).toNat = 2 * i + 2 by omega, eb']
          rfl
        have i1 : ∀ G, ixA G (.tup (its.map eI)) (.int (1 + (i : Int) * 2)) = some (eI its[2 * i + 1]) := fun G => by
          rw [ixA_tup, at_int _ (by omega), List.getElem?_map, show (1 + (i : Int) * 2).toNat = 2 * i + 1 by omega, ek]
          rfl
        refine ⟨_, rfl, _, ⟨some (.int (1 + (i : Int) * 2)), some (eI its[2 * i + 1]), rfl⟩, ?_⟩
        refine (sq_nx (asg_of (ofR_of (bin_of (var_of rfl) (var_of rfl) (i1 _))) (by simp))).trans ?_
        rw [ea, eb', ek]
        cases hx : its[2 * i + 1] with
        | v c =>
          rw [if_neg (by simp [edO])]
          exact (if_t (ofRT_of (or_of (b := true) (c := true) (not_t (tru_of (isT_of (var_of rfl) rfl) rfl)) fun h => by cases h))).trans (ret_of (ofR_of c_of))
        | k k =>
          have t1 : rOr (rNot (rTru (rIsT (isTy "str") (rVar 3)))) (rOr (rB (rBin g_nin (rVar 3) (rC c_KINDS))) (rNot (rTru (rCallP 4 f_edge_fits (rCons (rVar 0) (rCons (rBin ixA (rVar 1) (rBin g_sub (rVar 2) (rC (.int 1)))) (rCons (rVar 3) (rCons (rBin ixA (rVar 1) (rBin g_addA (rVar 2) (rC (.int 1)))) rNil)))))))) [some (eM n A T), some (.tup (its.map eI)), some (.int (1 + (i : Int) * 2)), some (.str k.s), none] [] = some (false || (false || !edge A T a k b)) :=
            or_of (b := false) (not_f (tru_of (isT_of (var_of rfl) rfl) rfl)) fun _ => or_of (b := false) (b_of (bin_of (var_of rfl) c_of (kinds_in k))) fun _ => not_of (tru_of (d := .bl (edge A T a k b)) (callP_of (ds := [eM n A T, .int a, .str k.s, .int b]) (cons_of (var_of rfl) (cons_of (bin_of (var_of rfl) (bin_of (var_of rfl) c_of (sub_ii _ _)) (i0 _)) (cons_of (var_of rfl) (cons_of (bin_of (var_of rfl) (bin_of (var_of rfl) c_of (add_ii _ _)) (i2 _)) nil_of)))) (by simp [ims, eM_im, D.im]) rfl (edge_fits_P a b k)) rfl)
          show sIf _ _ _ [some (eM n A T), some (.tup (its.map eI)), some (.int (1 + (i : Int) * 2)), some (.str k.s), none] [] = if edge A T a k b = true then _ else _
          cases he : edge A T a k b with
          | true =>
            rw [he] at t1
            exact (if_f (ofRT_of t1)).trans rfl
          | false =>
            rw [he] at t1
            exact (if_t (ofRT_of t1)).trans (ret_of (ofR_of c_of)))
      have hfor := (for_nx (set := setN 2) (b := (sSeq (sAsg (ofR (rBin ixA (rVar 1) (rVar 2))) (setN 3))
   (sIf (ofRT (rOr (rNot (rTru (rIsT (isTy "str") (rVar 3)))) (rOr (rB (rBin g_nin (rVar 3) (rC c_KINDS))) (rNot (rTru (rCallP 4 f_edge_fits (rCons (rVar 0) (rCons (rBin ixA (rVar 1) (rBin g_sub (rVar 2) (rC (.int 1)))) (rCons (rVar 3) (rCons (rBin ixA (rVar 1) (rBin g_addA (rVar 2) (rC (.int 1)))) rNil))))))))))
    (sRet (ofR (rC (.bl false))))
    FL.sNil))) (ofRA_of (rg3_of (δ := slots 5 [eM n A T, .tup (its.map eI)]) (G := []) (fa := rC (.int 1)) (fb := rCal gLen (rCons (rVar 1) rNil)) (fc := rC (.int 2)) (m := (its.length - 1) / 2) (j := its.length) c_of (cal1_of (var_of rfl) ((len_tup _).trans (by rw [len_of_map]))) c_of (by decide) (by omega) (by
          unfold Builtin.Range.rangeSize
          simp only [show ((2 : Int) > 0) from by decide, if_true]
          split <;> omega)))).trans hf
      cases he : edges A T its with
      | true =>
        rw [if_pos (show ((List.range ((its.length - 1) / 2)).all fun i => edO A T its[2 * i]? its[2 * i + 1]? its[2 * i + 2]?) = true from he)] at hfor
        exact fnP_of ((sq_nx (if_f (ofRT_of h0))).trans ((sq_nx (if_f (ofRT_of hcmp))).trans ((sq_nx hfor).trans (ret_of (ofR_of c_of))))) rfl
      | false =>
        rw [if_neg (by rw [show ((List.range ((its.length - 1) / 2)).all fun i => edO A T its[2 * i]? its[2 * i + 1]? its[2 * i + 2]?) = edges A T its from rfl, he]; simp)] at hfor
        exact fnP_of ((sq_nx (if_f (ofRT_of h0))).trans ((sq_nx (if_f (ofRT_of hcmp))).trans (sq_rt hfor))) rfl
end
end K30
namespace FL
open PySem PySem.Spec PyProof.Rows L2
/-- a loop that runs through, with what it keeps -/
theorem forL_fold {α β : Type} {set : Sets} {b : SS} (e : α → D) (step : β → α → β) (I : Nat → β → Env' → Hs → Prop) : ∀ (xs : List α) (b0 : β) (δ : Env') (G : Hs), I xs.length b0 δ G →
    (∀ x ∈ xs, ∀ k b0 δ G, I (k + 1) b0 δ G → ∃ δ1, set (e x) δ = some δ1 ∧ ∃ δ2 G2, b δ1 G = some (.nx, δ2, G2) ∧ I k (step b0 x) δ2 G2) →
    ∃ δ' G', forL set b (xs.map e) δ G = some (.nx, δ', G') ∧ I 0 (xs.foldl step b0) δ' G'
  | [], b0, δ, G, h, _ => ⟨δ, G, rfl, h⟩
  | x :: xs, b0, δ, G, h, hs => by
    obtain ⟨δ1, h1, δ2, G2, h2, h3⟩ := hs x List.mem_cons_self _ _ _ _ h
    obtain ⟨δ', G', h4, h5⟩ := forL_fold e step I xs (step b0 x) δ2 G2 h3 fun y hy => hs y (List.mem_cons_of_mem _ hy)
    refine ⟨δ', G', ?_, h5⟩
    rw [List.map_cons, forL, h1, Option.bind_some, h2, Option.bind_some]
    exact h4
theorem foldl_flat {α β : Type} (f : α → List β) : ∀ (xs : List α) (b : List β), xs.foldl (fun b x => b ++ f x) b = b ++ xs.flatMap f
  | [], b => by simp
  | x :: xs, b => by rw [List.foldl_cons, foldl_flat f xs, List.flatMap_cons, List.append_assoc]
end FL
namespace K30
open PySem PySem.Spec PyProof.Rows L2 FL
abbrev Sd := Kd × Bool × Int × Bool
def eS (s : Sd) : D := .tup [.str s.1.s, .bl s.2.1, .int s.2.2.1, .bl s.2.2.2]
theorem eS_im (s : Sd) : (eS s).im = true := rfl
def sdA (here : Int) (p : Int × Int) : List Sd := if p.1 = here then [(.to, false, p.2, true)] else if p.2 = here then [(.fr, true, p.1, false)] else []
def sdT (here : Int) (p : Int × Int) : List Sd := if here = p.1 ∨ here = p.2 then [(.ti, true, if p.1 = here then p.2 else p.1, true)] else []
def sides (A T : List (Int × Int)) (here : Int) : List Sd := A.flatMap (sdA here) ++ T.flatMap (sdT here)
theorem sdA_len (here : Int) (p : Int × Int) : (sdA here p).length ≤ 1 := by
  unfold sdA
  split
  · exact Nat.le_refl _
  · split <;> simp
theorem sdT_len (here : Int) (p : Int × Int) : (sdT here p).length ≤ 1 := by
  unfold sdT
  split <;> simp
theorem flat_len {α β : Type} {f : α → List β} (h : ∀ x, (f x).length ≤ 1) : ∀ xs : List α, (xs.flatMap f).length ≤ xs.length
  | [] => Nat.le_refl _
  | x :: xs => by
    have := h x
    have := flat_len h xs
    simp only [List.flatMap_cons, List.length_append, List.length_cons]
    omega
theorem sides_len (A T : List (Int × Int)) (here : Int) : (sides A T here).length ≤ A.length + T.length := by
  have h1 := flat_len (sdA_len here) A
  have h2 := flat_len (sdT_len here) T
  unfold sides
  rw [List.length_append]
  omega
theorem in_ii {G : Hs} (v : Int) (xs : List Int) : g_in_ G (.int v) (.tup (xs.map .int)) = some (.bl (decide (v ∈ xs))) := in_ints rfl false
section
variable {n : Nat} {A T : List (Int × Int)}
def stA (here : Int) (b : List Sd) (p : Int × Int) : List Sd := b ++ sdA here p
def stT (here : Int) (b : List Sd) (p : Int × Int) : List Sd := b ++ sdT here p
def SI (n : Nat) (A T : List (Int × Int)) (here : Int) (k : Nat) (b : List Sd) (δ : Env') (G : Hs) : Prop := ∃ o3 o4, δ = [some (eW n A T), some (.int here), some (.rf 0), o3, o4] ∧ G = [.lst (b.map eS)] ∧ b.length + k ≤ 1000000
theorem sides_P (here : Int) (hA : A.length ≤ 1000) (hT : T.length ≤ 1000) : f__law_sides [eW n A T, .int here] = some (.fl ((sides A T here).map eS)) := by
  obtain ⟨δ1, G1, h1, o3, o4, rfl, rfl, hk1⟩ := forL_fold (set := setTup [(setN 3), (setN 4)]) (b := (sExp (eMet gExtend (rVar 2) (eCons (ofR (rIf (rB (rBin g_eq (rVar 3) (rVar 1))) (rFl (rCons (rTup (rCons (rC (.str "to")) (rCons (rC (.bl false)) (rCons (rVar 4) (rCons (rC (.bl true)) rNil))))) rNil)) (rIf (rB (rBin g_eq (rVar 4) (rVar 1))) (rFl (rCons (rTup (rCons (rC (.str "from")) (rCons (rC (.bl true)) (rCons (rVar 3) (rCons (rC (.bl false)) rNil))))) rNil)) (rFl rNil)))) (ofRA rNil)))))
    eP (stA here) (SI n A T here) A [] [some (eW n A T), some (.int here), some (.rf 0), none, none] [.lst []] ⟨none, none, rfl, rfl, by simp; omega⟩ fun p hp k b δ G ⟨o3, o4, hδ, hG, hk⟩ => by
      subst hδ hG
      refine ⟨_, rfl, _, _, exp_of (ext_of (k := 0) (zs := (sdA here p).map eS) (var_of rfl) rfl (econs1_of (ofR_of ?_)) rfl (by have := sdA_len here p; simp; omega)), some (.int p.1), some (.int p.2), rfl, ?_, ?_⟩
      · unfold sdA
        by_cases h1 : p.1 = here
        · rw [if_pos h1]
          exact (rif_t (b_of (bin_of (var_of rfl) (var_of rfl) ((eq_ii _ _).trans (by rw [decide_eq_true h1]))))).trans rfl
        · rw [if_neg h1]
          refine (rif_f (b_of (bin_of (var_of rfl) (var_of rfl) ((eq_ii _ _).trans (by rw [decide_eq_false h1]))))).trans ?_
          by_cases h2 : p.2 = here
          · rw [if_pos h2]
            exact (rif_t (b_of (bin_of (var_of rfl) (var_of rfl) ((eq_ii _ _).trans (by rw [decide_eq_true h2]))))).trans rfl
          · rw [if_neg h2]
            exact (rif_f (b_of (bin_of (var_of rfl) (var_of rfl) ((eq_ii _ _).trans (by rw [decide_eq_false h2]))))).trans rfl
      · show [GO.lst (b.map eS ++ (sdA here p).map eS)] = [.lst ((stA here b p).map eS)]
        rw [stA, List.map_append]
      · have := sdA_len here p
        rw [stA, List.length_append]
        omega
  have e1 : A.foldl (stA here) [] = A.flatMap (sdA here) := (foldl_flat (sdA here) A []).trans (List.nil_append _)
  rw [e1] at h1 hk1
  obtain ⟨δ2, G2, h2, o3', o4', rfl, rfl, hk2⟩ := forL_fold (set := setTup [(setN 3), (setN 4)]) (b := (sExp (eMet gExtend (rVar 2) (eCons (ofR (rIf (rB (rBin g_in_ (rVar 1) (rTup (rCons (rVar 3) (rCons (rVar 4) rNil))))) (rFl (rCons (rTup (rCons (rC (.str "tie")) (rCons (rC (.bl true)) (rCons (rIf (rB (rBin g_eq (rVar 3) (rVar 1))) (rVar 4) (rVar 3)) (rCons (rC (.bl true)) rNil))))) rNil)) (rFl rNil))) (ofRA rNil)))))
    eP (stT here) (SI n A T here) T (A.flatMap (sdA here)) [some (eW n A T), some (.int here), some (.rf 0), o3, o4] [.lst ((A.flatMap (sdA here)).map eS)] ⟨o3, o4, rfl, rfl, by have := flat_len (sdA_len here) A; omega⟩ fun p hp k b δ G ⟨o3, o4, hδ, hG, hk⟩ => by
      subst hδ hG
      refine ⟨_, rfl, _, _, exp_of (ext_of (k := 0) (zs := (sdT here p).map eS) (var_of rfl) rfl (econs1_of (ofR_of ?_)) rfl (by have := sdT_len here p; simp; omega)), some (.int p.1), some (.int p.2), rfl, ?_, ?_⟩
      · unfold sdT
        have hin : ∀ G, g_in_ G (.int here) (.tup [.int p.1, .int p.2]) = some (.bl (decide (here = p.1 ∨ here = p.2))) := fun G => (in_ii here [p.1, p.2]).trans (by simp)
        by_cases h1 : here = p.1 ∨ here = p.2
        · rw [if_pos h1]
          refine (rif_t (b_of (bin_of (var_of rfl) (tup_of (cons_of (var_of rfl) (cons_of (var_of rfl) nil_of)) (by simp)) ((hin _).trans (by rw [decide_eq_true h1]))))).trans ?_
          refine fl_of (cons_of (tup_of (cons_of c_of (cons_of c_of (cons_of (x := .int (if p.1 = here then p.2 else p.1)) ?_ (cons_of c_of nil_of)))) (by simp)) nil_of) (by simp)
          by_cases h2 : p.1 = here
          · rw [if_pos h2]
            exact (rif_t (b_of (bin_of (var_of rfl) (var_of rfl) ((eq_ii _ _).trans (by rw [decide_eq_true h2]))))).trans (var_of rfl)
          · rw [if_neg h2]
            exact (rif_f (b_of (bin_of (var_of rfl) (var_of rfl) ((eq_ii _ _).trans (by rw [decide_eq_false h2]))))).trans (var_of rfl)
        · rw [if_neg h1]
          exact (rif_f (b_of (bin_of (var_of rfl) (tup_of (cons_of (var_of rfl) (cons_of (var_of rfl) nil_of)) (by simp)) ((hin _).trans (by rw [decide_eq_false h1]))))).trans rfl
      · show [GO.lst (b.map eS ++ (sdT here p).map eS)] = [.lst ((stT here b p).map eS)]
        rw [stT, List.map_append]
      · have := sdT_len here p
        rw [stT, List.length_append]
        omega
  have e2 : T.foldl (stT here) (A.flatMap (sdA here)) = sides A T here := foldl_flat (sdT here) T _
  rw [e2] at h2
  refine fnP_fl (k := 0) (xs := (sides A T here).map eS) (sq_nx (asg_of (d := .rf 0) (G1 := [.lst []]) rfl (by show (2 : Nat) < 5; decide)) |>.trans ((sq_nx ((for_nx (ofRA_of (itup_of (bin_of (var_of rfl) c_of ((ixA_tup _ _).trans (at_1 _ _ _)))))).trans h1)).trans ((sq_nx ((for_nx (ofRA_of (itup_of (bin_of (var_of rfl) c_of ((ixA_tup _ _).trans (at_2 _ _ _ _)))))).trans h2)).trans (ret_of (ofR_of (var_of rfl)))))) rfl (ims_map eS_im _)
end
end K30
namespace FL
open PySem PySem.Spec PyProof.Rows L2
/-- a body that returns a truth value -/
def RB (g : SS) (δ : Env') (G : Hs) (u : Bool) : Prop := ∃ δ2, g δ G = some (.rt (.bl u), δ2, G)
section
variable {δ : Env'} {G : Hs} {g k : SS} {t : RT} {c u : Bool} {fa : RE} {n : Nat} {ds : List D}
theorem rb_if (h : t δ G = some c) (hk : c = false → RB k δ G u) : RB (sSeq (sIf (ofRT t) (sRet (ofR (rC (.bl false)))) FL.sNil) k) δ G (!c && u) := by
  cases c with
  | true => exact ⟨_, sq_rt ((if_t (ofRT_of h)).trans (ret_of (ofR_of c_of)))⟩
  | false =>
    obtain ⟨δ2, e⟩ := hk rfl
    exact ⟨_, (sq_nx (if_f (ofRT_of h))).trans e⟩
theorem rb_for {P : Env' → Prop} (h : ∃ δ', P δ' ∧ g δ G = if c = true then some (.nx, δ', G) else some (.rt (.bl false), δ', G)) (hk : c = true → ∀ δ', P δ' → RB k δ' G u) : RB (sSeq g k) δ G (c && u) := by
  obtain ⟨δ', hP, e⟩ := h
  cases c with
  | true =>
    obtain ⟨δ2, e2⟩ := hk rfl δ' hP
    exact ⟨_, (sq_nx e).trans e2⟩
  | false => exact ⟨_, sq_rt e⟩
theorem rb_ret (h : fa δ G = some (.bl u)) : RB (sRet (ofR fa)) δ G u := ⟨_, ret_of (ofR_of h)⟩
theorem fnP_rb {body : SS} (h : RB body (slots n ds) [] u) : fnP n body ds = some (.bl u) := by
  obtain ⟨δ2, e⟩ := h
  exact fnP_of e rfl
theorem for3 {set : Sets} {b : SS} {fa fb fc : RE} {i j : Int} {m : Nat} (ha : fa δ G = some (.int i)) (hb : fb δ G = some (.int j)) (hc : fc δ G = some (.int 2)) (hi : 0 ≤ i ∧ i ≤ 1000) (hj : -1000 ≤ j ∧ j ≤ 1000) (hm : Builtin.Range.rangeSize i j 2 = m) (c : Nat → Bool) (P : Env' → Prop) (hP : P δ)
    (h : ∀ k < m, ∀ δ, P δ → ∃ δ1, set (.int (i + (k : Int) * 2)) δ = some δ1 ∧ ∃ δ2, P δ2 ∧ b δ1 G = if c k = true then some (.nx, δ2, G) else some (.rt (.bl false), δ2, G)) :
    ∃ δ', P δ' ∧ sFor (ofRA (iRgR rng3 (rCons fa (rCons fb (rCons fc rNil))))) set b δ G = if (List.range m).all c = true then some (.nx, δ', G) else some (.rt (.bl false), δ', G) := by
  obtain ⟨δ', h1, h2⟩ := forL_all (set := set) (b := b) (G := G) c (fun k : Nat => D.int (i + (k : Int) * 2)) P (List.range m) δ hP fun k hk => h k (List.mem_range.mp hk)
  exact ⟨δ', h1, (for_nx (ofRA_of (rg3_of ha hb hc hi hj hm))).trans h2⟩
/-- the body of such a loop: one question -/
theorem if1_of (h : t δ G = some (!c)) : sIf (ofRT t) (sRet (ofR (rC (.bl false)))) FL.sNil δ G = if c = true then some (.nx, δ, G) else some (.rt (.bl false), δ, G) := by
  cases c with
  | true => exact (if_f (ofRT_of h)).trans rfl
  | false => exact (if_t (ofRT_of h)).trans (ret_of (ofR_of c_of))
theorem rsz2 {i j : Int} {m : Nat} (h : (m : Int) = (j - i + 1) / 2 ∧ i < j ∨ j ≤ i ∧ m = 0) : Builtin.Range.rangeSize i j 2 = m := by
  unfold Builtin.Range.rangeSize
  simp only [show ((2 : Int) > 0) from by decide, if_true]
  split <;> omega
end
end FL
namespace K30
open PySem PySem.Spec PyProof.Rows L2 FL
def eII (p : I0 × I0) : D := .tup [eI p.1, eI p.2]
theorem eqb_II (p q : I0 × I0) : eqb (eII p) (eII q) = decide (p = q) := by
  obtain ⟨a, b⟩ := p
  obtain ⟨c, d⟩ := q
  have h1 : PyData.eqv (eI a).py (eI c).py = decide (a = c) := eI_eqb a c
  have h2 : PyData.eqv (eI b).py (eI d).py = decide (b = d) := eI_eqb b d
  simp only [eqb, eII, D.py, pys, PyData.eqv, PyData.eqvAll, h1, h2]
  by_cases h1 : a = c <;> by_cases h2 : b = d <;> simp [h1, h2]
theorem eII_ok (p : I0 × I0) : (eII p).ok = true := by simp [eII, D.ok, oks, eI_ok]
theorem eII_dep (p : I0 × I0) : (eII p).dep ≤ 1 := by
  have := eI_dep p.1
  have := eI_dep p.2
  simp only [eII, D.dep, deps]
  omega
theorem in_II {G : Hs} {y : D} {L : List (I0 × I0)} {p : I0 × I0} (hs : seqG G y = some (L.map eII)) (neg : Bool) : fIn neg G (eII p) y = some (.bl (if neg = true then !decide (p ∈ L) else decide (p ∈ L))) := by
  have hd := deps_map (e := eII) (n := 1) eII_dep L
  have h1 := eII_dep p
  rw [in_of hs (eII_ok p) (oks_map eII_ok L) (by omega) (by omega) neg, inB_map (fun x => eqb_II x p)]
  congr 2
  cases neg <;> simp
section
variable {n : Nat} {A T : List (Int × Int)}
def sII (s : Sd) : I0 × I0 := (.k s.1, .v s.2.2.1)
theorem mem_sdA {a : Int} {p : Int × Int} {s : Sd} (hp : p.1 ≠ p.2) : s ∈ sdA a p ↔ (s = (.to, false, p.2, true) ∧ p.1 = a) ∨ (s = (.fr, true, p.1, false) ∧ p.2 = a) := by
  unfold sdA
  by_cases h1 : p.1 = a
  · rw [if_pos h1]
    simp only [List.mem_singleton]
    constructor
    · exact fun h => .inl ⟨h, h1⟩
    · rintro (⟨h, _⟩ | ⟨_, h⟩)
      · exact h
      · exact absurd (h1.trans h.symm) hp
  · rw [if_neg h1]
    by_cases h2 : p.2 = a
    · rw [if_pos h2]
      simp [h1, h2]
    · rw [if_neg h2]
      simp [h1, h2]
theorem edge_sides (g : Good n A T) (a b : Int) (k : Kd) : edge A T a k b = decide (((I0.k k, I0.v b) : I0 × I0) ∈ (sides A T a).map sII) := by
  have key : edge A T a k b = true ↔ ((I0.k k, I0.v b) : I0 × I0) ∈ (sides A T a).map sII := by
    simp only [sides, List.mem_map, List.mem_append, List.mem_flatMap]
    constructor
    · intro h
      cases k with
      | to =>
        have h : (a, b) ∈ A := by simpa [edge] using h
        exact ⟨(.to, false, b, true), .inl ⟨_, h, (mem_sdA (g.aR _ h).2.2.2.2).mpr (.inl ⟨rfl, rfl⟩)⟩, rfl⟩
      | fr =>
        have h : (b, a) ∈ A := by simpa [edge] using h
        exact ⟨(.fr, true, b, false), .inl ⟨_, h, (mem_sdA (g.aR _ h).2.2.2.2).mpr (.inr ⟨rfl, rfl⟩)⟩, rfl⟩
      | ti =>
        have h : (min a b, max a b) ∈ T := by simpa [edge] using h
        refine ⟨(.ti, true, b, true), .inr ⟨_, h, ?_⟩, rfl⟩
        have hr := g.tR _ h
        unfold sdT
        rcases Int.le_total a b with hab | hab
        · rw [Int.min_eq_left hab, Int.max_eq_right hab]
          simp
        · rw [Int.min_eq_right hab, Int.max_eq_left hab] at hr ⊢
          simp only at hr
          rw [if_pos (.inr rfl), if_neg (by omega)]
          simp
    · rintro ⟨s, ⟨p, hp, hs⟩ | ⟨p, hp, hs⟩, e⟩
      · rcases (mem_sdA (g.aR _ hp).2.2.2.2).mp hs with ⟨rfl, h1⟩ | ⟨rfl, h1⟩
        · simp only [sII, Prod.mk.injEq, I0.k.injEq, I0.v.injEq] at e
          obtain ⟨rfl, rfl⟩ := e
          subst h1
          simpa [edge] using hp
        · simp only [sII, Prod.mk.injEq, I0.k.injEq, I0.v.injEq] at e
          obtain ⟨rfl, rfl⟩ := e
          subst h1
          simpa [edge] using hp
      · have hr := g.tR _ hp
        unfold sdT at hs
        split at hs
        case isFalse => cases hs
        rename_i hc
        simp only [List.mem_singleton] at hs
        subst hs
        simp only [sII, Prod.mk.injEq, I0.k.injEq, I0.v.injEq] at e
        obtain ⟨rfl, rfl⟩ := e
        obtain ⟨p1, p2⟩ := p
        simp only at hc hr ⊢
        have : (min a (if p1 = a then p2 else p1), max a (if p1 = a then p2 else p1)) = (p1, p2) := by
          simp only [Prod.mk.injEq]
          split <;> omega
        simp only [edge]
        rw [this]
        exact decide_eq_true hp
  cases h : edge A T a k b with
  | true => exact (decide_eq_true (key.mp h)).symm
  | false => exact (decide_eq_false fun z => by rw [key.mpr z] at h; cases h).symm
end
end K30
namespace K30
open PySem PySem.Spec PyProof.Rows L2 FL
section
variable {n : Nat} {A T : List (Int × Int)}
theorem eT_im (its : List I0) : (D.tup (its.map eI)).im = true := by simp [D.im, ims_map eI_im]
theorem ix_of {G : Hs} {its : List I0} {i : Int} {j : Nat} {x : I0} (hi : 0 ≤ i ∧ i.toNat = j) (h : its[j]? = some x) : ixA G (.tup (its.map eI)) (.int i) = some (eI x) := by
  rw [ixA_tup, at_int _ hi.1, List.getElem?_map, hi.2, h]
  rfl
theorem isV_even {its : List I0} (h : (ev2 its).all (isVx n) = true) {i : Nat} (hi : 2 * i < its.length) : ∃ a : Int, its[2 * i]? = some (.v a) := mem_ev2_some h hi
theorem law_is_walk_P (g : Good n A T) (its : List I0) (hl : its.length ≤ 200) : f__law_is_walk [eW n A T, .tup (its.map eI)] = some (.bl (Wk n A T its)) := by
  have hA := g.aL
  have hT := g.tL
  have e1 : (ev2 its).all (isVx n) = (List.range ((its.length + 1) / 2)).all fun k => isV n its[2 * k]? := ev2_all (isVx n) (isV n) (fun _ => rfl) its
  have hlen : ∀ {δ : Env'} {G : Hs}, δ[1]? = some (some (.tup (its.map eI))) → rCal gLen (rCons (rVar 1) rNil) δ G = some (.int its.length) := fun h => cal1_of (var_of h) ((len_tup _).trans (by rw [len_of_map]))
  rw [show Wk n A T its = (!(false || (decide ((its.length : Int) < 3) || (decide (81 < (its.length : Int)) || decide ((its.length : Int) % 2 = 0)))) && ((ev2 its).all (isVx n) && (edges A T its && true))) by
    unfold Wk szOK
    rw [Bool.and_true]
    congr 1
    rw [Bool.eq_iff_iff]
    rw [Bool.false_or]
    simp only [Bool.not_eq_true', Bool.or_eq_false_iff, decide_eq_false_iff_not, decide_eq_true_eq]
    omega]
  refine fnP_rb (rb_if (or_of (not_f (tru_of (isT_of (var_of rfl) rfl) rfl)) fun _ => or_of (b_of (bin_of (hlen rfl) c_of (lt_ii _ _))) fun _ => or_of (b_of (bin_of (hlen rfl) c_of (gt_ii _ _))) fun _ => b_of (bin_of (bin_of (cal1_of (hlen rfl) rfl) c_of (mod_ii _ _ (by decide))) c_of (eq_ii _ _))) fun hs => ?_)
  simp only [Bool.or_eq_false_iff, decide_eq_false_iff_not] at hs
  have hsz : 3 ≤ its.length ∧ its.length ≤ 81 ∧ its.length % 2 = 1 := by omega
  refine rb_for (P := fun δ => ∃ o2 o3, δ = [some (eW n A T), some (.tup (its.map eI)), o2, o3, none]) ?_ fun hv δ hδ => ?_
  · rw [e1]
    refine for3 (i := 0) (j := its.length) c_of (hlen rfl) c_of (by omega) (by omega) (rsz2 (by omega)) _ _ ⟨none, none, rfl⟩ ?_
    rintro k hk δ ⟨o2, o3, rfl⟩
    refine ⟨_, rfl, [some (eW n A T), some (.tup (its.map eI)), some (.int (0 + (k : Int) * 2)), some (eI (its[2 * k]'(by omega))), none], ⟨_, _, rfl⟩, ?_⟩
    have ek : its[2 * k]? = some (its[2 * k]'(by omega)) := List.getElem?_eq_getElem (by omega)
    refine (sq_nx (asg_of (ofR_of (bin_of (var_of rfl) (var_of rfl) (ix_of (j := 2 * k) (by omega) ek))) (by simp))).trans ?_
    rw [ek]
    refine if1_of ?_
    cases hx : its[2 * k]'(by omega) with
    | k q => exact (or_of (b := true) (c := true) (not_t (tru_of (isT_of (var_of rfl) rfl) rfl)) fun h => by cases h).trans rfl
    | v a =>
      refine (or_of (b := false) (not_f (tru_of (isT_of (var_of rfl) rfl) rfl)) fun _ => or_of (b := false) (tru_of (isT_of (var_of rfl) rfl) rfl) fun _ => not_of (b_of (chn_of c_of (var_of rfl) (le_ii _ _) fun _ => ⟨bin_of (var_of rfl) c_of ((ixA_tup _ _).trans (at_0 _ _)), lt_ii _ _⟩))).trans ?_
      simp [isV, isVx]
  · obtain ⟨o2, o3, rfl⟩ := hδ
    refine rb_for (P := fun δ => ∃ o2, δ = [some (eW n A T), some (.tup (its.map eI)), o2, o3, none]) ?_ fun he δ hδ => ?_
    · unfold edges
      refine for3 (i := 0) (j := (its.length : Int) - 2) c_of (bin_of (hlen rfl) c_of (sub_ii _ _)) c_of (by omega) (by omega) (rsz2 (by omega)) _ _ ⟨o2, rfl⟩ ?_
      rintro k hk δ ⟨o2, rfl⟩
      refine ⟨_, rfl, [some (eW n A T), some (.tup (its.map eI)), some (.int (0 + (k : Int) * 2)), o3, none], ⟨_, rfl⟩, if1_of ?_⟩
      obtain ⟨a, ea⟩ := isV_even hv (i := k) (by omega)
      obtain ⟨b, eb⟩ := isV_even hv (i := k + 1) (by omega)
      have eb' : its[2 * k + 2]? = some (.v b) := eb
      have ek : its[2 * k + 1]? = some (its[2 * k + 1]'(by omega)) := List.getElem?_eq_getElem (by omega)
      have hin : ∀ G, g_nin G (eII (its[2 * k + 1]'(by omega), .v b)) (.fl (((sides A T a).map sII).map eII)) = some (.bl (!decide ((its[2 * k + 1]'(by omega), I0.v b) ∈ (sides A T a).map sII))) := fun G => in_II rfl true
      refine b_of ((bin_of (tup_of (cons_of (bin_of (var_of rfl) (bin_of (var_of rfl) c_of (add_ii _ _)) (ix_of (j := 2 * k + 1) (by omega) ek)) (cons_of (bin_of (var_of rfl) (bin_of (var_of rfl) c_of (add_ii _ _)) (ix_of (j := 2 * k + 2) (by omega) eb')) nil_of)) (by simp))
        (rlc_of eS (fun s => [some (eW n A T), some (.tup (its.map eI)), some (.int (0 + (k : Int) * 2)), o3, some (eS s)]) (fun _ => true) (fun s => eII (sII s)) (sides A T a) (ilst_of (callP_of (ds := [eW n A T, .int a]) (cons_of (var_of rfl) (cons_of (bin_of (var_of rfl) (var_of rfl) (ix_of (x := .v a) (j := 2 * k) (by omega) ea)) nil_of)) (by simp [ims, eW_im, D.im]) rfl (sides_P a (by omega) (by omega))) rfl) (by have := sides_len A T a; omega)
          fun s _ => ⟨rfl, rfl, fun _ => tup_of (cons_of (bin_of (var_of rfl) c_of ((ixA_tup _ _).trans (at_0 _ _))) (cons_of (bin_of (var_of rfl) c_of ((ixA_tup _ _).trans (at_2 _ _ _ _))) nil_of)) (by simp)⟩)
        (by rw [List.filter_eq_self.mpr (fun _ _ => rfl), show (sides A T a).map (fun s => eII (sII s)) = ((sides A T a).map sII).map eII by rw [List.map_map]; rfl]; exact hin _)).trans ?_)
      rw [ea, eb', ek]
      congr 3
      cases hx : its[2 * k + 1]'(by omega) with
      | k q => exact (edge_sides g a b q).symm
      | v c =>
        rw [decide_eq_false]
        · rfl
        · simp [sII]
    · obtain ⟨o2, rfl⟩ := hδ
      exact rb_ret c_of
end
end K30
namespace K30
open PySem PySem.Spec PyProof.Rows L2 FL
theorem ne_bb {G : Hs} (a b : Bool) : g_ne G (.bl a) (.bl b) = some (.bl (!(a == b))) := by
  rw [ne_of' (by rfl) (by rfl) (Nat.zero_le _) (Nat.zero_le _)]
  cases a <;> cases b <;> rfl
def hd1 (k : Kd) : Bool := !decide (k = .fr)
def hd2 (k : Kd) : Bool := !decide (k = .to)
def mtO : Option I0 → Option I0 → Bool | some (.k a), some (.k b) => hd1 a && hd2 b | _, _ => false
def memO (gv : List Int) : Option I0 → Bool | some (.v a) => decide (a ∈ gv) | _ => false
def Opn (n : Nat) (A T : List (Int × Int)) (gv : List Int) (its : List I0) : Bool :=
  !(!Wk n A T its || (memO gv its[0]? || memO gv its.getLast?)) && ((List.range ((its.length - 3) / 2)).all (fun i => memO gv its[2 * i + 2]? == mtO its[2 * i + 1]? its[2 * i + 3]?) && true)
theorem far_P (k : Kd) : f_far_end [.str k.s] = some (.str (if k = .fr then "tail" else "head")) := by
  have e2 : ∀ G, g_eq G (.str k.s) (.str "from") = some (.bl (decide (k = .fr))) := fun G => eq_kk k .fr
  refine fnP_of (ret_of (ofR_of ?_)) rfl
  by_cases h : k = .fr
  · rw [if_pos h]
    exact (rif_t (b_of (bin_of (var_of rfl) c_of ((e2 _).trans (by rw [decide_eq_true h]))))).trans rfl
  · rw [if_neg h]
    exact (rif_f (b_of (bin_of (var_of rfl) c_of ((e2 _).trans (by rw [decide_eq_false h]))))).trans rfl
theorem near_P (k : Kd) : f_near_end [.str k.s] = some (.str (if k = .to then "tail" else "head")) := by
  have e2 : ∀ G, g_eq G (.str k.s) (.str "to") = some (.bl (decide (k = .to))) := fun G => eq_kk k .to
  refine fnP_of (ret_of (ofR_of ?_)) rfl
  by_cases h : k = .to
  · rw [if_pos h]
    exact (rif_t (b_of (bin_of (var_of rfl) c_of ((e2 _).trans (by rw [decide_eq_true h]))))).trans rfl
  · rw [if_neg h]
    exact (rif_f (b_of (bin_of (var_of rfl) c_of ((e2 _).trans (by rw [decide_eq_false h]))))).trans rfl
theorem head_eq {G : Hs} (b : Bool) : g_eq G (.str (if b = true then "tail" else "head")) (.str "head") = some (.bl (!b)) := by
  rw [eq_of (by cases b <;> decide +kernel) (by decide +kernel) (Nat.zero_le _) (Nat.zero_le _), eqb_str]
  refine congrArg (fun b => some (D.bl b)) ?_
  cases b <;> decide +kernel
theorem meeting_P {its : List I0} {i : Nat} {a b : Kd} (ha : its[i]? = some (.k a)) (hb : its[i + 2]? = some (.k b)) : f_is_meeting [.tup (its.map eI), .int ((i : Int) + 1)] = some (.bl (hd1 a && hd2 b)) := by
  have e1 : ∀ G, g_eq G (.str (if a = .fr then "tail" else "head")) (.str "head") = some (.bl (hd1 a)) := fun G => by
    have := head_eq (G := G) (decide (a = .fr))
    simp only [decide_eq_true_eq] at this
    exact this
  have e2 : ∀ G, g_eq G (.str (if b = .to then "tail" else "head")) (.str "head") = some (.bl (hd2 b)) := fun G => by
    have := head_eq (G := G) (decide (b = .to))
    simp only [decide_eq_true_eq] at this
    exact this
  refine fnP_of (ret_of (ofR_of (andV_of (bin_of (callP_of (ds := [.str a.s]) (cons_of (bin_of (var_of rfl) (bin_of (var_of rfl) c_of (sub_ii _ _)) (ix_of (x := .k a) (j := i) (by omega) ha)) nil_of) rfl rfl (far_P a)) c_of (e1 _)) fun _ =>
    bin_of (callP_of (ds := [.str b.s]) (cons_of (bin_of (var_of rfl) (bin_of (var_of rfl) c_of (add_ii _ _)) (ix_of (x := .k b) (j := i + 2) (by omega) hb)) nil_of) rfl rfl (near_P b)) c_of (e2 _)))) rfl
section
variable {n : Nat} {A T : List (Int × Int)}
theorem in_g {G : Hs} {gv : List Int} (a : Int) : g_in_ G (.int a) (.tup (gv.map .int)) = some (.bl (decide (a ∈ gv))) := in_ii a gv
theorem last_of {G : Hs} {its : List I0} {x : I0} (h : its.getLast? = some x) : ixA G (.tup (its.map eI)) (.int (-1)) = some (eI x) := by
  rw [ixA_tup, at_m1, List.getLast?_map, h]
  rfl
theorem wk_parts {its : List I0} (h : Wk n A T its = true) : (3 ≤ its.length ∧ its.length ≤ 81 ∧ its.length % 2 = 1) ∧ (ev2 its).all (isVx n) = true ∧ edges A T its = true := by
  unfold Wk szOK at h
  simp only [Bool.and_eq_true, decide_eq_true_eq] at h
  exact ⟨⟨h.1.2.1, h.1.2.2, h.1.1⟩, h.2⟩
theorem wk_last {its : List I0} (h : Wk n A T its = true) : ∃ a, its.getLast? = some (.v a) := by
  obtain ⟨h1, h2, h3⟩ := wk_parts h
  obtain ⟨a, ea⟩ := isV_even h2 (i := (its.length - 1) / 2) (by omega)
  refine ⟨a, ?_⟩
  rw [List.getLast?_eq_getElem?, show its.length - 1 = 2 * ((its.length - 1) / 2) by omega, ea]
theorem wk_edge {its : List I0} (h : Wk n A T its = true) {i : Nat} (hi : 2 * i + 2 < its.length) : ∃ a k b, its[2 * i]? = some (.v a) ∧ its[2 * i + 1]? = some (.k k) ∧ its[2 * i + 2]? = some (.v b) ∧ edge A T a k b = true := by
  obtain ⟨h1, h2, h3⟩ := wk_parts h
  have := List.all_eq_true.mp h3 i (List.mem_range.mpr (by omega))
  revert this
  cases e0 : its[2 * i]? with
  | none => intro h; cases h
  | some x => cases x with
    | k k => intro h; cases h
    | v a => cases e1 : its[2 * i + 1]? with
      | none => intro h; cases h
      | some x => cases x with
        | v k => intro h; cases h
        | k k => cases e2 : its[2 * i + 2]? with
          | none => intro h; cases h
          | some x => cases x with
            | k k => intro h; cases h
            | v b => exact fun h => ⟨a, k, b, rfl, rfl, rfl, h⟩
theorem is_open_P (its : List I0) (gv : List Int) (hl : its.length ≤ 200) : f_is_open [eM n A T, .tup (its.map eI), .tup (gv.map .int)] = some (.bl (Opn n A T gv its)) := by
  unfold Opn
  have hlen : ∀ {δ : Env'} {G : Hs}, δ[1]? = some (some (.tup (its.map eI))) → rCal gLen (rCons (rVar 1) rNil) δ G = some (.int its.length) := fun h => cal1_of (var_of h) ((len_tup _).trans (by rw [len_of_map]))
  refine fnP_rb (rb_if (or_of (not_of (tru_of (d := .bl (Wk n A T its)) (callP_of (ds := [eM n A T, .tup (its.map eI)]) (cons_of (var_of rfl) (cons_of (var_of rfl) nil_of)) (by simp [ims, eM_im, eT_im]) rfl (is_walk_P its hl)) rfl)) fun hw => ?_) fun hs => ?_)
  · have hw : Wk n A T its = true := by simpa using hw
    obtain ⟨a, k, b, e0, _, _, _⟩ := wk_edge hw (i := 0) (by have := (wk_parts hw).1; omega)
    obtain ⟨z, ez⟩ := wk_last hw
    have e0 : its[0]? = some (.v a) := e0
    rw [e0, ez]
    exact or_of (b_of (bin_of (bin_of (var_of rfl) c_of (ix_of (j := 0) (by omega) e0)) (var_of rfl) (in_g a))) fun _ => b_of (bin_of (bin_of (var_of rfl) rfl (last_of ez)) (var_of rfl) (in_g z))
  · have hw : Wk n A T its = true := by
      rw [Bool.or_eq_false_iff] at hs
      simpa using hs.1
    have hsz := (wk_parts hw).1
    refine rb_for (P := fun δ => ∃ o3, δ = [some (eM n A T), some (.tup (its.map eI)), some (.tup (gv.map .int)), o3]) ?_ fun hv δ ⟨o3, hδ⟩ => by subst hδ; exact rb_ret c_of
    refine for3 (i := 2) (j := (its.length : Int) - 1) c_of (bin_of (hlen rfl) c_of (sub_ii _ _)) c_of (by omega) (by omega) (rsz2 (by omega)) _ _ ⟨none, rfl⟩ ?_
    rintro k hk δ ⟨o3, rfl⟩
    refine ⟨_, rfl, [some (eM n A T), some (.tup (its.map eI)), some (.tup (gv.map .int)), some (.int (2 + (k : Int) * 2))], ⟨_, rfl⟩, if1_of ?_⟩
    obtain ⟨a, p, b, e0, e1, e2, _⟩ := wk_edge hw (i := k) (by omega)
    obtain ⟨b', q, c, e2', e3, e4, _⟩ := wk_edge hw (i := k + 1) (by omega)
    have e3' : its[2 * k + 3]? = some (.k q) := e3
    rw [e1, e2, e3']
    refine b_of (bin_of (bin_of (bin_of (var_of rfl) (var_of rfl) (ix_of (x := .v b) (j := 2 * k + 2) (by omega) e2)) (var_of rfl) (in_g b)) (callP_of (ds := [.tup (its.map eI), .int (2 + (k : Int) * 2)]) (cons_of (var_of rfl) (cons_of (var_of rfl) nil_of)) (by simp [ims, ims_map eI_im, D.im]) rfl ((congrArg (fun i : Int => f_is_meeting [.tup (its.map eI), .int i]) (by omega)).trans (meeting_P e1 e3'))) (ne_bb _ _))
theorem in_k2 {G : Hs} (k a b : Kd) : g_in_ G (.str k.s) (.tup [.str a.s, .str b.s]) = some (.bl (decide (k = a) || decide (k = b))) := by
  have h : fIn false G (.str k.s) (.tup [.str a.s, .str b.s]) = _ := in_of (ds := [.str a.s, .str b.s]) rfl k.ok (by simp [oks, a.ok, b.ok]) (Nat.zero_le _) (Nat.zero_le _) false
  rw [show g_in_ G (.str k.s) (.tup [.str a.s, .str b.s]) = fIn false G (.str k.s) (.tup [.str a.s, .str b.s]) from rfl, h]
  congr 2
  cases k <;> cases a <;> cases b <;> decide +kernel
theorem law_is_open_P (g : Good n A T) (its : List I0) (gv : List Int) (hl : its.length ≤ 200) : f__law_is_open [eW n A T, .tup (its.map eI), .tup (gv.map .int)] = some (.bl (Opn n A T gv its)) := by
  unfold Opn
  have hlen : ∀ {δ : Env'} {G : Hs}, δ[1]? = some (some (.tup (its.map eI))) → rCal gLen (rCons (rVar 1) rNil) δ G = some (.int its.length) := fun h => cal1_of (var_of h) ((len_tup _).trans (by rw [len_of_map]))
  refine fnP_rb (rb_if (or_of (not_of (tru_of (d := .bl (Wk n A T its)) (callP_of (ds := [eW n A T, .tup (its.map eI)]) (cons_of (var_of rfl) (cons_of (var_of rfl) nil_of)) (by simp [ims, eW_im, eT_im]) rfl (law_is_walk_P g its hl)) rfl)) fun hw => ?_) fun hs => ?_)
  · have hw : Wk n A T its = true := by simpa using hw
    obtain ⟨a, k, b, e0, _, _, _⟩ := wk_edge hw (i := 0) (by have := (wk_parts hw).1; omega)
    obtain ⟨z, ez⟩ := wk_last hw
    have e0 : its[0]? = some (.v a) := e0
    rw [e0, ez]
    exact or_of (b_of (bin_of (bin_of (var_of rfl) c_of (ix_of (j := 0) (by omega) e0)) (var_of rfl) (in_g a))) fun _ => b_of (bin_of (bin_of (var_of rfl) rfl (last_of ez)) (var_of rfl) (in_g z))
  · have hw : Wk n A T its = true := by
      rw [Bool.or_eq_false_iff] at hs
      simpa using hs.1
    have hsz := (wk_parts hw).1
    refine rb_for (P := fun δ => ∃ o3 o4, δ = [some (eW n A T), some (.tup (its.map eI)), some (.tup (gv.map .int)), o3, o4]) ?_ fun hv δ ⟨o3, o4, hδ⟩ => by subst hδ; exact rb_ret c_of
    refine for3 (i := 2) (j := (its.length : Int) - 2) c_of (bin_of (hlen rfl) c_of (sub_ii _ _)) c_of (by omega) (by omega) (rsz2 (by omega)) _ _ ⟨none, none, rfl⟩ ?_
    rintro k hk δ ⟨o3, o4, rfl⟩
    obtain ⟨a, p, b, e0, e1, e2, _⟩ := wk_edge hw (i := k) (by omega)
    obtain ⟨b', q, c, e2', e3, e4, _⟩ := wk_edge hw (i := k + 1) (by omega)
    have e3' : its[2 * k + 3]? = some (.k q) := e3
    refine ⟨_, rfl, [some (eW n A T), some (.tup (its.map eI)), some (.tup (gv.map .int)), some (.int (2 + (k : Int) * 2)), some (.bl (hd1 p && hd2 q))], ⟨_, _, rfl⟩, ?_⟩
    have i1 : ∀ G, g_in_ G (.str p.s) (.tup [.str "to", .str "tie"]) = some (.bl (hd1 p)) := fun G => (in_k2 p .to .ti).trans (by cases p <;> rfl)
    have i2 : ∀ G, g_in_ G (.str q.s) (.tup [.str "from", .str "tie"]) = some (.bl (hd2 q)) := fun G => (in_k2 q .fr .ti).trans (by cases q <;> rfl)
    refine (sq_nx (asg_of (ofR_of (andV_of (bin_of (bin_of (var_of rfl) (bin_of (var_of rfl) c_of (sub_ii _ _)) (ix_of (x := .k p) (j := 2 * k + 1) (by omega) e1)) (tup_of (cons_of c_of (cons_of c_of nil_of)) (by simp)) (i1 _)) fun _ =>
      bin_of (bin_of (var_of rfl) (bin_of (var_of rfl) c_of (add_ii _ _)) (ix_of (x := .k q) (j := 2 * k + 3) (by omega) e3')) (tup_of (cons_of c_of (cons_of c_of nil_of)) (by simp)) (i2 _))) (by simp))).trans ?_
    rw [e1, e2, e3']
    exact if1_of (b_of (bin_of (bin_of (bin_of (var_of rfl) (var_of rfl) (ix_of (x := .v b) (j := 2 * k + 2) (by omega) e2)) (var_of rfl) (in_g b)) (var_of rfl) (ne_bb _ _)))
end
end K30
namespace FL
open PySem PySem.Spec PyProof.Rows L2
theorem cat_tup {G : Hs} {a b : List D} (h : a.length + b.length ≤ 10000000) : g_addA G (.tup a) (.tup b) = some (.tup (a ++ b)) := by
  have h0 : fAdd G (.tup a) (.tup b) = none := rfl
  simp [fOr, h0, fCatT, h]
theorem cat_lst {G : Hs} {x y : D} {a b : List D} (hx : lstG G x = some a) (hy : lstG G y = some b) (h0 : fAdd G x y = none) (h1 : fCatT G x y = none) (h : a.length + b.length ≤ 10000000) : g_addA G x y = some (.fl (a ++ b)) := by
  simp [fOr, fCatL, h0, h1, hx, hy, h]
theorem par_of {δ : Env'} {G G1 : Hs} {gs : EA} {i j : Nat} {d d' : D} (e : gs δ G = some ([d, d'], G1)) (hi : i < δ.length ∧ j < δ.length) : sPar i j gs δ G = some (.nx, (δ.set i (some d)).set j (some d'), G1) := by
  unfold sPar
  rw [e]
  simp [hi]
theorem frz_of {δ δ1 : Env'} {G G1 : Hs} {g : SS} {i k : Nat} {ds : List D} (e : g δ G = some (.nx, δ1, G1)) (hi : δ1[i]? = some (some (.rf k))) (hk : G1[k]? = some (.lst ds)) : sFrz i g δ G = some (.nx, δ1.set i (some (.fl ds)), G1.set k .dead) := by
  unfold sFrz
  rw [e]
  simp [hi, hk]
theorem set_end {α : Type} (a : List α) (x y : α) : (a ++ [x]).set a.length y = a ++ [y] := by simp
theorem get_end {α : Type} (a : List α) (x : α) : (a ++ [x])[a.length]? = some x := by simp
theorem adjR (l : Nat) : Builtin.Slice.sliceAdjust none none (-1) (l : Int) = ((l : Int) - 1, -1) := by
  unfold Builtin.Slice.sliceAdjust
  simp
theorem plcR (l : Nat) : Builtin.Slice.slicePlaces ((l : Int) - 1) (-1) (-1) = l := by
  unfold Builtin.Slice.slicePlaces
  simp only [show ¬ ((-1 : Int) > 0) from by decide, if_false, show (-(-1 : Int)) = 1 from rfl, Int.ediv_one]
  split <;> omega
theorem fmap_congr {α β : Type} {f g : α → Option β} : ∀ {l : List α}, (∀ x ∈ l, f x = g x) → l.filterMap f = l.filterMap g
  | [], _ => rfl
  | x :: l, h => by rw [List.filterMap_cons, List.filterMap_cons, h x List.mem_cons_self, fmap_congr fun y hy => h y (List.mem_cons_of_mem _ hy)]
theorem range_get {α : Type} (ys : List α) : (List.range ys.length).filterMap (fun k => ys[k]?) = ys := by
  induction ys with
  | nil => rfl
  | cons y ys ih =>
    rw [List.length_cons, List.range_succ_eq_map, List.filterMap_cons]
    simp only [List.getElem?_cons_zero, List.filterMap_map]
    congr 1
theorem stepLR {α : Type} (xs : List α) : stepL xs none none (-1) = xs.reverse := by
  unfold stepL
  rw [adjR]
  simp only [plcR]
  have e : (List.range xs.length).filterMap (fun k => xs.reverse[k]?) = xs.reverse := by
    have := range_get xs.reverse
    rwa [List.length_reverse] at this
  rw [← e]
  refine fmap_congr fun k hk => ?_
  have hk := List.mem_range.mp hk
  rw [List.getElem?_reverse hk]
  congr 1
  omega
theorem stepCR {α : Type} (xs : List α) : stepC xs none none (-1) = xs.length := by
  unfold stepC
  rw [adjR]
  exact plcR _
theorem stR_of {δ : Env'} {G : Hs} {fa fc : RE} {ds : List D} (h : fa δ G = some (.tup ds)) (hp : partD (some fc) δ G = some (some (-1))) (hl : ds.length ≤ 1000) : rSt fa (partD none) (partD none) (partD (some fc)) δ G = some (.tup ds.reverse) := by
  unfold rSt
  rw [h, hp]
  simp only [Option.bind_some, partD]
  rw [if_pos ⟨by decide, by decide, by rw [stepCR]; omega⟩, stepLR]
theorem forf_nx {f : RE} {set : Sets} {b : SS} {δ : Env'} {G : Hs} {ds : List D} (h : f δ G = some (.fl ds)) : sFor (iFlE (ofR f)) set b δ G = forL set b ds δ G := by
  unfold sFor iFlE ofR
  rw [h]
  rfl
theorem put_of {δ : Env'} {G G1 : Hs} {fv fo fi : RE} {x y z : D} (hv : fv δ G = some z) (ho : fo δ G = some x) (hi : fi δ G = some y) (h : stD x y z G = some G1) : sPut (ofR fv) (ofR fo) (ofR fi) δ G = some (.nx, δ, G1) := by
  unfold sPut ofR
  simp [hv, ho, hi, h]
theorem econs_of {δ : Env'} {G G1 G2 : Hs} {fa : EE} {fs : EA} {d : D} {ds : List D} (h : fa δ G = some (d, G1)) (hs : fs δ G1 = some (ds, G2)) : eCons fa fs δ G = some (d :: ds, G2) := by
  unfold eCons
  simp [h, hs]
theorem enil_of {δ : Env'} {G : Hs} : ofRA rNil δ G = some ([], G) := rfl
theorem ebin_of {g : Hs → D → D → Option D} {δ : Env'} {G G1 G2 : Hs} {fa fb : EE} {x y d : D} (ha : fa δ G = some (x, G1)) (hb : fb δ G1 = some (y, G2)) (h : g G2 x y = some d) : eBin g fa fb δ G = some (d, G2) := by
  unfold eBin
  simp [ha, hb, h]
theorem ecal_of {g : Hs → List D → Option D} {δ : Env'} {G G1 : Hs} {fs : EA} {ds : List D} {d : D} (ha : fs δ G = some (ds, G1)) (h : g G1 ds = some d) : eCal g fs δ G = some (d, G1) := by
  unfold eCal
  simp [ha, h]
theorem eb_of {δ : Env'} {G G1 : Hs} {fa : EE} {b : Bool} (h : fa δ G = some (.bl b, G1)) : eB fa δ G = some (b, G1) := by
  unfold eB
  simp [h, toB]
theorem if_any {t : ET} {g h : SS} {δ : Env'} {G G1 : Hs} {b : Bool} (e : t δ G = some (b, G1)) : sIf t g h δ G = if b = true then g δ G1 else h δ G1 := if_of e
theorem log_small {n : Nat} (h : n < 2 ^ 40) : n.log2 < 40 := by
  by_cases h0 : n = 0
  · subst h0; decide
  · exact (Nat.log2_lt h0).mpr h
theorem mul_ii {G : Hs} (a b : Int) (ha : a.natAbs < 2 ^ 40) (hb : b.natAbs < 2 ^ 40) : g_mulA G (.int a) (.int b) = some (.int (a * b)) := by
  have h : fMul G (.int a) (.int b) = some (.int (a * b)) := by
    have h1 := log_small ha
    have h2 := log_small hb
    show (if decide (a.natAbs.log2 + b.natAbs.log2 < 1000000) = true then _ else _) = _
    rw [if_pos (decide_eq_true (by omega))]
  show (match fMul G (.int a) (.int b) with | some d => some d | none => _) = _
  rw [h]
theorem div_ii {G : Hs} (a b : Int) (h : decide (0 < b ∧ b.natAbs.log2 < 9000) = true) : g_div G (.int a) (.int b) = some (.int (a / b)) := by
  show (if decide (0 < b ∧ b.natAbs.log2 < 9000) = true then _ else _) = _
  rw [if_pos h]
theorem pop_of {δ : Env'} {G : Hs} {fo : RE} {k : Nat} {xs : List Int} {x : Int} (ho : fo δ G = some (.rf k)) (hk : G[k]? = some (.lst ((xs ++ [x]).map .int))) : ePop fo δ G = some (.int x, G.set k (.lst (xs.map .int))) := by
  unfold ePop
  simp only [ho, Option.bind_some, hk]
  rw [show ((xs ++ [x]).map D.int)[((xs ++ [x]).map D.int).length - 1]? = some (.int x) by simp, Option.bind_some]
  simp
theorem ims_int (xs : List Int) : ims (xs.map D.int) = true := ims_map (e := D.int) (fun _ => rfl) xs
/-- a call with a root of integers -/
theorem callB_of {F : List D → Hs → Option (D × Hs)} {δ : Env'} {G G1 : Hs} {gs : EA} {k np : Nat} {rest : List D} {r : D} {o o' : GO} (hs : gs δ G = some (.rf k :: rest, G1)) (hn : (D.rf k :: rest).length = np) (hi : ims rest = true) (hk : G1[k]? = some o) (fo : o.flat = true) (hF : F (.rf 0 :: rest) [o] = some (r, [o'])) (fo' : o'.flat = true) (hr : r.im = true) :
    eCallB np F gs δ G = some (r, G1.set k o') := by
  unfold eCallB
  rw [hs, Option.bind_some, if_pos hn]
  unfold callB
  simp only [hi, hk, fo, hF, fo', hr, if_true, Option.bind_some]
/-- a call that hands back a new list root -/
theorem callB_new {F : List D → Hs → Option (D × Hs)} {δ : Env'} {G G1 : Hs} {gs : EA} {k np : Nat} {rest : List D} {o o' o2 : GO} (hs : gs δ G = some (.rf k :: rest, G1)) (hn : (D.rf k :: rest).length = np) (hi : ims rest = true) (hk : G1[k]? = some o) (fo : o.flat = true) (hF : F (.rf 0 :: rest) [o] = some (.rf 1, [o', o2])) (fo' : o'.flat = true) (fo2 : o2.flat = true) :
    eCallB np F gs δ G = some (.rf G1.length, G1.set k o' ++ [o2]) := by
  unfold eCallB
  rw [hs, Option.bind_some, if_pos hn]
  unfold callB
  simp only [hi, hk, fo, hF, fo', fo2, if_true, Option.bind_some, and_self]
theorem callB_new0 {F : List D → Hs → Option (D × Hs)} {δ : Env'} {G G1 : Hs} {gs : EA} {np : Nat} {ds : List D} {o2 : GO} (hs : gs δ G = some (ds, G1)) (hn : ds.length = np) (hi : ims ds = true) (hF : F ds [] = some (.rf 0, [o2])) (fo2 : o2.flat = true) :
    eCallB np F gs δ G = some (.rf G1.length, G1 ++ [o2]) := by
  unfold eCallB
  rw [hs, Option.bind_some, if_pos hn]
  unfold callB
  cases ds with
  | nil => simp [ims, hF, fo2]
  | cons d ds => cases d <;> first | (simp [hi, hF, fo2]; done) | (simp [ims, D.im] at hi)
theorem popAt_of {δ : Env'} {G G1 : Hs} {fo : RE} {gs : EA} {k : Nat} {xs : List D} {ys : List D} {i : Int} {d : D} (ho : fo δ G = some (.rf k)) (hk : G[k]? = some (.lst xs)) (hs : gs δ G = some ([.int i], G1)) (hk1 : G1[k]? = some (.lst ys)) (h : 0 ≤ i ∧ i < 1000000) (hd : ys[i.toNat]? = some d) : eMet gPopAt fo gs δ G = some (d, G1.set k (.lst (ys.eraseIdx i.toNat))) := by
  unfold eMet
  simp only [ho, Option.bind_some, lstG, hk, hs, gPopAt, hk1]
  rw [if_pos h, hd]
  rfl
theorem cons_erase {α : Type} : ∀ {l : List α} {i : Nat} (h : i < l.length), (l[i] :: l.eraseIdx i).Perm l
  | x :: l, 0, _ => List.Perm.refl _
  | x :: l, i + 1, h => by
    have h' : i < l.length := by simpa using h
    have := cons_erase h'
    simp only [List.getElem_cons_succ, List.eraseIdx_cons_succ]
    exact (List.Perm.swap x l[i] (l.eraseIdx i)).trans (this.cons x)
theorem erase_map {α β : Type} (f : α → β) : ∀ (l : List α) (i : Nat), (l.map f).eraseIdx i = (l.eraseIdx i).map f
  | [], _ => rfl
  | x :: l, 0 => rfl
  | x :: l, i + 1 => by simp [erase_map f l i]
theorem nodup_map {α β : Type} {f : α → β} : ∀ {l : List α}, (∀ x ∈ l, ∀ y ∈ l, f x = f y → x = y) → l.Nodup → (l.map f).Nodup
  | [], _, _ => List.nodup_nil
  | x :: l, h, nd => by
    obtain ⟨h1, h2⟩ := List.nodup_cons.mp nd
    rw [List.map_cons, List.nodup_cons]
    refine ⟨fun z => ?_, nodup_map (fun a ha b hb => h a (List.mem_cons_of_mem _ ha) b (List.mem_cons_of_mem _ hb)) h2⟩
    obtain ⟨y, hy, e⟩ := List.mem_map.mp z
    have := h y (List.mem_cons_of_mem _ hy) x List.mem_cons_self e
    subst this
    exact h1 hy
theorem lcE_draws {α β : Type} {set : Sets} {cond : ET} {elt : EE} {δ : Env'} (e : α → D) (eo : β → D) (P : β → Prop) : ∀ (xs : List α) (dr : List Int),
    (∀ x ∈ xs, ∃ δ1, set (e x) δ = some δ1 ∧ ∀ dr : List Int, ∃ (c : Bool) (dr1 : List Int), cond δ1 [.lst (dr.map .int)] = some (c, [.lst (dr1.map .int)]) ∧ (c = true → ∃ (y : β) (dr2 : List Int), P y ∧ elt δ1 [.lst (dr1.map .int)] = some (eo y, [.lst (dr2.map .int)]))) →
    ∃ (ys : List β) (dr' : List Int), lcE set cond elt (xs.map e) δ [.lst (dr.map .int)] = some (ys.map eo, [.lst (dr'.map .int)]) ∧ (∀ y ∈ ys, P y) ∧ ys.length ≤ xs.length
  | [], dr, _ => ⟨[], dr, rfl, (fun _ h => by cases h), Nat.le_refl _⟩
  | x :: xs, dr, h => by
    obtain ⟨δ1, h1, h2⟩ := h x List.mem_cons_self
    obtain ⟨c, dr1, h3, h4⟩ := h2 dr
    cases c with
    | true =>
      obtain ⟨y, dr2, h5, h6⟩ := h4 rfl
      obtain ⟨ys, dr', h7, h8, h9⟩ := lcE_draws e eo P xs dr2 fun z hz => h z (List.mem_cons_of_mem _ hz)
      refine ⟨y :: ys, dr', ?_, fun z hz => ?_, Nat.succ_le_succ h9⟩
      · rw [List.map_cons, lcE, h1, Option.bind_some, h3, Option.bind_some, if_pos rfl, h6, Option.bind_some, h7]
        rfl
      · rcases List.mem_cons.mp hz with rfl | hz
        · exact h5
        · exact h8 z hz
    | false =>
      obtain ⟨ys, dr', h7, h8, h9⟩ := lcE_draws e eo P xs dr1 fun z hz => h z (List.mem_cons_of_mem _ hz)
      refine ⟨ys, dr', ?_, h8, Nat.le_succ_of_le h9⟩
      rw [List.map_cons, lcE, h1, Option.bind_some, h3, Option.bind_some, if_neg (by simp)]
      exact h7
theorem elc_of {src : EA} {set : Sets} {cond : ET} {elt : EE} {vs : List Nat} {δ : Env'} {G G1 G2 : Hs} {ds ys : List D} (hs : src δ G = some (ds, G1)) (hl : ds.length ≤ 10000000) (h : lcE set cond elt ds (wipeD δ vs) G1 = some (ys, G2)) : eLc src set cond elt vs δ G = some (.fl ys, G2) := by
  unfold eLc
  rw [hs, Option.bind_some, if_pos hl, h]
  rfl
theorem isn_bb {G : Hs} (a b : Bool) : g_isnA G (.bl a) (.bl b) = some (.bl (!decide (a = b))) := rfl
theorem repr_of {G : Hs} {d : D} (h : d.ok = true ∧ d.sh = true ∧ d.dep ≤ 60 ∧ d.py.shown.length ≤ 10000000) : gRepr G [d] = some (.str d.py.shown) := by
  show (if d.ok = true ∧ d.sh = true ∧ d.dep ≤ 60 ∧ d.py.shown.length ≤ 10000000 then some (D.str d.py.shown) else none) = _
  rw [if_pos h]
theorem repr_b (b : Bool) : ∃ x, (∀ G, gRepr G [.bl b] = some x) ∧ ∀ G, g_ne G x x = some (.bl false) := by
  refine ⟨.str (D.bl b).py.shown, fun G => ?_, fun G => ?_⟩
  · exact repr_of (by cases b <;> exact ⟨by decide +kernel, by decide +kernel, by decide +kernel, by decide +kernel⟩)
  · show fNe G _ _ = _
    unfold fNe
    rw [if_pos (by cases b <;> exact ⟨⟨by decide +kernel, by decide +kernel⟩, Nat.zero_le _, Nat.zero_le _⟩)]
    refine congrArg (fun b => some (D.bl b)) ?_
    cases b <;> decide +kernel
theorem repr_bb (a b : Bool) : ∃ x, (∀ G, gRepr G [.fl [.bl a, .bl b]] = some x) ∧ ∀ G, g_ne G x x = some (.bl false) := by
  refine ⟨.str (D.fl [.bl a, .bl b]).py.shown, fun G => ?_, fun G => ?_⟩
  · exact repr_of (by cases a <;> cases b <;> exact ⟨by decide +kernel, by decide +kernel, by decide +kernel, by decide +kernel⟩)
  · show fNe G _ _ = _
    unfold fNe
    rw [if_pos (by cases a <;> cases b <;> exact ⟨⟨by decide +kernel, by decide +kernel⟩, Nat.zero_le _, Nat.zero_le _⟩)]
    refine congrArg (fun b => some (D.bl b)) ?_
    cases a <;> cases b <;> decide +kernel
end FL
namespace K30
open PySem PySem.Spec PyProof.Rows L2 FL
def eT (w : List I0) : D := .tup (w.map eI)
def nxt (w : List I0) (s : Sd) : List I0 := w ++ [.k s.1, .v s.2.2.1]
def endV (w : List I0) : Int := match w.getLast? with | some (.v a) => a | _ => 0
theorem nxt_last (w : List I0) (s : Sd) : (nxt w s).getLast? = some (.v s.2.2.1) := by simp [nxt]
theorem eq_bb {G : Hs} (a b : Bool) : g_eq G (.bl a) (.bl b) = some (.bl (a == b)) := by
  rw [eq_of (by rfl) (by rfl) (Nat.zero_le _) (Nat.zero_le _)]
  cases a <;> cases b <;> rfl
def cutI (w : List I0) (lo hi : Option Int) : List I0 := (w.drop (HT.sIx w.length 0 lo)).take (HT.sIx w.length w.length hi - HT.sIx w.length 0 lo)
theorem cut_map (w : List I0) (lo hi : Option Int) : FL.cutD (w.map eI) lo hi = (cutI w lo hi).map eI := by
  unfold FL.cutD cutI
  rw [List.length_map, ← List.map_drop, ← List.map_take]
theorem cut_len (w : List I0) (lo hi : Option Int) : (cutI w lo hi).length ≤ w.length := by
  unfold cutI
  rw [List.length_take, List.length_drop]
  omega
theorem slT_of {δ : Env'} {G : Hs} {fa : RE} {fl fh : Env' → Hs → Option (Option Int)} {w : List I0} {lo hi : Option Int} (h : fa δ G = some (eT w)) (hl : fl δ G = some lo) (hh : fh δ G = some hi) : FL.rSlT fa fl fh δ G = some (eT (cutI w lo hi)) := by
  unfold FL.rSlT
  rw [h, Option.bind_some, hl, Option.bind_some, hh, Option.bind_some]
  show some (D.tup (FL.cutD (w.map eI) lo hi)) = _
  rw [cut_map]
  rfl
theorem pN_of {δ : Env'} {G : Hs} : partD none δ G = some none := rfl
theorem pS_of {δ : Env'} {G : Hs} {f : RE} {i : Int} (h : f δ G = some (.int i)) : partD (some f) δ G = some (some i) := by
  show ((f δ G).bind _) = _
  rw [h]
  rfl
theorem catT {G : Hs} {a b : List I0} (h : a.length + b.length ≤ 100000) : g_addA G (eT a) (eT b) = some (eT (a ++ b)) := by
  unfold eT
  rw [cat_tup (by rw [List.length_map, List.length_map]; omega), List.map_append]
theorem one_tup {δ : Env'} {G : Hs} {f : RE} {x : I0} (h : f δ G = some (eI x)) : rTup (rCons f rNil) δ G = some (eT [x]) := tup_of (cons_of h nil_of) (by simp)
theorem back_ix {G : Hs} {w : List I0} {r : Int} (h0 : 0 ≤ r) (h1 : r < w.length) : ∃ x : I0, ixA G (eT w) (.int (r - 1)) = some (eI x) := by
  by_cases hr : r = 0
  · subst hr
    cases e : w.getLast? with
    | none =>
      rw [List.getLast?_eq_none_iff] at e
      subst e
      simp only [List.length_nil] at h1
      omega
    | some x => exact ⟨x, last_of e⟩
  · have : (r - 1).toNat < w.length := by omega
    exact ⟨w[(r - 1).toNat], ix_of (j := (r - 1).toNat) (by omega) (List.getElem?_eq_getElem this)⟩
theorem eIf_t {t : ET} {f g : EE} {δ : Env'} {G G1 : Hs} (h : t δ G = some (true, G1)) : eIf t f g δ G = f δ G1 := by
  unfold eIf
  rw [h]
  rfl
theorem eIf_f {t : ET} {f g : EE} {δ : Env'} {G G1 : Hs} (h : t δ G = some (false, G1)) : eIf t f g δ G = g δ G1 := by
  unfold eIf
  rw [h]
  rfl
theorem asgT_of {f : EE} {δ : Env'} {G G1 : Hs} {d e : D} {i j : Nat} (h : f δ G = some (.tup [d, e], G1)) (hi : i < δ.length) (hj : j < δ.length) : sAsg f (setTup [(setN i), (setN j)]) δ G = some (.nx, (δ.set i (some d)).set j (some e), G1) := by
  unfold sAsg
  rw [h, Option.bind_some]
  show ((setTs [(setN i), (setN j)] [d, e] δ).bind _) = _
  have e1 : setN i d δ = some (δ.set i (some d)) := by
    unfold setN
    rw [if_pos hi]
  have e2 : setN j e (δ.set i (some d)) = some ((δ.set i (some d)).set j (some e)) := by
    unfold setN
    rw [if_pos (by rw [List.length_set]; exact hj)]
  simp [setTs, e1, e2]
theorem etup_of {fs : EA} {δ : Env'} {G G1 : Hs} {ds : List D} (h : fs δ G = some (ds, G1)) (hl : ds.length ≤ 1000) : eTup fs δ G = some (.tup ds, G1) := by
  unfold eTup
  rw [h, Option.bind_some, if_pos hl]
end K30
namespace K30
open PySem PySem.Spec PyProof.Rows L2 FL
def flip : I0 → I0 | .v a => .v a | .k .to => .k .fr | .k .fr => .k .to | .k .ti => .k .ti
def turn (w : List I0) : List I0 := w.reverse.map flip
/-- items and kinds in turn -/
def Alt (w : List I0) : Prop := w.length % 2 = 1 ∧ ∀ i x, w[i]? = some x → (i % 2 = 0 → ∃ a, x = .v a) ∧ (i % 2 = 1 → ∃ k, x = .k k)
section
variable {n : Nat} {A T : List (Int × Int)}
theorem wk_alt {w : List I0} (h : Wk n A T w = true) : Alt w := by
  have h1 := (wk_parts h).1
  refine ⟨h1.2.2, fun i x hx => ?_⟩
  have hi : i < w.length := (List.getElem?_eq_some_iff.mp hx).1
  constructor
  · intro hp
    obtain ⟨a, ea⟩ := isV_even (wk_parts h).2.1 (i := i / 2) (by omega)
    rw [show 2 * (i / 2) = i by omega, hx] at ea
    exact ⟨a, Option.some.inj ea⟩
  · intro hp
    obtain ⟨a, k, b, e0, e1, e2, _⟩ := wk_edge h (i := i / 2) (by omega)
    rw [show 2 * (i / 2) + 1 = i by omega, hx] at e1
    exact ⟨k, Option.some.inj e1⟩
end
end K30
namespace K30
open PySem PySem.Spec PyProof.Rows L2 FL
section
variable {n : Nat} {A T : List (Int × Int)}
theorem turn_len (w : List I0) : (turn w).length = w.length := by simp [turn]
theorem turn_get {w : List I0} {i : Nat} (hi : i < w.length) : (turn w)[i]? = (w[w.length - 1 - i]?).map flip := by
  rw [turn, List.getElem?_map, List.getElem?_reverse hi]
def flipK : Kd → Kd | .to => .fr | .fr => .to | .ti => .ti
theorem flip_k (k : Kd) : flip (.k k) = .k (flipK k) := by cases k <;> rfl
theorem edge_flip (a b : Int) (k : Kd) : edge A T b (flipK k) a = edge A T a k b := by
  cases k with
  | to => rfl
  | fr => rfl
  | ti =>
    show decide ((min b a, max b a) ∈ T) = decide ((min a b, max a b) ∈ T)
    rw [Int.min_comm, Int.max_comm]
theorem edO_none (x y : Option I0) : edO A T x y none = false := by
  cases x with
  | none => rfl
  | some x => cases x with
    | k k => rfl
    | v a => cases y with
      | none => rfl
      | some y => cases y <;> rfl
theorem turn_wk {w : List I0} (h : Wk n A T w = true) : Wk n A T (turn w) = true := by
  obtain ⟨h1, h2, h3⟩ := wk_parts h
  have s1 : szOK (turn w).length = true := by
    rw [turn_len]
    unfold szOK
    exact decide_eq_true ⟨h1.2.2, h1.1, h1.2.1⟩
  have s2 : (ev2 (turn w)).all (isVx n) = true := by
    rw [ev2_all (isVx n) (isV n) (fun _ => rfl), List.all_eq_true, turn_len]
    intro k hk
    have hk := List.mem_range.mp hk
    rw [turn_get (by omega)]
    rw [ev2_all (isVx n) (isV n) (fun _ => rfl), List.all_eq_true] at h2
    have := h2 ((w.length - 1) / 2 - k) (List.mem_range.mpr (by omega))
    rw [show 2 * ((w.length - 1) / 2 - k) = w.length - 1 - 2 * k by omega] at this
    revert this
    cases w[w.length - 1 - 2 * k]? with
    | none => exact id
    | some x => cases x with
      | v a => exact id
      | k k => intro h; cases h
  have s3 : edges A T (turn w) = true := by
    unfold edges
    rw [List.all_eq_true, turn_len]
    intro i hi
    have hi := List.mem_range.mp hi
    obtain ⟨a, k, b, e0, e1, e2, he⟩ := wk_edge h (i := (w.length - 3) / 2 - i) (by omega)
    rw [turn_get (by omega), turn_get (by omega), turn_get (by omega), show w.length - 1 - 2 * i = 2 * ((w.length - 3) / 2 - i) + 2 by omega, show w.length - 1 - (2 * i + 1) = 2 * ((w.length - 3) / 2 - i) + 1 by omega, show w.length - 1 - (2 * i + 2) = 2 * ((w.length - 3) / 2 - i) by omega, e0, e1, e2]
    show edO A T (some (flip (.v b))) (some (flip (.k k))) (some (flip (.v a))) = true
    rw [flip_k]
    exact (edge_flip a b k).trans he
  unfold Wk
  rw [s1, s2, s3]
  rfl
theorem hd_flip (k : Kd) : hd1 (flipK k) = hd2 k ∧ hd2 (flipK k) = hd1 k := by cases k <;> exact ⟨rfl, rfl⟩
theorem all_rev {m : Nat} {c d : Nat → Bool} (h : ∀ i < m, c i = d (m - 1 - i)) : (List.range m).all c = (List.range m).all d := by
  rw [Bool.eq_iff_iff, List.all_eq_true, List.all_eq_true]
  constructor
  · intro hh i hi
    have hi := List.mem_range.mp hi
    have := hh (m - 1 - i) (List.mem_range.mpr (by omega))
    rw [h _ (by omega), show m - 1 - (m - 1 - i) = i by omega] at this
    exact this
  · intro hh i hi
    have hi := List.mem_range.mp hi
    rw [h _ hi]
    exact hh _ (List.mem_range.mpr (by omega))
theorem turn_opn {w : List I0} (gv : List Int) (h : Wk n A T w = true) : Opn n A T gv (turn w) = Opn n A T gv w := by
  have h1 := (wk_parts h).1
  unfold Opn
  rw [h, turn_wk h, turn_len]
  obtain ⟨a, k, b, e0, _, _, _⟩ := wk_edge h (i := 0) (by omega)
  obtain ⟨z, ez⟩ := wk_last h
  have e0 : w[0]? = some (.v a) := e0
  have f0 : (turn w)[0]? = some (.v z) := by
    rw [turn_get (by omega), show w.length - 1 - 0 = w.length - 1 by omega, ← List.getLast?_eq_getElem?, ez]
    rfl
  have fz : (turn w).getLast? = some (.v a) := by
    rw [List.getLast?_eq_getElem?, turn_len, turn_get (by omega), show w.length - 1 - (w.length - 1) = 0 by omega, e0]
    rfl
  rw [f0, fz, e0, ez, Bool.or_comm (memO gv (some (.v z)))]
  congr 2
  refine all_rev fun i hi => ?_
  obtain ⟨a, p, b, e0, e1, e2, _⟩ := wk_edge h (i := (w.length - 3) / 2 - 1 - i) (by omega)
  obtain ⟨b', q, c, e2', e3, e4, _⟩ := wk_edge h (i := (w.length - 3) / 2 - 1 - i + 1) (by omega)
  rw [turn_get (by omega), turn_get (by omega), turn_get (by omega), show w.length - 1 - (2 * i + 2) = 2 * ((w.length - 3) / 2 - 1 - i) + 2 by omega, show w.length - 1 - (2 * i + 1) = 2 * ((w.length - 3) / 2 - 1 - i) + 3 by omega, show w.length - 1 - (2 * i + 3) = 2 * ((w.length - 3) / 2 - 1 - i) + 1 by omega]
  have e3 : w[2 * ((w.length - 3) / 2 - 1 - i) + 3]? = some (.k q) := e3
  rw [e1, e2, e3]
  simp only [Option.map_some, flip_k]
  show (memO gv (some (.v b)) == (hd1 (flipK q) && hd2 (flipK p))) = (memO gv (some (.v b)) == (hd1 p && hd2 q))
  rw [(hd_flip q).1, (hd_flip p).2, Bool.and_comm]
end
end K30
namespace K30
open PySem PySem.Spec PyProof.Rows L2 FL
theorem take_P {m : Int} (hm : 0 < m) (xs : List Int) : ∃ (r : Int) (xs' : List Int), f__law_take [.rf 0, .int m] [.lst (xs.map .int)] = some (.int r, [.lst (xs'.map .int)]) ∧ 0 ≤ r ∧ r < m := by
  have gc : ∀ (r : Int) (ys : List Int), gcD 1 (.int r) [.lst (ys.map .int)] = some (.int r, [.lst (ys.map .int)]) := fun r ys => by
    unfold gcD
    simp [GO.flat, ims_int, D.im]
  cases e : xs.reverse with
  | nil =>
    have : xs = [] := by simpa using e
    subst this
    exact ⟨0, [], rfl, Int.le_refl _, hm⟩
  | cons x ys =>
    have hx : xs = ys.reverse ++ [x] := by
      rw [← List.reverse_reverse xs, e, List.reverse_cons]
    subst hx
    refine ⟨x % m, ys.reverse, ?_, Int.emod_nonneg _ (by omega), Int.emod_lt_of_pos _ hm⟩
    have h : b__law_take (slots 2 [.rf 0, .int m]) [.lst ((ys.reverse ++ [x]).map .int)] = some (.rt (.int (x % m)), slots 2 [.rf 0, .int m], [.lst (ys.reverse.map .int)]) := by
      refine (sq_nx (if_f (ofRT_of (not_f (tru_of (var_of rfl) ?_))))).trans (ret_of (ebin_of (ecal_of (econs_of (pop_of (k := 0) (var_of rfl) rfl) enil_of) rfl) (ofR_of (var_of rfl)) (mod_ii _ _ hm)))
      simp [truD]
    show ((b__law_take (slots 2 [.rf 0, .int m]) [.lst ((ys.reverse ++ [x]).map .int)]).bind _) = _
    rw [h]
    exact gc _ _
theorem flat_int (xs : List Int) : (GO.lst (xs.map D.int)).flat = true := ims_int xs
theorem tk_of {δ : Env'} {G : Hs} {k : Nat} {fo fm : RE} {xs : List Int} {m : Int} (ho : fo δ G = some (.rf k)) (hk : G[k]? = some (.lst (xs.map .int))) (hm : fm δ G = some (.int m)) (h : 0 < m) :
    ∃ (r : Int) (xs' : List Int), eCallB 2 f__law_take (eCons (ofR fo) (eCons (ofR fm) (ofRA rNil))) δ G = some (.int r, G.set k (.lst (xs'.map .int))) ∧ 0 ≤ r ∧ r < m := by
  obtain ⟨r, xs', h1, h2⟩ := take_P h xs
  exact ⟨r, xs', callB_of (econs_of (ofR_of ho) (econs_of (ofR_of hm) enil_of)) rfl rfl hk (flat_int _) h1 (flat_int _) rfl, h2⟩
def DI1 (ns : List Int) (m : Nat) (_ : Unit) (δ : Env') (G : Hs) : Prop := ∃ (xs : List Int) (big : Int) (o4 o5 o6 : Option D), δ = [some (.scr ns), some (.int 420), some (.rf 0), some (.int big), o4, o5, o6] ∧ G = [.lst (xs.map .int)] ∧ xs.length + m ≤ 420
def DI2 (ns : List Int) (m : Nat) (_ : Unit) (δ : Env') (G : Hs) : Prop := ∃ (xs : List Int) (seed : Int) (o3 o5 o6 : Option D), δ = [some (.scr ns), some (.int 420), some (.rf 0), o3, some (.int seed), o5, o6] ∧ G = [.lst (xs.map .int)] ∧ xs.length + m ≤ 420 ∧ 0 ≤ seed ∧ seed < 2147483647
theorem draws1 (ns : List Int) (i : Nat) {m : Nat} {u : Unit} {δ : Env'} {G : Hs} (h : DI1 ns (m + 1) u δ G) : ∃ δ1, setN 5 (.int (0 + (i : Int))) δ = some δ1 ∧ ∃ δ2 G2, (sIf (ofRT (rB (rBin g_gtA (rVar 3) (rC (.int 0)))))
     (sSeq (sExp (eMet gAppend (rVar 2) (eCons (ofR (rBin g_mod (rCal gInt (rCons (rVar 3) rNil)) (rC (.int 1009)))) (ofRA rNil))))
     (sAsg (ofR (rBin g_div (rVar 3) (rC (.int 1009)))) (setN 3)))
     FL.sNil) δ1 G = some (.nx, δ2, G2) ∧ DI1 ns m () δ2 G2 := by
  obtain ⟨xs, big, o4, o5, o6, hδ, hG, hm⟩ := h
  subst hδ hG
  refine ⟨_, rfl, ?_⟩
  have t : rB (rBin g_gtA (rVar 3) (rC (.int 0))) [some (.scr ns), some (.int 420), some (.rf 0), some (.int big), o4, some (.int (0 + (i : Int))), o6] [.lst (xs.map .int)] = some (decide (0 < big)) := b_of (bin_of (var_of rfl) c_of (gt_ii _ _))
  by_cases hb : 0 < big
  · rw [decide_eq_true hb] at t
    refine ⟨_, _, (if_t (ofRT_of t)).trans ((sq_nx (exp_of (app_of (k := 0) (var_of rfl) rfl (econs1_of (ofR_of (bin_of (cal1_of (var_of rfl) rfl) c_of (mod_ii _ _ (by decide))))) rfl (by rw [List.length_map]; omega)))).trans (asg_of (ofR_of (bin_of (var_of rfl) c_of (div_ii _ _ (by decide +kernel)))) (by simp))), xs ++ [big % 1009], big / 1009, _, _, _, rfl, ?_, by simp; omega⟩
    show [GO.lst (xs.map .int ++ [.int (big % 1009)])] = _
    rw [List.map_append]
    rfl
  · rw [decide_eq_false hb] at t
    exact ⟨_, _, (if_f (ofRT_of t)).trans rfl, xs, big, _, _, _, rfl, rfl, by omega⟩
theorem draws2 (ns : List Int) (i : Nat) (hi : i ≤ 1000) {m : Nat} {u : Unit} {δ : Env'} {G : Hs} (h : DI2 ns (m + 1) u δ G) : ∃ δ1, setN 5 (.int (0 + (i : Int))) δ = some δ1 ∧ ∃ δ2 G2, (sSeq (sAsg (ofR (rVar 5)) (setN 6))
   (sSeq (sIf (ofRT (rTru (rVar 0)))
    (sAsg (ofR (rBin g_mod (rCal gInt (rCons (rBin ixA (rVar 0) (rBin g_mod (rCal gInt (rCons (rBin g_addA (rVar 5) (rC (.int 1))) rNil)) (rCal gLen (rCons (rVar 0) rNil)))) rNil)) (rC (.int 2147483647)))) (setN 6))
    FL.sNil)
   (sSeq (sAsg (ofR (rBin g_mod (rCal gInt (rCons (rBin g_addA (rBin g_addA (rBin g_addA (rBin g_mulA (rVar 4) (rC (.int 48271))) (rVar 6)) (rBin g_mulA (rVar 5) (rC (.int 69621)))) (rC (.int 13))) rNil)) (rC (.int 2147483647)))) (setN 4))
   (sExp (eMet gAppend (rVar 2) (eCons (ofR (rBin g_mod (rCal gInt (rCons (rBin g_div (rBin g_mod (rCal gInt (rCons (rBin g_addA (rBin g_mulA (rVar 4) (rC (.int 16807))) (rC (.int 54321))) rNil)) (rC (.int 2147483647))) (rC (.int 7))) rNil)) (rC (.int 1009)))) (ofRA rNil))))))) δ1 G = some (.nx, δ2, G2) ∧ DI2 ns m () δ2 G2 := by
  obtain ⟨xs, seed, o3, o5, o6, hδ, hG, hm, hs0, hs1⟩ := h
  subst hδ hG
  refine ⟨_, rfl, ?_⟩
  have hcell : ∃ cell : Int, sIf (ofRT (rTru (rVar 0)))
    (sAsg (ofR (rBin g_mod (rCal gInt (rCons (rBin ixA (rVar 0) (rBin g_mod (rCal gInt (rCons (rBin g_addA (rVar 5) (rC (.int 1))) rNil)) (rCal gLen (rCons (rVar 0) rNil)))) rNil)) (rC (.int 2147483647)))) (setN 6))
    FL.sNil [some (.scr ns), some (.int 420), some (.rf 0), o3, some (.int seed), some (.int (0 + (i : Int))), some (.int (0 + (i : Int)))] [.lst (xs.map .int)] = some (.nx, [some (.scr ns), some (.int 420), some (.rf 0), o3, some (.int seed), some (.int (0 + (i : Int))), some (.int cell)], [.lst (xs.map .int)]) := by
    cases ns with
    | nil => exact ⟨0 + (i : Int), (if_f (ofRT_of (tru_of (var_of rfl) rfl))).trans rfl⟩
    | cons x ns =>
      have hp : (0 : Int) < (x :: ns).length := by simp only [List.length_cons]; omega
      have h0 := Int.emod_nonneg (0 + (i : Int) + 1) (show ((x :: ns).length : Int) ≠ 0 by omega)
      have h1 := Int.emod_lt_of_pos (0 + (i : Int) + 1) hp
      have e : (x :: ns)[((0 + (i : Int) + 1) % ((x :: ns).length : Int)).toNat]? = some ((x :: ns)[((0 + (i : Int) + 1) % ((x :: ns).length : Int)).toNat]'(by omega)) := List.getElem?_eq_getElem (by omega)
      refine ⟨_, (if_t (ofRT_of (tru_of (var_of rfl) rfl))).trans (asg_of (ofR_of (bin_of (cal1_of (bin_of (var_of rfl) (bin_of (cal1_of (bin_of (var_of rfl) c_of (add_ii _ _)) rfl) (cal1_of (var_of rfl) (len_scr _)) (mod_ii _ _ hp)) ((ixA_scr _ _).trans (by rw [at_int _ h0, e]; rfl))) rfl) c_of (mod_ii _ _ (by decide)))) (by simp))⟩
  obtain ⟨cell, hcell⟩ := hcell
  have hn0 := Int.emod_nonneg (seed * 48271 + cell + (0 + (i : Int)) * 69621 + 13) (show (2147483647 : Int) ≠ 0 by decide)
  have hn1 := Int.emod_lt_of_pos (seed * 48271 + cell + (0 + (i : Int)) * 69621 + 13) (show (0 : Int) < 2147483647 by decide)
  refine ⟨_, _, (sq_nx (asg_of (ofR_of (var_of rfl)) (by simp))).trans ((sq_nx hcell).trans ((sq_nx (asg_of (ofR_of (bin_of (cal1_of (bin_of (bin_of (bin_of (bin_of (var_of rfl) c_of (mul_ii seed _ (by omega) (by decide))) (var_of rfl) (add_ii _ _)) (bin_of (var_of rfl) c_of (mul_ii (0 + (i : Int)) _ (by omega) (by decide))) (add_ii _ _)) c_of (add_ii _ _)) rfl) c_of (mod_ii _ _ (by decide)))) (by simp))).trans (exp_of (app_of (k := 0) (var_of rfl) rfl (econs1_of (ofR_of (bin_of (cal1_of (bin_of (bin_of (cal1_of (bin_of (bin_of (var_of rfl) c_of (mul_ii ((seed * 48271 + cell + (0 + (i : Int)) * 69621 + 13) % 2147483647) _ (by omega) (by decide))) c_of (add_ii _ _)) rfl) c_of (mod_ii _ _ (by decide))) c_of (div_ii _ _ (by decide +kernel))) rfl) c_of (mod_ii _ _ (by decide))))) rfl (by rw [List.length_map]; omega))))), xs ++ [((seed * 48271 + cell + (0 + (i : Int)) * 69621 + 13) % 2147483647 * 16807 + 54321) % 2147483647 / 7 % 1009], _, _, _, _, rfl, ?_, by simp; omega, hn0, hn1⟩
  · show [GO.lst (xs.map .int ++ [.int (((seed * 48271 + cell + (0 + (i : Int)) * 69621 + 13) % 2147483647 * 16807 + 54321) % 2147483647 / 7 % 1009)])] = _
    rw [List.map_append]
    rfl
theorem draws_P (ns : List Int) : ∃ xs : List Int, f__law_draws [.scr ns, .int 420] [] = some (.rf 0, [.lst (xs.map .int)]) := by
  have hbig : ∃ big : Int, rIf (rTru (rVar 0)) (rCal gAbs (rCons (rCal gInt (rCons (rBin ixA (rVar 0) (rC (.int 0))) rNil)) rNil)) (rC (.int 0)) [some (.scr ns), some (.int 420), some (.rf 0), none, none, none, none] [.lst []] = some (.int big) := by
    cases ns with
    | nil => exact ⟨0, (rif_f (tru_of (var_of rfl) rfl)).trans rfl⟩
    | cons x ns => exact ⟨_, (rif_t (tru_of (var_of rfl) rfl)).trans (cal1_of (cal1_of (bin_of (var_of rfl) c_of ((ixA_scr _ _).trans (by rw [at_0]; rfl))) rfl) rfl)⟩
  obtain ⟨big, hbig⟩ := hbig
  have t : rB (rBin g_geA (rVar 3) (rC (.int 1000000000000000000))) [some (.scr ns), some (.int 420), some (.rf 0), some (.int big), none, none, none] [.lst []] = some (decide (1000000000000000000 ≤ big)) := b_of (bin_of (var_of rfl) c_of (ge_ii _ _))
  have hif : ∃ (xs : List Int) (bq : Int) (o4 o5 o6 : Option D), sIf (ofRT (rB (rBin g_geA (rVar 3) (rC (.int 1000000000000000000)))))
   (sFor (ofRA (iRgR rng1 (rCons (rVar 1) rNil))) (setN 5)
    (sIf (ofRT (rB (rBin g_gtA (rVar 3) (rC (.int 0)))))
     (sSeq (sExp (eMet gAppend (rVar 2) (eCons (ofR (rBin g_mod (rCal gInt (rCons (rVar 3) rNil)) (rC (.int 1009)))) (ofRA rNil))))
     (sAsg (ofR (rBin g_div (rVar 3) (rC (.int 1009)))) (setN 3)))
     FL.sNil))
   FL.sNil [some (.scr ns), some (.int 420), some (.rf 0), some (.int big), none, none, none] [.lst []] = some (.nx, [some (.scr ns), some (.int 420), some (.rf 0), some (.int bq), o4, o5, o6], [.lst (xs.map .int)]) ∧ xs.length ≤ 420 := by
    by_cases hb : 1000000000000000000 ≤ big
    · rw [decide_eq_true hb] at t
      obtain ⟨δ', G', h1, xs, big', o4, o5, o6, rfl, rfl, hm⟩ := forL_fold (set := setN 5) (b := (sIf (ofRT (rB (rBin g_gtA (rVar 3) (rC (.int 0)))))
     (sSeq (sExp (eMet gAppend (rVar 2) (eCons (ofR (rBin g_mod (rCal gInt (rCons (rVar 3) rNil)) (rC (.int 1009)))) (ofRA rNil))))
     (sAsg (ofR (rBin g_div (rVar 3) (rC (.int 1009)))) (setN 3)))
     FL.sNil)) (fun i : Nat => D.int (0 + (i : Int))) (fun _ _ => ()) (DI1 ns) (List.range (420 : Int).toNat) () [some (.scr ns), some (.int 420), some (.rf 0), some (.int big), none, none, none] [.lst []] ⟨[], big, none, none, none, rfl, rfl, by simp⟩ fun i _ m u δ G h => draws1 ns i h
      exact ⟨xs, big', o4, o5, o6, (if_t (ofRT_of t)).trans ((for_nx (ofRA_of (rg1_of (j := 420) (var_of rfl) (by decide) (by decide)))).trans h1), by omega⟩
    · rw [decide_eq_false hb] at t
      exact ⟨[], big, none, none, none, (if_f (ofRT_of t)).trans rfl, by simp⟩
  obtain ⟨xs, big', o4, o5, o6, hif, hx⟩ := hif
  obtain ⟨δ', G', h1, xs', seed, o3, o5', o6', rfl, rfl, _⟩ := forL_fold (set := setN 5) (b := (sSeq (sAsg (ofR (rVar 5)) (setN 6))
   (sSeq (sIf (ofRT (rTru (rVar 0)))
    (sAsg (ofR (rBin g_mod (rCal gInt (rCons (rBin ixA (rVar 0) (rBin g_mod (rCal gInt (rCons (rBin g_addA (rVar 5) (rC (.int 1))) rNil)) (rCal gLen (rCons (rVar 0) rNil)))) rNil)) (rC (.int 2147483647)))) (setN 6))
    FL.sNil)
   (sSeq (sAsg (ofR (rBin g_mod (rCal gInt (rCons (rBin g_addA (rBin g_addA (rBin g_addA (rBin g_mulA (rVar 4) (rC (.int 48271))) (rVar 6)) (rBin g_mulA (rVar 5) (rC (.int 69621)))) (rC (.int 13))) rNil)) (rC (.int 2147483647)))) (setN 4))
   (sExp (eMet gAppend (rVar 2) (eCons (ofR (rBin g_mod (rCal gInt (rCons (rBin g_div (rBin g_mod (rCal gInt (rCons (rBin g_addA (rBin g_mulA (rVar 4) (rC (.int 16807))) (rC (.int 54321))) rNil)) (rC (.int 2147483647))) (rC (.int 7))) rNil)) (rC (.int 1009)))) (ofRA rNil)))))))) (fun i : Nat => D.int (0 + (i : Int))) (fun _ _ => ()) (DI2 ns) (List.range (420 - (xs.length : Int)).toNat) () [some (.scr ns), some (.int 420), some (.rf 0), some (.int big'), some (.int 3011), o5, o6] [.lst (xs.map .int)] ⟨xs, 3011, _, _, _, rfl, rfl, by rw [List.length_range]; omega, by decide, by decide⟩ fun i hi m u δ G h => draws2 ns i (by have := List.mem_range.mp hi; omega) h
  have h : b__law_draws (slots 7 [.scr ns, .int 420]) [] = some (.rt (.rf 1), [some (.scr ns), some (.int 420), some (.rf 0), o3, some (.int seed), o5', o6'], [.lst (xs'.map .int), .lst (xs'.map .int).reverse]) :=
    (sq_nx (asg_of (d := .rf 0) (G1 := [.lst []]) rfl (by show (2 : Nat) < 7; decide))).trans ((sq_nx (asg_of (ofR_of hbig) (by show (3 : Nat) < 7; decide))).trans ((sq_nx hif).trans ((sq_nx (asg_of (ofR_of c_of) (by simp))).trans ((sq_nx ((for_nx (ofRA_of (rg1_of (j := 420 - (xs.length : Int)) (bin_of (var_of rfl) (cal1_of (var_of rfl) ((len_rf (k := 0) (ds := xs.map .int) rfl).trans (by rw [List.length_map]))) (sub_ii _ _)) (by omega) (by omega)))).trans h1)).trans (ret_of rfl)))))
  refine ⟨xs'.reverse, ?_⟩
  show ((b__law_draws (slots 7 [.scr ns, .int 420]) []).bind _) = _
  rw [h]
  show gcD 0 (.rf 1) _ = _
  unfold gcD
  simp [D.im, GO.flat, ← List.map_reverse, ims_int]
end K30
namespace K30
open PySem PySem.Spec PyProof.Rows L2 FL
def OI (m : Nat) (k : Nat) (_ : Unit) (δ : Env') (G : Hs) : Prop := ∃ (xs left out : List Int) (o4 : Option D), δ = [some (.rf 0), some (.int m), some (.rf 1), some (.rf 2), o4] ∧ G = [.lst (xs.map .int), .lst (left.map .int), .lst (out.map .int)] ∧ left.length = k ∧ (out ++ left).Perm (upto m)
theorem upto_len (m : Nat) : (upto m).length = m := by simp [upto]
theorem order_step (m : Nat) (hm : m ≤ 100) (i : Nat) {k : Nat} {u : Unit} {δ : Env'} {G : Hs} (h : OI m (k + 1) u δ G) : ∃ δ1, setN 4 (.int (0 + (i : Int))) δ = some δ1 ∧ ∃ δ2 G2, (sExp (eMet gAppend (rVar 3) (eCons (eMet gPopAt (rVar 2) (eCons (eCallB 2 f__law_take (eCons (ofR (rVar 0)) (eCons (ofR (rCal gLen (rCons (rVar 2) rNil))) (ofRA rNil)))) (ofRA rNil))) (ofRA rNil)))) δ1 G = some (.nx, δ2, G2) ∧ OI m k () δ2 G2 := by
  obtain ⟨xs, left, out, o4, hδ, hG, hl, hp⟩ := h
  subst hδ hG
  refine ⟨_, rfl, ?_⟩
  have hlen := hp.length_eq
  rw [List.length_append, upto_len] at hlen
  obtain ⟨r, xs', h1, h2, h3⟩ := tk_of (δ := [some (.rf 0), some (.int m), some (.rf 1), some (.rf 2), some (.int (0 + (i : Int)))]) (G := [.lst (xs.map .int), .lst (left.map .int), .lst (out.map .int)]) (k := 0) (fo := rVar 0) (fm := rCal gLen (rCons (rVar 2) rNil)) (xs := xs) (m := left.length) (var_of rfl) rfl (cal1_of (var_of rfl) ((len_rf (k := 1) (ds := left.map .int) rfl).trans (by rw [List.length_map]))) (by omega)
  have hr : r.toNat < left.length := by omega
  have hd : (left.map D.int)[r.toNat]? = some (.int left[r.toNat]) := by
    rw [List.getElem?_map, List.getElem?_eq_getElem hr]
    rfl
  refine ⟨_, _, exp_of (app_of (k := 2) (xs := out.map .int) (ys := out.map .int) (var_of rfl) rfl (econs1_of (popAt_of (k := 1) (var_of rfl) rfl (econs1_of h1) rfl (by omega) hd)) rfl (by rw [List.length_map]; omega)), xs', left.eraseIdx r.toNat, out ++ [left[r.toNat]], _, rfl, ?_, ?_, ?_⟩
  · show [GO.lst (xs'.map D.int), GO.lst ((left.map D.int).eraseIdx r.toNat), GO.lst (out.map D.int ++ [.int left[r.toNat]])] = _
    rw [erase_map, List.map_append]
    rfl
  · rw [List.length_eraseIdx_of_lt hr]
    omega
  · rw [List.append_assoc]
    exact ((cons_erase hr).append_left out).trans hp
theorem order_P (m : Nat) (hm : m ≤ 100) (xs : List Int) : ∃ ord xs' : List Int, f__law_order [.rf 0, .int m] [.lst (xs.map .int)] = some (.rf 1, [.lst (xs'.map .int), .lst (ord.map .int)]) ∧ ord.Perm (upto m) := by
  obtain ⟨δ', G', h1, xs', left, out, o4, rfl, rfl, hl, hp⟩ := forL_fold (set := setN 4) (b := (sExp (eMet gAppend (rVar 3) (eCons (eMet gPopAt (rVar 2) (eCons (eCallB 2 f__law_take (eCons (ofR (rVar 0)) (eCons (ofR (rCal gLen (rCons (rVar 2) rNil))) (ofRA rNil)))) (ofRA rNil))) (ofRA rNil))))) (fun i : Nat => D.int (0 + (i : Int))) (fun _ _ => ()) (OI m) (List.range (m : Int).toNat) () [some (.rf 0), some (.int m), some (.rf 1), some (.rf 2), none] [.lst (xs.map .int), .lst ((upto m).map .int), .lst []] ⟨xs, upto m, [], none, rfl, rfl, by rw [upto_len, List.length_range, Int.toNat_natCast], List.Perm.refl _⟩ fun i _ k u δ G h => order_step m hm i h
  have hl : left = [] := List.eq_nil_of_length_eq_zero hl
  subst hl
  rw [List.append_nil] at hp
  refine ⟨out, xs', ?_, hp⟩
  have hr : rgL rng1 (rCons (rVar 1) rNil) (slots 5 [.rf 0, .int m]) [.lst (xs.map .int)] = some (.rf 1, [.lst (xs.map .int), .lst ((upto m).map .int)]) := by
    have e : rng1 [.int (m : Int)] = some ((upto m).map .int) := by
      show (if -1000000 ≤ (m : Int) ∧ (m : Int) ≤ 1000000 then some (rangeD 0 (m : Int).toNat) else none) = _
      rw [if_pos (by omega)]
      unfold rangeD upto
      rw [List.map_map, Int.toNat_natCast]
      congr 2
      funext i
      show D.int (0 + (i : Int)) = D.int (i : Int)
      rw [Int.zero_add]
    show ((rng1 [.int (m : Int)]).bind fun xs' => some (D.rf 1, [GO.lst (xs.map .int)] ++ [GO.lst xs'])) = _
    rw [e]
    rfl
  have h : b__law_order (slots 5 [.rf 0, .int m]) [.lst (xs.map .int)] = some (.rt (.rf 2), [some (.rf 0), some (.int m), some (.rf 1), some (.rf 2), o4], [.lst (xs'.map .int), .lst [], .lst (out.map .int)]) :=
    (sq_nx (asg_of hr (by show (2 : Nat) < 5; decide))).trans ((sq_nx (asg_of (d := .rf 2) (G1 := [.lst (xs.map .int), .lst ((upto m).map .int), .lst []]) rfl (by show (3 : Nat) < 5; decide))).trans ((sq_nx ((for_nx (ofRA_of (rg1_of (j := m) (var_of rfl) (by omega) (by omega)))).trans h1)).trans (ret_of (ofR_of (var_of rfl)))))
  show ((b__law_order (slots 5 [.rf 0, .int m]) [.lst (xs.map .int)]).bind _) = _
  rw [h]
  show gcD 1 (.rf 2) _ = _
  unfold gcD
  simp [D.im, GO.flat, ims_int]
end K30
namespace K30
open PySem PySem.Spec PyProof.Rows L2 FL
theorem sort_P {G : Hs} {d : D} {L : List (Int × Int)} (h : lstG G d = some (L.map eP)) (hl : L.length ≤ 1000000) : gSortedA G [d] = some (.fl ((L.mergeSort leP).map eP)) := by
  have so : sortable (L.map eP) = true := by
    unfold sortable
    simp only [List.all_map, Bool.and_eq_true, List.all_eq_true, Function.comp_apply, Bool.or_eq_true, decide_eq_true_eq, List.length_map]
    refine ⟨⟨⟨fun x _ y _ => alike_P x y, fun x _ => ⟨rfl, ?_⟩⟩, by omega⟩, .inl fun x _ => rfl⟩
    show (1 : Nat) ≤ 60
    decide
  have e : gSorted G [d] = some (.fl ((L.mergeSort leP).map eP)) := by
    unfold gSorted
    simp only [h, Option.bind_some]
    rw [if_pos so, srtd_P]
  show (match gSorted G [d] with | some d => some d | none => gSortedN G [d]) = _
  rw [e]
def mn (a b : Int) : Int := if b < a then b else a
def mx (a b : Int) : Int := if b > a then b else a
def og (ord : List Int) (i : Nat) : Int := ord.getD i 0
def fA (ord : List Int) (p : Nat × Nat) : Int × Int := (og ord p.1, og ord p.2)
def fT (ord : List Int) (p : Nat × Nat) : Int × Int := (mn (og ord p.1) (og ord p.2), mx (og ord p.1) (og ord p.2))
def prs (m i : Nat) : List (Nat × Nat) := (List.range (m - (i + 1))).map fun k => (i, i + 1 + k)
def allP (m : Nat) : List (Nat × Nat) := (List.range m).flatMap (prs m)
/-- behind some pairs -/
def WB (m : Nat) (th ti : Int) (ord : List Int) (o5 : Option (Option D)) (done : List (Nat × Nat)) (δ : Env') (G : Hs) : Prop :=
  ∃ (xs : List Int) (IA IT : List (Nat × Nat)) (o5' o8 : Option D), δ = [some (.rf 0), some (.int m), some (.int th), some (.int ti), some (.rf 1), o5', some (.rf 2), some (.rf 3), o8] ∧ (∀ o, o5 = some o → o = o5') ∧ G = [.lst (xs.map .int), .lst (ord.map .int), .lst ((IA.map (fA ord)).map eP), .lst ((IT.map (fT ord)).map eP)] ∧ IA.Sublist done ∧ IT.Sublist done ∧ IT.length ≤ 6
theorem ord_ix {G : Hs} {ord : List Int} (hG : G[1]? = some (.lst (ord.map .int))) {i : Nat} (hi : i < ord.length) {v : Int} (hv : v = i) : ixA G (.rf 1) (.int v) = some (.int (og ord i)) := by
  subst hv
  rw [ixA_rf _ hG, at_nat, List.getElem?_map]
  unfold og
  rw [List.getD_eq_getElem?_getD, List.getElem?_eq_getElem hi]
  rfl
theorem pair_step {m : Nat} {th ti : Int} {ord : List Int} (hm : m ≤ 6) (ho : ord.length = m) {i j : Nat} (hij : i < m ∧ j < m) {done : List (Nat × Nat)} (hd : done.length ≤ 1000) {δ : Env'} {G : Hs} {vj : Int} (hvj : vj = j) (h : WB m th ti ord (some (some (.int (0 + (i : Int))))) done δ G) :
    ∃ δ1, setN 8 (.int vj) δ = some δ1 ∧ ∃ δ2 G2, (sSeq (sIf (eB (eBin g_ltA (eCallB 2 f__law_take (eCons (ofR (rVar 0)) (eCons (ofR (rC (.int 8))) (ofRA rNil)))) (ofR (rVar 2))))
     (sExp (eMet gAppend (rVar 6) (eCons (ofR (rTup (rCons (rBin ixA (rVar 4) (rVar 5)) (rCons (rBin ixA (rVar 4) (rVar 8)) rNil)))) (ofRA rNil))))
     FL.sNil)
    (sIf (eAnd (eB (eBin g_ltA (eCallB 2 f__law_take (eCons (ofR (rVar 0)) (eCons (ofR (rC (.int 8))) (ofRA rNil)))) (ofR (rVar 3)))) (ofRT (rB (rBin g_ltA (rCal gLen (rCons (rVar 7) rNil)) (rC (.int 6))))))
     (sExp (eMet gAppend (rVar 7) (eCons (ofR (rTup (rCons (rCal gMin2 (rCons (rBin ixA (rVar 4) (rVar 5)) (rCons (rBin ixA (rVar 4) (rVar 8)) rNil))) (rCons (rCal gMax2 (rCons (rBin ixA (rVar 4) (rVar 5)) (rCons (rBin ixA (rVar 4) (rVar 8)) rNil))) rNil)))) (ofRA rNil))))
     FL.sNil)) δ1 G = some (.nx, δ2, G2) ∧ WB m th ti ord (some (some (.int (0 + (i : Int))))) (done ++ [(i, j)]) δ2 G2 := by
  obtain ⟨xs, IA, IT, o5', o8, hδ, h5, hG, sA, sT, lT⟩ := h
  have h5 := h5 _ rfl
  subst hδ hG h5 hvj
  have lA := sA.length_le
  refine ⟨_, rfl, ?_⟩
  have s0 : ∀ {I : List (Nat × Nat)}, I.Sublist done → I.Sublist (done ++ [(i, j)]) := fun h => h.trans (List.sublist_append_left _ _)
  have s1 : ∀ {I : List (Nat × Nat)}, I.Sublist done → (I ++ [(i, j)]).Sublist (done ++ [(i, j)]) := fun h => h.append (List.Sublist.refl _)
  -- the first question
  have step1 : ∃ (xs' : List Int) (IA' : List (Nat × Nat)), sIf (eB (eBin g_ltA (eCallB 2 f__law_take (eCons (ofR (rVar 0)) (eCons (ofR (rC (.int 8))) (ofRA rNil)))) (ofR (rVar 2))))
     (sExp (eMet gAppend (rVar 6) (eCons (ofR (rTup (rCons (rBin ixA (rVar 4) (rVar 5)) (rCons (rBin ixA (rVar 4) (rVar 8)) rNil)))) (ofRA rNil))))
     FL.sNil [some (.rf 0), some (.int m), some (.int th), some (.int ti), some (.rf 1), some (.int (0 + (i : Int))), some (.rf 2), some (.rf 3), some (.int (j : Int))] [.lst (xs.map .int), .lst (ord.map .int), .lst ((IA.map (fA ord)).map eP), .lst ((IT.map (fT ord)).map eP)] = some (.nx, [some (.rf 0), some (.int m), some (.int th), some (.int ti), some (.rf 1), some (.int (0 + (i : Int))), some (.rf 2), some (.rf 3), some (.int (j : Int))], [.lst (xs'.map .int), .lst (ord.map .int), .lst ((IA'.map (fA ord)).map eP), .lst ((IT.map (fT ord)).map eP)]) ∧ IA'.Sublist (done ++ [(i, j)]) := by
    obtain ⟨r, xs', h1, _, _⟩ := tk_of (δ := [some (.rf 0), some (.int m), some (.int th), some (.int ti), some (.rf 1), some (.int (0 + (i : Int))), some (.rf 2), some (.rf 3), some (.int (j : Int))]) (G := [.lst (xs.map .int), .lst (ord.map .int), .lst ((IA.map (fA ord)).map eP), .lst ((IT.map (fT ord)).map eP)]) (k := 0) (fo := rVar 0) (fm := rC (.int 8)) (xs := xs) (m := 8) (var_of rfl) rfl c_of (by decide)
    have t := eb_of (ebin_of h1 (ofR_of (var_of (i := 2) (d := .int th) rfl)) (lt_ii r th))
    by_cases hc : r < th
    · rw [decide_eq_true hc] at t
      refine ⟨xs', IA ++ [(i, j)], (if_t t).trans ((exp_of (app_of (k := 2) (d := eP (fA ord (i, j))) (var_of rfl) rfl (econs1_of (ofR_of (tup_of (cons_of (bin_of (var_of rfl) (var_of rfl) (ord_ix rfl (by omega) (by omega))) (cons_of (bin_of (var_of rfl) (var_of rfl) (ord_ix rfl (by omega) rfl)) nil_of)) (by simp)))) rfl (by simp only [List.length_map]; omega))).trans ?_), s1 sA⟩
      rw [List.map_append, List.map_append]
      rfl
    · rw [decide_eq_false hc] at t
      exact ⟨xs', IA, (if_f t).trans rfl, s0 sA⟩
  obtain ⟨xs1, IA1, e1, sA1⟩ := step1
  obtain ⟨r, xs', h1, _, _⟩ := tk_of (δ := [some (.rf 0), some (.int m), some (.int th), some (.int ti), some (.rf 1), some (.int (0 + (i : Int))), some (.rf 2), some (.rf 3), some (.int (j : Int))]) (G := [.lst (xs1.map .int), .lst (ord.map .int), .lst ((IA1.map (fA ord)).map eP), .lst ((IT.map (fT ord)).map eP)]) (k := 0) (fo := rVar 0) (fm := rC (.int 8)) (xs := xs1) (m := 8) (var_of rfl) rfl c_of (by decide)
  have t := eb_of (ebin_of h1 (ofR_of (var_of (i := 3) (d := .int ti) rfl)) (lt_ii r ti))
  have t2 : eAnd (eB (eBin g_ltA (eCallB 2 f__law_take (eCons (ofR (rVar 0)) (eCons (ofR (rC (.int 8))) (ofRA rNil)))) (ofR (rVar 3)))) (ofRT (rB (rBin g_ltA (rCal gLen (rCons (rVar 7) rNil)) (rC (.int 6))))) [some (.rf 0), some (.int m), some (.int th), some (.int ti), some (.rf 1), some (.int (0 + (i : Int))), some (.rf 2), some (.rf 3), some (.int (j : Int))] [.lst (xs1.map .int), .lst (ord.map .int), .lst ((IA1.map (fA ord)).map eP), .lst ((IT.map (fT ord)).map eP)] = some (decide (r < ti) && decide ((IT.length : Int) < 6), [.lst (xs'.map .int), .lst (ord.map .int), .lst ((IA1.map (fA ord)).map eP), .lst ((IT.map (fT ord)).map eP)]) := by
    unfold eAnd
    rw [t, Option.bind_some]
    by_cases hc : r < ti
    · rw [decide_eq_true hc, if_pos rfl, Bool.true_and]
      exact ofRT_of (b_of (bin_of (cal1_of (var_of rfl) ((len_rf (k := 3) rfl).trans (by simp only [List.length_map]))) c_of (lt_ii _ _)))
    · rw [decide_eq_false hc, if_neg (by simp), Bool.false_and]
      rfl
  cases hc : decide (r < ti) && decide ((IT.length : Int) < 6) with
  | true =>
    rw [hc] at t2
    rw [Bool.and_eq_true, decide_eq_true_eq, decide_eq_true_eq] at hc
    refine ⟨_, _, (sq_nx e1).trans ((if_t t2).trans (exp_of (app_of (k := 3) (d := eP (fT ord (i, j))) (var_of rfl) rfl (econs1_of (ofR_of (tup_of (cons_of (cal2_of (x := .int (og ord i)) (y := .int (og ord j)) (bin_of (var_of rfl) (var_of rfl) (ord_ix rfl (by omega) (by omega))) (bin_of (var_of rfl) (var_of rfl) (ord_ix rfl (by omega) rfl)) rfl) (cons_of (cal2_of (x := .int (og ord i)) (y := .int (og ord j)) (bin_of (var_of rfl) (var_of rfl) (ord_ix rfl (by omega) (by omega))) (bin_of (var_of rfl) (var_of rfl) (ord_ix rfl (by omega) rfl)) rfl) nil_of)) (by simp)))) rfl (by simp only [List.length_map]; omega)))), xs', IA1, IT ++ [(i, j)], _, _, rfl, fun o ho => (Option.some.inj ho).symm, ?_, sA1, s1 sT, by simp; omega⟩
    rw [List.map_append, List.map_append]
    rfl
  | false =>
    rw [hc] at t2
    exact ⟨_, _, (sq_nx e1).trans ((if_f t2).trans rfl), xs', IA1, IT, _, _, rfl, fun o ho => (Option.some.inj ho).symm, rfl, sA1, s0 sT, lT⟩
end K30
namespace K30
open PySem PySem.Spec PyProof.Rows L2 FL
theorem allP_nd {m : Nat} (hm : m ≤ 6) : (allP m).Nodup := by
  have : ∀ m < 7, (allP m).Nodup := by decide
  exact this m (by omega)
theorem allP_len {m : Nat} (hm : m ≤ 6) : (allP m).length ≤ 15 := by
  have : ∀ m < 7, (allP m).length ≤ 15 := by decide
  exact this m (by omega)
theorem allP_mem {m : Nat} {p : Nat × Nat} (h : p ∈ allP m) : p.1 < p.2 ∧ p.2 < m := by
  obtain ⟨i, hi, hp⟩ := List.mem_flatMap.mp h
  obtain ⟨k, hk, rfl⟩ := List.mem_map.mp hp
  have hi := List.mem_range.mp hi
  have hk := List.mem_range.mp hk
  simp only
  omega
theorem good_of {m : Nat} (h2 : 2 ≤ m) (hm : m ≤ 6) {ord : List Int} (ho : ord.Perm (upto m)) {IA IT : List (Nat × Nat)} (sA : IA.Sublist (allP m)) (sT : IT.Sublist (allP m)) (lT : IT.length ≤ 6) : Good m ((IA.map (fA ord)).mergeSort leP) ((IT.map (fT ord)).mergeSort leP) := by
  have ol : ord.length = m := by rw [ho.length_eq, upto_len]
  have ond : ord.Nodup := ho.nodup_iff.mpr (upto_nd m)
  have og_eq : ∀ i (h : i < m), og ord i = ord[i]'(by omega) := fun i h => by
    unfold og
    rw [List.getD_eq_getElem?_getD, List.getElem?_eq_getElem (by omega)]
    rfl
  have og_rg : ∀ i < m, 0 ≤ og ord i ∧ og ord i < m := fun i h => by
    rw [og_eq i h]
    exact mem_upto.mp (ho.mem_iff.mp (List.getElem_mem _))
  have og_inj : ∀ i < m, ∀ j < m, og ord i = og ord j → i = j := fun i hi j hj e => by
    rw [og_eq i hi, og_eq j hj] at e
    exact (List.getElem_inj ond).mp e
  have memA : ∀ p ∈ IA, p.1 < p.2 ∧ p.2 < m := fun p hp => allP_mem (sA.subset hp)
  have memT : ∀ p ∈ IT, p.1 < p.2 ∧ p.2 < m := fun p hp => allP_mem (sT.subset hp)
  have ndA : (IA.map (fA ord)).Nodup := nodup_map (fun x hx y hy e => by
    have h1 := memA x hx
    have h2 := memA y hy
    simp only [fA, Prod.mk.injEq] at e
    exact Prod.ext (og_inj _ (by omega) _ (by omega) e.1) (og_inj _ (by omega) _ (by omega) e.2)) ((allP_nd hm).sublist sA)
  have ndT : (IT.map (fT ord)).Nodup := nodup_map (fun x hx y hy e => by
    have h1 := memT x hx
    have h2 := memT y hy
    have i1 := og_inj x.1 (by omega) y.1 (by omega)
    have i2 := og_inj x.2 (by omega) y.2 (by omega)
    have i3 := og_inj x.1 (by omega) y.2 (by omega)
    have i4 := og_inj x.2 (by omega) y.1 (by omega)
    simp only [fT, Prod.mk.injEq, mn, mx] at e
    have key : (og ord x.1 = og ord y.1 ∧ og ord x.2 = og ord y.2) ∨ (og ord x.1 = og ord y.2 ∧ og ord x.2 = og ord y.1) := by
      revert e
      generalize og ord x.1 = a
      generalize og ord x.2 = b
      generalize og ord y.1 = c
      generalize og ord y.2 = d
      intro e
      omega
    rcases key with ⟨k1, k2⟩ | ⟨k1, k2⟩
    · exact Prod.ext (i1 k1) (i2 k2)
    · have := i3 k1
      have := i4 k2
      omega) ((allP_nd hm).sublist sT)
  refine ⟨h2, hm, sort_lt ndA, sort_lt ndT, fun p hp => ?_, fun p hp => ?_, ?_, ?_, ?_⟩
  · obtain ⟨q, hq, rfl⟩ := List.mem_map.mp ((sort_perm _).mem_iff.mp hp)
    have h1 := memA q hq
    have r1 := og_rg q.1 (by omega)
    have r2 := og_rg q.2 (by omega)
    exact ⟨r1.1, r1.2, r2.1, r2.2, fun e => by have := og_inj _ (by omega) _ (by omega) e; omega⟩
  · obtain ⟨q, hq, rfl⟩ := List.mem_map.mp ((sort_perm _).mem_iff.mp hp)
    have h1 := memT q hq
    have r1 := og_rg q.1 (by omega)
    have r2 := og_rg q.2 (by omega)
    have ne : og ord q.1 ≠ og ord q.2 := fun e => by have := og_inj _ (by omega) _ (by omega) e; omega
    simp only [fT, mn, mx]
    revert r1 r2 ne
    generalize og ord q.1 = a
    generalize og ord q.2 = b
    intro r1 r2 ne
    omega
  · rw [List.length_mergeSort, List.length_map]
    exact Nat.le_trans sA.length_le (allP_len hm)
  · rw [List.length_mergeSort, List.length_map]
    exact lT
  · refine ⟨fun v => List.idxOf v ord, fun p hp => ?_⟩
    obtain ⟨q, hq, rfl⟩ := List.mem_map.mp ((sort_perm _).mem_iff.mp hp)
    have h1 := memA q hq
    simp only [fA]
    rw [og_eq q.1 (by omega), og_eq q.2 (by omega), ond.idxOf_getElem, ond.idxOf_getElem]
    exact h1.1
theorem row_step {m : Nat} {th ti : Int} {ord : List Int} (hm : m ≤ 6) (ho : ord.length = m) {i : Nat} (hi : i < m) {done : List (Nat × Nat)} (hd : done.length + 6 ≤ 900) {δ : Env'} {G : Hs} (h : WB m th ti ord none done δ G) :
    ∃ δ1, setN 5 (.int (0 + (i : Int))) δ = some δ1 ∧ ∃ δ2 G2, (sFor (ofRA (iRgR rng2 (rCons (rBin g_addA (rVar 5) (rC (.int 1))) (rCons (rVar 1) rNil)))) (setN 8)
    (sSeq (sIf (eB (eBin g_ltA (eCallB 2 f__law_take (eCons (ofR (rVar 0)) (eCons (ofR (rC (.int 8))) (ofRA rNil)))) (ofR (rVar 2))))
     (sExp (eMet gAppend (rVar 6) (eCons (ofR (rTup (rCons (rBin ixA (rVar 4) (rVar 5)) (rCons (rBin ixA (rVar 4) (rVar 8)) rNil)))) (ofRA rNil))))
     FL.sNil)
    (sIf (eAnd (eB (eBin g_ltA (eCallB 2 f__law_take (eCons (ofR (rVar 0)) (eCons (ofR (rC (.int 8))) (ofRA rNil)))) (ofR (rVar 3)))) (ofRT (rB (rBin g_ltA (rCal gLen (rCons (rVar 7) rNil)) (rC (.int 6))))))
     (sExp (eMet gAppend (rVar 7) (eCons (ofR (rTup (rCons (rCal gMin2 (rCons (rBin ixA (rVar 4) (rVar 5)) (rCons (rBin ixA (rVar 4) (rVar 8)) rNil))) (rCons (rCal gMax2 (rCons (rBin ixA (rVar 4) (rVar 5)) (rCons (rBin ixA (rVar 4) (rVar 8)) rNil))) rNil)))) (ofRA rNil))))
     FL.sNil))) δ1 G = some (.nx, δ2, G2) ∧ WB m th ti ord none (done ++ prs m i) δ2 G2 := by
  obtain ⟨xs, IA, IT, o5, o8, hδ, _, hG, sA, sT, lT⟩ := h
  subst hδ hG
  refine ⟨_, rfl, ?_⟩
  obtain ⟨δ2, G2, h1, h2, _⟩ := forL_fold (set := setN 8) (b := (sSeq (sIf (eB (eBin g_ltA (eCallB 2 f__law_take (eCons (ofR (rVar 0)) (eCons (ofR (rC (.int 8))) (ofRA rNil)))) (ofR (rVar 2))))
     (sExp (eMet gAppend (rVar 6) (eCons (ofR (rTup (rCons (rBin ixA (rVar 4) (rVar 5)) (rCons (rBin ixA (rVar 4) (rVar 8)) rNil)))) (ofRA rNil))))
     FL.sNil)
    (sIf (eAnd (eB (eBin g_ltA (eCallB 2 f__law_take (eCons (ofR (rVar 0)) (eCons (ofR (rC (.int 8))) (ofRA rNil)))) (ofR (rVar 3)))) (ofRT (rB (rBin g_ltA (rCal gLen (rCons (rVar 7) rNil)) (rC (.int 6))))))
     (sExp (eMet gAppend (rVar 7) (eCons (ofR (rTup (rCons (rCal gMin2 (rCons (rBin ixA (rVar 4) (rVar 5)) (rCons (rBin ixA (rVar 4) (rVar 8)) rNil))) (rCons (rCal gMax2 (rCons (rBin ixA (rVar 4) (rVar 5)) (rCons (rBin ixA (rVar 4) (rVar 8)) rNil))) rNil)))) (ofRA rNil))))
     FL.sNil))) (fun k : Nat => D.int (0 + (i : Int) + 1 + (k : Int))) (fun (d : List (Nat × Nat)) k => d ++ [(i, i + 1 + k)]) (fun k d δ G => WB m th ti ord (some (some (.int (0 + (i : Int))))) d δ G ∧ d.length + k ≤ 900) (List.range ((m : Int) - (0 + (i : Int) + 1)).toNat) done [some (.rf 0), some (.int m), some (.int th), some (.int ti), some (.rf 1), some (.int (0 + (i : Int))), some (.rf 2), some (.rf 3), o8] [.lst (xs.map .int), .lst (ord.map .int), .lst ((IA.map (fA ord)).map eP), .lst ((IT.map (fT ord)).map eP)] ⟨⟨xs, IA, IT, _, o8, rfl, fun o ho => (Option.some.inj ho).symm, rfl, sA, sT, lT⟩, by rw [List.length_range]; omega⟩ (fun k hk n d δ G ⟨h, hl⟩ => by
      have hk := List.mem_range.mp hk
      obtain ⟨δ1, e1, δ2, G2, e2, e3⟩ := pair_step hm ho (i := i) (j := i + 1 + k) ⟨hi, by omega⟩ (by omega) (vj := 0 + (i : Int) + 1 + (k : Int)) (by omega) h
      exact ⟨δ1, e1, δ2, G2, e2, e3, by rw [List.length_append, List.length_singleton]; omega⟩)
  have e : (List.range ((m : Int) - (0 + (i : Int) + 1)).toNat).foldl (fun (d : List (Nat × Nat)) k => d ++ [(i, i + 1 + k)]) done = done ++ prs m i := by
    rw [foldl_flat (fun k => [(i, i + 1 + k)])]
    unfold prs
    rw [show ((m : Int) - (0 + (i : Int) + 1)).toNat = m - (i + 1) by omega]
    congr 1
    generalize List.range (m - (i + 1)) = l
    induction l with
    | nil => rfl
    | cons x l ih => rw [List.flatMap_cons, ih]; rfl
  rw [e] at h2
  obtain ⟨xs', IA', IT', o5', o8', rfl, _, rfl, sA', sT', lT'⟩ := h2
  exact ⟨_, _, (for_nx (ofRA_of (rg2_of (i := 0 + (i : Int) + 1) (j := m) (bin_of (var_of rfl) c_of (add_ii _ _)) (var_of rfl) (by omega) (by omega) (by omega)))).trans h1, xs', IA', IT', o5', o8', rfl, fun o ho => (by cases ho), rfl, sA', sT', lT'⟩
theorem lweb_P {m : Nat} (h2 : 2 ≤ m) (hm : m ≤ 6) (th ti : Int) (xs : List Int) : ∃ (A T : List (Int × Int)) (xs' : List Int), f__law_web [.rf 0, .int m, .int th, .int ti] [.lst (xs.map .int)] = some (eW m A T, [.lst (xs'.map .int)]) ∧ Good m A T := by
  obtain ⟨ord, xs1, ho, hp⟩ := order_P m (by omega) xs
  have ol : ord.length = m := by rw [hp.length_eq, upto_len]
  obtain ⟨δ2, G2, h1, ⟨xs', IA, IT, o5, o8, rfl, _, rfl, sA, sT, lT⟩, _⟩ := forL_fold (set := setN 5) (b := (sFor (ofRA (iRgR rng2 (rCons (rBin g_addA (rVar 5) (rC (.int 1))) (rCons (rVar 1) rNil)))) (setN 8)
    (sSeq (sIf (eB (eBin g_ltA (eCallB 2 f__law_take (eCons (ofR (rVar 0)) (eCons (ofR (rC (.int 8))) (ofRA rNil)))) (ofR (rVar 2))))
     (sExp (eMet gAppend (rVar 6) (eCons (ofR (rTup (rCons (rBin ixA (rVar 4) (rVar 5)) (rCons (rBin ixA (rVar 4) (rVar 8)) rNil)))) (ofRA rNil))))
     FL.sNil)
    (sIf (eAnd (eB (eBin g_ltA (eCallB 2 f__law_take (eCons (ofR (rVar 0)) (eCons (ofR (rC (.int 8))) (ofRA rNil)))) (ofR (rVar 3)))) (ofRT (rB (rBin g_ltA (rCal gLen (rCons (rVar 7) rNil)) (rC (.int 6))))))
     (sExp (eMet gAppend (rVar 7) (eCons (ofR (rTup (rCons (rCal gMin2 (rCons (rBin ixA (rVar 4) (rVar 5)) (rCons (rBin ixA (rVar 4) (rVar 8)) rNil))) (rCons (rCal gMax2 (rCons (rBin ixA (rVar 4) (rVar 5)) (rCons (rBin ixA (rVar 4) (rVar 8)) rNil))) rNil)))) (ofRA rNil))))
     FL.sNil)))) (fun i : Nat => D.int (0 + (i : Int))) (fun d i => d ++ prs m i) (fun k d δ G => WB m th ti ord none d δ G ∧ d.length + 5 * k ≤ 50) (List.range (m : Int).toNat) [] [some (.rf 0), some (.int m), some (.int th), some (.int ti), some (.rf 1), none, some (.rf 2), some (.rf 3), none] [.lst (xs1.map .int), .lst (ord.map .int), .lst [], .lst []] ⟨⟨xs1, [], [], none, none, rfl, fun o ho => (by cases ho), rfl, List.Sublist.refl _, List.Sublist.refl _, by simp⟩, by rw [List.length_range, List.length_nil]; omega⟩ (fun i hi k d δ G ⟨h, hl⟩ => by
      have hi := List.mem_range.mp hi
      obtain ⟨δ1, e1, δ2, G2, e2, e3⟩ := row_step hm ol (i := i) (by omega) (by omega) h
      have : (prs m i).length ≤ 5 := by
        unfold prs
        rw [List.length_map, List.length_range]
        omega
      exact ⟨δ1, e1, δ2, G2, e2, e3, by rw [List.length_append]; omega⟩)
  have e : (List.range (m : Int).toNat).foldl (fun d i => d ++ prs m i) [] = allP m := by
    rw [foldl_flat (prs m), List.nil_append, Int.toNat_natCast]
    rfl
  rw [e] at sA sT
  refine ⟨(IA.map (fA ord)).mergeSort leP, (IT.map (fT ord)).mergeSort leP, xs', ?_, good_of h2 hm hp sA sT lT⟩
  have lA := Nat.le_trans sA.length_le (allP_len hm)
  have hcall : eCallB 2 f__law_order (eCons (ofR (rVar 0)) (eCons (ofR (rVar 1)) (ofRA rNil))) (slots 9 [.rf 0, .int m, .int th, .int ti]) [.lst (xs.map .int)] = some (.rf 1, [.lst (xs1.map .int), .lst (ord.map .int)]) :=
    callB_new (k := 0) (o := .lst (xs.map .int)) (econs_of (ofR_of (var_of rfl)) (econs_of (ofR_of (var_of rfl)) enil_of)) rfl rfl rfl (flat_int _) ho (flat_int _) (flat_int _)
  have h : b__law_web (slots 9 [.rf 0, .int m, .int th, .int ti]) [.lst (xs.map .int)] = some (.rt (eW m ((IA.map (fA ord)).mergeSort leP) ((IT.map (fT ord)).mergeSort leP)), [some (.rf 0), some (.int m), some (.int th), some (.int ti), some (.rf 1), o5, some (.rf 2), some (.rf 3), o8], [.lst (xs'.map .int), .lst (ord.map .int), .lst ((IA.map (fA ord)).map eP), .lst ((IT.map (fT ord)).map eP)]) :=
    (sq_nx (asg_of hcall (by show (4 : Nat) < 9; decide))).trans ((sq_nx (par_of (d := .rf 2) (d' := .rf 3) (G1 := [.lst (xs1.map .int), .lst (ord.map .int), .lst [], .lst []]) rfl ⟨by show (6 : Nat) < 9; decide, by show (7 : Nat) < 9; decide⟩)).trans ((sq_nx ((for_nx (ofRA_of (rg1_of (j := m) (var_of rfl) (by omega) (by omega)))).trans h1)).trans (ret_of (ofR_of (tup_of (cons_of (var_of rfl) (cons_of (cal1_of (cal1_of (var_of rfl) (sort_P (L := IA.map (fA ord)) rfl (by rw [List.length_map]; omega))) rfl) (cons_of (cal1_of (cal1_of (var_of rfl) (sort_P (L := IT.map (fT ord)) rfl (by rw [List.length_map]; omega))) rfl) nil_of))) (by simp))))))
  show ((b__law_web (slots 9 [.rf 0, .int m, .int th, .int ti]) [.lst (xs.map .int)]).bind _) = _
  rw [h]
  show gcD 1 (eW m _ _) _ = _
  unfold gcD
  simp [eW_im, GO.flat, ims_int]
end K30
/-! lists closed under neighbours, place by place -/
namespace FL
section
variable {α κ : Type} [DecidableEq κ] (key : α → κ) (nb : α → List α)
def addN (L : List α) : List α → List α
  | [] => L
  | x :: xs => addN (if key x ∈ L.map key then L else L ++ [x]) xs
def closeN : Nat → Nat → List α → List α
  | 0, _, L => L
  | m + 1, i, L => closeN m (i + 1) (match L[i]? with | some s => addN key L (nb s) | none => L)
theorem addN_pre : ∀ (xs L : List α), L <+: addN key L xs
  | [], L => List.prefix_rfl
  | x :: xs, L => by
    unfold addN
    refine List.IsPrefix.trans ?_ (addN_pre xs _)
    split
    · exact List.prefix_rfl
    · exact List.prefix_append _ _
theorem addN_nd : ∀ (xs L : List α), (L.map key).Nodup → ((addN key L xs).map key).Nodup
  | [], L, h => h
  | x :: xs, L, h => by
    unfold addN
    refine addN_nd xs _ ?_
    split
    · exact h
    · rename_i hx
      rw [List.map_append, List.nodup_append]
      refine ⟨h, by simp, fun a ha b hb e => ?_⟩
      have hb' : b = key x := by simpa using hb
      rw [hb'] at e
      rw [e] at ha
      exact hx ha
theorem addN_mem : ∀ (xs L : List α) (y : α), y ∈ addN key L xs → y ∈ L ∨ y ∈ xs
  | [], L, y, h => .inl h
  | x :: xs, L, y, h => by
    unfold addN at h
    rcases addN_mem xs _ y h with h | h
    · split at h
      · exact .inl h
      · rcases List.mem_append.mp h with h | h
        · exact .inl h
        · have : y = x := by simpa using h
          exact .inr (by simp [this])
    · exact .inr (List.mem_cons_of_mem _ h)
theorem addN_has : ∀ (xs L : List α) (y : α), y ∈ xs → key y ∈ (addN key L xs).map key
  | [], L, y, h => by cases h
  | x :: xs, L, y, h => by
    unfold addN
    rcases List.mem_cons.mp h with h | h
    · subst h
      have hp := addN_pre key xs (if key y ∈ L.map key then L else L ++ [y])
      obtain ⟨t, ht⟩ := hp
      rw [← ht, List.map_append]
      refine List.mem_append_left _ ?_
      split
      · assumption
      · simp
    · exact addN_has xs _ y h
/-- what is kept from place to place -/
structure CInv (U : List κ) (S : List α) (i : Nat) (L : List α) : Prop where
  nd : (L.map key).Nodup
  un : ∀ x ∈ L, key x ∈ U
  st : S <+: L
  cl : ∀ (j : Nat) x, j < i → L[j]? = some x → ∀ y ∈ nb x, key y ∈ L.map key
  fr : ∀ (j : Nat) x, L[j]? = some x → x ∈ S ∨ ∃ k z, k < j ∧ L[k]? = some z ∧ x ∈ nb z
theorem CInv.start {U : List κ} {S : List α} (nd : (S.map key).Nodup) (un : ∀ x ∈ S, key x ∈ U) : CInv key nb U S 0 S :=
  ⟨nd, un, List.prefix_rfl, fun j x h => by omega, fun j x h => .inl (List.mem_of_getElem? h)⟩
variable {key nb}
theorem CInv.next {U : List κ} {S L : List α} {i : Nat} {s : α} (hU : ∀ x, key x ∈ U → ∀ y ∈ nb x, key y ∈ U) (h : CInv key nb U S i L) (hs : L[i]? = some s) : CInv key nb U S (i + 1) (addN key L (nb s)) := by
  have hp := addN_pre key (nb s) L
  have hi := (List.getElem?_eq_some_iff.mp hs).1
  have get : ∀ {j : Nat} {x : α}, j < L.length → (addN key L (nb s))[j]? = some x → L[j]? = some x := fun {j x} hj e => by
    obtain ⟨t, ht⟩ := hp
    rw [← ht, List.getElem?_append_left hj] at e
    exact e
  refine ⟨addN_nd key _ _ h.nd, fun x hx => ?_, h.st.trans hp, fun j x hj hx y hy => ?_, fun j x hx => ?_⟩
  · rcases addN_mem key _ _ _ hx with hx | hx
    · exact h.un x hx
    · exact hU s (h.un s (List.mem_of_getElem? hs)) x hx
  · have hx' := get (by omega) hx
    by_cases e : j = i
    · subst e
      rw [hs] at hx'
      cases hx'
      exact addN_has key _ _ y hy
    · have := h.cl j x (by omega) hx' y hy
      obtain ⟨t, ht⟩ := hp
      rw [← ht, List.map_append]
      exact List.mem_append_left _ this
  · by_cases hj : j < L.length
    · rcases h.fr j x (get hj hx) with h1 | ⟨k, z, h1, h2, h3⟩
      · exact .inl h1
      · refine .inr ⟨k, z, h1, ?_, h3⟩
        obtain ⟨t, ht⟩ := hp
        rw [← ht, List.getElem?_append_left (by omega)]
        exact h2
    · rcases addN_mem key _ _ _ (List.mem_of_getElem? hx) with h1 | h1
      · obtain ⟨k, hk, e⟩ := List.mem_iff_getElem.mp h1
        rcases h.fr k x (by rw [List.getElem?_eq_getElem hk, e]) with h2 | ⟨k', z, h2, h3, h4⟩
        · exact .inl h2
        · refine .inr ⟨k', z, by omega, ?_, h4⟩
          obtain ⟨t, ht⟩ := hp
          rw [← ht, List.getElem?_append_left (by omega)]
          exact h3
      · refine .inr ⟨i, s, by omega, ?_, h1⟩
        obtain ⟨t, ht⟩ := hp
        rw [← ht, List.getElem?_append_left hi]
        exact hs
theorem closeN_end : ∀ (m i : Nat) (L : List α), L.length ≤ i → closeN key nb m i L = L
  | 0, _, _, _ => rfl
  | m + 1, i, L, h => by
    unfold closeN
    rw [List.getElem?_eq_none_iff.mpr h]
    exact closeN_end m (i + 1) L (by omega)
theorem closeN_inv {U : List κ} {S : List α} (hU : ∀ x, key x ∈ U → ∀ y ∈ nb x, key y ∈ U) : ∀ (m i : Nat) (L : List α), CInv key nb U S i L → i ≤ L.length → U.length ≤ i + m → CInv key nb U S (closeN key nb m i L).length (closeN key nb m i L)
  | 0, i, L, h, hi, hm => by
    have hl : L.length ≤ U.length := by
      have := nodup_le h.nd fun x hx => by
        obtain ⟨y, hy, rfl⟩ := List.mem_map.mp hx
        exact h.un y hy
      rw [List.length_map] at this
      exact this
    have : i = L.length := by omega
    show CInv key nb U S L.length L
    rw [← this]
    exact h
  | m + 1, i, L, h, hi, hm => by
    unfold closeN
    by_cases hlt : i < L.length
    · rw [List.getElem?_eq_getElem hlt]
      have hn := h.next hU (List.getElem?_eq_getElem hlt)
      have hp := (addN_pre key (nb L[i]) L).length_le
      show CInv key nb U S (closeN key nb m (i + 1) (addN key L (nb L[i]))).length (closeN key nb m (i + 1) (addN key L (nb L[i])))
      exact closeN_inv hU m (i + 1) _ hn (by omega) (by omega)
    · rw [List.getElem?_eq_none_iff.mpr (by omega)]
      rw [closeN_end m (i + 1) L (by omega)]
      have : i = L.length := by omega
      rw [← this]
      exact h
theorem CInv.len {U : List κ} {S L : List α} {i : Nat} (h : CInv key nb U S i L) : L.length ≤ U.length := by
  have := nodup_le h.nd fun x hx => by
    obtain ⟨y, hy, rfl⟩ := List.mem_map.mp hx
    exact h.un y hy
  rw [List.length_map] at this
  exact this
end
/-- to come there -/
inductive Rch {κ : Type} (S : κ → Prop) (E : κ → κ → Prop) : κ → Prop
  | base {s} : S s → Rch S E s
  | step {s t} : Rch S E s → E s t → Rch S E t
theorem CInv.rch {α κ : Type} [DecidableEq κ] {key : α → κ} {nb : α → List α} {U : List κ} {S L : List α} {P : κ → Prop} {E : κ → κ → Prop} (h : CInv key nb U S L.length L) (hP : ∀ k, P k ↔ k ∈ S.map key) (hE : ∀ x t, x ∈ L → (E (key x) t ↔ t ∈ (nb x).map key)) (k : κ) : k ∈ L.map key ↔ Rch P E k := by
  constructor
  · intro hk
    obtain ⟨x, hx, rfl⟩ := List.mem_map.mp hk
    obtain ⟨j, hj, rfl⟩ := List.mem_iff_getElem.mp hx
    clear hk hx
    induction j using Nat.strongRecOn with
    | _ j ih =>
      rcases h.fr j L[j] (List.getElem?_eq_getElem hj) with h1 | ⟨k, z, h1, h2, h3⟩
      · exact .base ((hP _).mpr (List.mem_map.mpr ⟨_, h1, rfl⟩))
      · have hk : k < L.length := by omega
        rw [List.getElem?_eq_getElem hk] at h2
        cases h2
        exact .step (ih k h1 hk) ((hE _ _ (List.getElem_mem _)).mpr (List.mem_map.mpr ⟨_, h3, rfl⟩))
  · intro hr
    induction hr with
    | base hs =>
      obtain ⟨x, hx, rfl⟩ := List.mem_map.mp ((hP _).mp hs)
      obtain ⟨t, ht⟩ := h.st
      exact List.mem_map.mpr ⟨x, by rw [← ht]; exact List.mem_append_left _ hx, rfl⟩
    | step _ he ih =>
      obtain ⟨x, hx, rfl⟩ := List.mem_map.mp ih
      obtain ⟨y, hy, rfl⟩ := List.mem_map.mp ((hE _ _ hx).mp he)
      obtain ⟨j, hj, rfl⟩ := List.mem_iff_getElem.mp hx
      exact h.cl j _ hj (List.getElem?_eq_getElem hj) y hy
end FL
namespace FL
open PySem PySem.Spec PyProof.Rows L2
theorem lcE_pure {set : Sets} {cond : RT} {elt : RE} : ∀ (ds : List D) (δ : Env') (G : Hs), lcE set (ofRT cond) (ofR elt) ds δ G = (lcR set cond elt ds δ G).bind fun ys => some (ys, G)
  | [], _, _ => rfl
  | d :: ds, δ, G => by
    have ih := lcE_pure (set := set) (cond := cond) (elt := elt) ds δ G
    unfold lcE lcR ofRT ofR
    cases h1 : set d δ with
    | none => rfl
    | some δ1 =>
      simp only [Option.bind_some]
      cases h2 : cond δ1 G with
      | none => rfl
      | some k =>
        simp only [Option.bind_some]
        cases k with
        | true =>
          simp only [if_true]
          cases h3 : elt δ1 G with
          | none => rfl
          | some y =>
            have ih' : lcE set (fun δ G => (cond δ G).bind fun d => some (d, G)) (fun δ G => (elt δ G).bind fun d => some (d, G)) ds δ G = _ := ih
            simp only [Option.bind_some, ih']
            cases lcR set cond elt ds δ G <;> rfl
        | false => exact ih
theorem elcL_of {α : Type} {src : RA} {set : Sets} {cond : RT} {elt : RE} {vs : List Nat} {δ : Env'} {G : Hs} (e : α → D) (δ1 : α → Env') (c : α → Bool) (f : α → D) (xs : List α) (hs : src δ G = some (xs.map e)) (hl : xs.length ≤ 10000000)
    (h : ∀ x ∈ xs, set (e x) (wipeD δ vs) = some (δ1 x) ∧ cond (δ1 x) G = some (c x) ∧ (c x = true → elt (δ1 x) G = some (f x))) : eLcL (ofRA src) set (ofRT cond) (ofR elt) vs δ G = some (.rf G.length, G ++ [.lst ((xs.filter c).map f)]) := by
  unfold eLcL
  rw [ofRA_of hs, Option.bind_some]
  simp only [List.length_map]
  rw [if_pos hl, lcE_pure, lcR_map e δ1 c f xs h]
  rfl
theorem sort_of {α : Type} {G : Hs} {d : D} (e : α → D) {L : List α} (h : lstG G d = some (L.map e)) (hl : L.length ≤ 1000000) (ha : ∀ x ∈ L, ∀ y ∈ L, PySem.W.alike (e x).py (e y).py = true) (ho : ∀ x, (e x).ok = true ∧ (e x).dep ≤ 60) (hs : ∀ x, (match e x with | D.tup (_ :: _) => true | _ => false) = true) :
    gSortedA G [d] = some (.fl ((L.mergeSort fun x y => PySem.W.dataLe false D.py (e x) (e y)).map e)) := by
  have so : sortable (L.map e) = true := by
    unfold sortable
    simp only [List.all_map, Bool.and_eq_true, List.all_eq_true, Function.comp_apply, Bool.or_eq_true, decide_eq_true_eq, List.length_map]
    exact ⟨⟨⟨ha, fun x _ => ho x⟩, by omega⟩, .inl fun x _ => hs x⟩
  have e2 : gSorted G [d] = some (.fl ((L.mergeSort fun x y => PySem.W.dataLe false D.py (e x) (e y)).map e)) := by
    unfold gSorted
    simp only [h, Option.bind_some]
    rw [if_pos so]
    unfold srtd
    rw [← List.map_mergeSort]
    intro x _ y _
    rfl
  show (match gSorted G [d] with | some d => some d | none => gSortedN G [d]) = _
  rw [e2]
end FL
namespace K30
open PySem PySem.Spec PyProof.Rows L2 FL
def eKV (p : Kd × Int) : D := .tup [.str p.1.s, .int p.2]
theorem eKV_im (p : Kd × Int) : (eKV p).im = true := rfl
theorem eKV_ok (p : Kd × Int) : (eKV p).ok = true := by
  have := Kd.ok p.1
  simp [eKV, D.ok, oks] at this ⊢
  exact this
def stpF (A : List (Int × Int)) (v : Int) : List (Kd × Int) := (A.filter fun p => decide (p.2 = v)).map fun p => (.fr, p.1)
def stpI (T : List (Int × Int)) (v : Int) : List (Kd × Int) := (T.filter fun p => decide (v = p.1 ∨ v = p.2)).map fun p => (.ti, if p.2 = v then p.1 else p.2)
def stpT (A : List (Int × Int)) (v : Int) : List (Kd × Int) := (A.filter fun p => decide (p.1 = v)).map fun p => (.to, p.2)
def leKV (x y : Kd × Int) : Bool := PySem.W.dataLe false D.py (eKV x) (eKV y)
def steps (A T : List (Int × Int)) (v : Int) : List (Kd × Int) := (stpF A v ++ stpI T v ++ stpT A v).mergeSort leKV
section
variable {n : Nat} {A T : List (Int × Int)}
theorem steps_len (A T : List (Int × Int)) (v : Int) : (steps A T v).length ≤ 2 * A.length + T.length := by
  unfold steps
  rw [List.length_mergeSort, List.length_append, List.length_append]
  have h1 : (stpF A v).length ≤ A.length := by unfold stpF; rw [List.length_map]; exact List.length_filter_le _ _
  have h2 : (stpI T v).length ≤ T.length := by unfold stpI; rw [List.length_map]; exact List.length_filter_le _ _
  have h3 : (stpT A v).length ≤ A.length := by unfold stpT; rw [List.length_map]; exact List.length_filter_le _ _
  omega
theorem steps_P (v : Int) (hA : A.length ≤ 1000) (hT : T.length ≤ 1000) : f_steps_from [eM n A T, .int v] = some (.fl ((steps A T v).map eKV)) := by
  have h1 : eLcL (ofRA (iTupR (rAttr "arrows" (rVar 0)))) (setTup [(setN 3), (setN 4)]) (ofRT (rB (rBin g_eq (rVar 4) (rVar 1)))) (ofR (rTup (rCons (rC (.str "from")) (rCons (rVar 3) rNil)))) [3, 4] [some (eM n A T), some (.int v), none, none, none] [] = some (.rf 0, [.lst ((stpF A v).map eKV)]) := by
    refine (elcL_of eP (fun p => [some (eM n A T), some (.int v), none, some (.int p.1), some (.int p.2)]) (fun p => decide (p.2 = v)) (fun p => eKV (.fr, p.1)) A (itup_of (attr_of (var_of rfl) rfl)) (by omega) fun p hp => ⟨rfl, b_of (bin_of (var_of rfl) (var_of rfl) (eq_ii _ _)), fun _ => tup_of (cons_of c_of (cons_of (var_of rfl) nil_of)) (by simp)⟩).trans ?_
    unfold stpF
    rw [List.map_map]
    rfl
  have h2 : rLc (iTupR (rAttr "ties" (rVar 0))) (setTup [(setN 3), (setN 4)]) (rB (rBin g_in_ (rVar 1) (rTup (rCons (rVar 3) (rCons (rVar 4) rNil))))) (rTup (rCons (rC (.str "tie")) (rCons (rIf (rB (rBin g_eq (rVar 4) (rVar 1))) (rVar 3) (rVar 4)) rNil))) [3, 4] [some (eM n A T), some (.int v), some (.rf 0), none, none] [.lst ((stpF A v).map eKV)] = some (.fl ((stpI T v).map eKV)) := by
    refine (rlc_of eP (fun p => [some (eM n A T), some (.int v), some (.rf 0), some (.int p.1), some (.int p.2)]) (fun p => decide (v = p.1 ∨ v = p.2)) (fun p => eKV (.ti, if p.2 = v then p.1 else p.2)) T (itup_of (attr_of (var_of rfl) rfl)) (by omega) fun p hp => ⟨rfl, b_of (bin_of (var_of rfl) (tup_of (cons_of (var_of rfl) (cons_of (var_of rfl) nil_of)) (by simp)) ?_), fun _ => ?_⟩).trans ?_
    · refine (in_ii v [p.1, p.2]).trans ?_
      congr 3
      simp
    · refine tup_of (cons_of c_of (cons_of ?_ nil_of)) (by simp)
      by_cases hv : p.2 = v
      · rw [if_pos hv]
        exact (rif_t (b_of (bin_of (var_of rfl) (var_of rfl) ((eq_ii _ _).trans (by rw [decide_eq_true hv]))))).trans (var_of rfl)
      · rw [if_neg hv]
        exact (rif_f (b_of (bin_of (var_of rfl) (var_of rfl) ((eq_ii _ _).trans (by rw [decide_eq_false hv]))))).trans (var_of rfl)
    · unfold stpI
      rw [List.map_map]
      rfl
  have h3 : rLc (iTupR (rAttr "arrows" (rVar 0))) (setTup [(setN 3), (setN 4)]) (rB (rBin g_eq (rVar 3) (rVar 1))) (rTup (rCons (rC (.str "to")) (rCons (rVar 4) rNil))) [3, 4] [some (eM n A T), some (.int v), some (.rf 0), none, none] [.lst ((stpF A v).map eKV ++ (stpI T v).map eKV)] = some (.fl ((stpT A v).map eKV)) := by
    refine (rlc_of eP (fun p => [some (eM n A T), some (.int v), some (.rf 0), some (.int p.1), some (.int p.2)]) (fun p => decide (p.1 = v)) (fun p => eKV (.to, p.2)) A (itup_of (attr_of (var_of rfl) rfl)) (by omega) fun p hp => ⟨rfl, b_of (bin_of (var_of rfl) (var_of rfl) (eq_ii _ _)), fun _ => tup_of (cons_of c_of (cons_of (var_of rfl) nil_of)) (by simp)⟩).trans ?_
    unfold stpT
    rw [List.map_map]
    rfl
  have l1 : (stpF A v).length ≤ 1000 := by unfold stpF; rw [List.length_map]; exact Nat.le_trans (List.length_filter_le _ _) hA
  have l2 : (stpI T v).length ≤ 1000 := by unfold stpI; rw [List.length_map]; exact Nat.le_trans (List.length_filter_le _ _) hT
  have l3 : (stpT A v).length ≤ 1000 := by unfold stpT; rw [List.length_map]; exact Nat.le_trans (List.length_filter_le _ _) hA
  have e3 : gSortedA [.lst ((stpF A v).map eKV ++ (stpI T v).map eKV ++ (stpT A v).map eKV)] [.rf 0] = some (.fl ((steps A T v).map eKV)) :=
    sort_of eKV (L := stpF A v ++ stpI T v ++ stpT A v) (by simp [lstG]) (by simp only [List.length_append]; omega) (fun x _ y _ => by simp [eKV, D.py, pys, PySem.W.alike, PySem.W.alikeAll]) (fun x => ⟨eKV_ok x, by show (1 : Nat) ≤ 60; decide⟩) fun x => rfl
  exact fnP_of ((sq_nx (asg_of h1 (by show (2 : Nat) < 5; decide))).trans ((sq_nx (exp_of (ext_of (k := 0) (var_of rfl) rfl (econs1_of (ofR_of h2)) rfl (by simp only [List.length_map]; omega)))).trans ((sq_nx (exp_of (ext_of (k := 0) (var_of rfl) rfl (econs1_of (ofR_of h3)) rfl (by simp only [List.length_map, List.length_append]; omega)))).trans
    (ret_of (ofR_of (cal1_of (var_of rfl) e3)))))) (by simp [D.im, ims_map eKV_im])
theorem mem_steps {v w : Int} {k : Kd} : (k, w) ∈ steps A T v ↔ ((k = .fr ∧ (w, v) ∈ A) ∨ (k = .to ∧ (v, w) ∈ A)) ∨ (k = .ti ∧ ((v, w) ∈ T ∨ (w, v) ∈ T ∧ v ≠ w)) := by
  unfold steps
  rw [List.mem_mergeSort, List.mem_append, List.mem_append]
  unfold stpF stpI stpT
  simp only [List.mem_map, List.mem_filter, decide_eq_true_eq, Prod.mk.injEq]
  constructor
  · rintro ((⟨⟨a, b⟩, ⟨h1, h2⟩, h3, h4⟩ | ⟨⟨a, b⟩, ⟨h1, h2⟩, h3, h4⟩) | ⟨⟨a, b⟩, ⟨h1, h2⟩, h3, h4⟩)
    · simp only at h2 h4
      subst h2 h3 h4
      exact .inl (.inl ⟨rfl, h1⟩)
    · simp only at h2 h4
      subst h3
      refine .inr ⟨rfl, ?_⟩
      by_cases hb : b = v
      · rw [if_pos hb] at h4
        subst hb h4
        by_cases e : a = b
        · subst e; exact .inl h1
        · exact .inr ⟨h1, fun z => e z.symm⟩
      · rw [if_neg hb] at h4
        subst h4
        rcases h2 with h2 | h2
        · subst h2; exact .inl h1
        · exact absurd h2.symm hb
    · simp only at h2 h4
      subst h2 h3 h4
      exact .inl (.inr ⟨rfl, h1⟩)
  · rintro ((⟨rfl, h⟩ | ⟨rfl, h⟩) | ⟨rfl, h | ⟨h, hn⟩⟩)
    · exact .inl (.inl ⟨(w, v), ⟨h, rfl⟩, rfl, rfl⟩)
    · exact .inr ⟨(v, w), ⟨h, rfl⟩, rfl, rfl⟩
    · refine .inl (.inr ⟨(v, w), ⟨h, .inl rfl⟩, rfl, ?_⟩)
      simp only
      split
      · rename_i e; exact e.symm
      · rfl
    · refine .inl (.inr ⟨(w, v), ⟨h, .inr rfl⟩, rfl, ?_⟩)
      simp
end
end K30
namespace FL
open PySem PySem.Spec PyProof.Rows L2
theorem addN_fold {α β κ : Type} [DecidableEq κ] (key : α → κ) (p : β → Bool) (f : β → α) : ∀ (xs : List β) (L : List α), addN key L ((xs.filter p).map f) = xs.foldl (fun L x => if p x = true then addN key L [f x] else L) L
  | [], L => rfl
  | x :: xs, L => by
    rw [List.filter_cons, List.foldl_cons]
    by_cases h : p x = true
    · rw [if_pos h, if_pos h, List.map_cons, addN]
      exact addN_fold key p f xs _
    · rw [if_neg h, if_neg h]
      exact addN_fold key p f xs _
theorem ati_of {f : PySem.Str} {δ : Env'} {G : Hs} {fa : RE} {k : Nat} {x : PySem.Str} {ns : List PySem.Str} {ds : List D} {d : D} (h : fa δ G = some (.rf k)) (hG : G[k]? = some (.ins x ns ds)) (hl : (ns.zip ds).lookup f = some d) : rAtI f fa δ G = some d := by
  unfold rAtI insG
  simp [h, hG, hl]
end FL
namespace K30
open PySem PySem.Spec PyProof.Rows L2 FL
abbrev St := Int × Bool
abbrev En := St × Option (St × Kd)
def hs (b : Bool) : PySem.Str := if b = true then "head" else "tail"
def eSt (s : St) : D := .tup [.int s.1, .str (hs s.2)]
def eSp : Option (St × Kd) → D
  | none => .non
  | some p => .tup [eSt p.1, .str p.2.s]
theorem eSt_im (s : St) : (eSt s).im = true := rfl
theorem eSp_im (p : Option (St × Kd)) : (eSp p).im = true := by cases p <;> rfl
theorem hs_inj (a b : Bool) : hs a = hs b ↔ a = b := by cases a <;> cases b <;> decide +kernel
def kSt (s : St) : NestedKey := .tup [.num s.1, .text (hs s.2)]
theorem nk_eSt (s : St) : nk (eSt s) = some (kSt s) := rfl
theorem kSt_inj (s t : St) : kSt s = kSt t ↔ s = t := by
  obtain ⟨v, b⟩ := s
  obtain ⟨w, c⟩ := t
  constructor
  · intro h
    simp only [kSt, NestedKey.tup.injEq, List.cons.injEq, NestedKey.num.injEq, NestedKey.text.injEq, and_true] at h
    rw [h.1, (hs_inj _ _).mp h.2]
  · intro h
    rw [h]
theorem keyD_eSt (s : St) : keyD (eSt s) = some (kSt s) := by
  unfold keyD eSt
  simp [nk, nks, kSt, NestedKey.depth, NestedKey.depthAll]
def kvC (C : List En) : List (D × D) := C.map fun p => (eSt p.1, eSp p.2)
theorem val_kvC (s : St) : ∀ C : List En, (valD (kvC C) (kSt s)).isSome = decide (s ∈ C.map (·.1))
  | [] => by simp [kvC, valD]
  | p :: C => by
    have ih := val_kvC s C
    unfold valD kvC at ih ⊢
    rw [List.map_cons, List.find?_cons, nk_eSt]
    by_cases h : p.1 = s
    · rw [decide_eq_true (by rw [h])]
      simp [h]
    · rw [decide_eq_false (fun z => h ((kSt_inj _ _).mp (Option.some.inj z)))]
      rw [List.map_cons]
      simp only [List.mem_cons]
      rw [ih]
      exact decide_eq_decide.mpr ⟨.inr, fun z => z.resolve_left fun e => h e.symm⟩
theorem put_kvC {C : List En} {s : St} (p : Option (St × Kd)) (h : s ∉ C.map (·.1)) : putD (kvC C) (eSt s) (eSp p) = kvC (C ++ [(s, p)]) := by
  have e : ((kvC C).any fun q => decide (nk q.1 = nk (eSt s))) = false := by
    rw [List.any_eq_false]
    intro q hq
    unfold kvC at hq
    obtain ⟨r, hr, rfl⟩ := List.mem_map.mp hq
    rw [decide_eq_true_eq, nk_eSt, nk_eSt]
    exact fun z => h (List.mem_map.mpr ⟨r, hr, (kSt_inj _ _).mp (Option.some.inj z)⟩)
  unfold putD
  rw [e]
  simp [kvC]
/-- what a search holds -/
def GS (n : Nat) (A T : List (Int × Int)) (gv : List Int) (C : List En) : Hs := [.ins "Search" ["web", "given", "came", "order"] [eM n A T, .tup (gv.map .int), .rf 1, .rf 2], .dct (kvC C), .lst (C.map fun p => eSt p.1)]
section
variable {n : Nat} {A T : List (Int × Int)} {gv : List Int}
def add1 (C : List En) (x : En) : List En := addN (·.1) C [x]
theorem add1_pos {C : List En} {x : En} (h : x.1 ∈ C.map (·.1)) : add1 C x = C := by
  unfold add1 addN addN
  rw [if_pos h]
theorem add1_neg {C : List En} {x : En} (h : x.1 ∉ C.map (·.1)) : add1 C x = C ++ [x] := by
  unfold add1 addN addN
  rw [if_neg h]
theorem note_P (C : List En) (s : St) (p : Option (St × Kd)) (hl : C.length ≤ 1000) : f_Search_note [.rf 0, eSt s, eSp p] (GS n A T gv C) = some (.non, GS n A T gv (add1 C (s, p))) := by
  have t : rB (rBin g_ninD (rVar 1) (rAtI "came" (rVar 0))) [some (.rf 0), some (eSt s), some (eSp p)] (GS n A T gv C) = some (!decide (s ∈ C.map (·.1))) := by
    refine b_of (bin_of (y := .rf 1) (var_of rfl) (ati_of (var_of rfl) rfl rfl) ?_)
    show (((dctG (GS n A T gv C) (.rf 1)).bind fun kvs => (keyD (eSt s)).bind fun k => some (D.bl (true != (valD kvs k).isSome))) : Option D) = _
    rw [keyD_eSt]
    show some (D.bl (true != (valD (kvC C) (kSt s)).isSome)) = _
    rw [val_kvC]
    simp
  unfold f_Search_note fnM
  show ((b_Search_note [some (.rf 0), some (eSt s), some (eSp p)] (GS n A T gv C)).bind _) = _
  by_cases h : s ∈ C.map (·.1)
  · rw [decide_eq_true h] at t
    rw [add1_pos (x := (s, p)) h, show b_Search_note [some (.rf 0), some (eSt s), some (eSp p)] (GS n A T gv C) = _ from (if_f (ofRT_of t)).trans rfl]
    rfl
  · rw [decide_eq_false h] at t
    have hp : stD (.rf 1) (eSt s) (eSp p) (GS n A T gv C) = some [.ins "Search" ["web", "given", "came", "order"] [eM n A T, .tup (gv.map .int), .rf 1, .rf 2], .dct (kvC (C ++ [(s, p)])), .lst (C.map fun p => eSt p.1)] := by
      unfold stD
      simp only [GS, List.getElem?_cons_succ, List.getElem?_cons_zero, keyD_eSt, Option.bind_some]
      rw [if_pos (by unfold kvC; rw [List.length_map]; omega), put_kvC p h]
      rfl
    rw [add1_neg (x := (s, p)) h, show b_Search_note [some (.rf 0), some (eSt s), some (eSp p)] (GS n A T gv C) = _ from (if_t (ofRT_of t)).trans ((sq_nx (put_of (var_of rfl) (ati_of (k := 0) (x := "Search") (ns := ["web", "given", "came", "order"]) (ds := [eM n A T, .tup (gv.map .int), .rf 1, .rf 2]) (var_of rfl) rfl rfl) (var_of rfl) hp)).trans
      (exp_of (app_of (k := 2) (xs := C.map fun p => eSt p.1) (ati_of (k := 0) (x := "Search") (ns := ["web", "given", "came", "order"]) (ds := [eM n A T, .tup (gv.map .int), .rf 1, .rf 2]) (var_of rfl) rfl rfl) rfl (econs1_of (ofR_of (var_of rfl))) rfl (by rw [List.length_map]; omega))))]
    simp [GS]
theorem rfs_im : ∀ {ds : List D}, ims ds = true → rfs ds = [] := fun {ds} => by
  induction ds with
  | nil => intro _; rfl
  | cons x xs ih =>
    intro h
    simp only [ims, Bool.and_eq_true] at h
    cases x <;> first | (exact ih h.2) | (simp [D.im] at h)
theorem rens_im {f : Nat → Option Nat} : ∀ {ds : List D}, ims ds = true → rens f ds = some ds := fun {ds} => by
  induction ds with
  | nil => intro _; rfl
  | cons x xs ih =>
    intro h
    simp only [ims, Bool.and_eq_true] at h
    simp [rens, ren, h.1, ih h.2]
theorem renO_flat {f : Nat → Option Nat} (o : GO) (ho : o.flat = true) : renO f o = some o := by
  unfold renO
  rw [if_pos ho]
theorem kvC_flat (C : List En) : (GO.dct (kvC C)).flat = true := by
  have h1 : ims ((kvC C).map (·.1)) = true := by
    unfold kvC
    rw [List.map_map]
    exact ims_map (e := fun p : En => eSt p.1) (fun p => eSt_im p.1) C
  have h2 : ims ((kvC C).map (·.2)) = true := by
    unfold kvC
    rw [List.map_map]
    exact ims_map (e := fun p : En => eSp p.2) (fun p => eSp_im p.2) C
  simp [GO.flat, h1, h2]
theorem lsC_flat (C : List En) : (GO.lst (C.map fun p => eSt p.1)).flat = true := ims_map (e := fun p : En => eSt p.1) (fun p => eSt_im p.1) C
theorem renOs_GS (f : Nat → Option Nat) (C : List En) (h1 : f 1 = some 1) (h2 : f 2 = some 2) : renOs f (GS n A T gv C) = some (GS n A T gv C) := by
  have hM := eM_im n A T
  have hg : (D.tup (gv.map .int)).im = true := ims_int gv
  have ri : renO f (.ins "Search" ["web", "given", "came", "order"] [eM n A T, .tup (gv.map .int), .rf 1, .rf 2]) = some (.ins "Search" ["web", "given", "came", "order"] [eM n A T, .tup (gv.map .int), .rf 1, .rf 2]) := by
    have e : rens f [eM n A T, .tup (gv.map .int), .rf 1, .rf 2] = some [eM n A T, .tup (gv.map .int), .rf 1, .rf 2] := by
      have a1 : ren f (eM n A T) = some (eM n A T) := if_pos hM
      have a2 : ren f (.tup (gv.map .int)) = some (.tup (gv.map .int)) := if_pos hg
      have a3 : ren f (.rf 1) = some (.rf 1) := by
        show (f 1).map D.rf = _
        rw [h1]
        rfl
      have a4 : ren f (.rf 2) = some (.rf 2) := by
        show (f 2).map D.rf = _
        rw [h2]
        rfl
      simp only [rens, a1, a2, a3, a4, Option.bind_some]
    unfold renO
    have nf : (GO.ins "Search" ["web", "given", "came", "order"] [eM n A T, .tup (gv.map .int), .rf 1, .rf 2]).flat = false := by
      simp [GO.flat, ims, D.im]
    rw [nf, if_neg (by decide)]
    simp only [e, Option.map_some]
  simp only [GS, renOs, ri, renO_flat _ (kvC_flat C), renO_flat _ (lsC_flat C), Option.bind_some]
/-- a call with the search itself -/
theorem callS {F : List D → Hs → Option (D × Hs)} {ds : List D} {C C' : List En} {d : D} (hi : ims ds = true) (hd : d.im = true) (h : F (.rf 0 :: ds) (GS n A T gv C) = some (d, GS n A T gv C')) : callM F (.rf 0 :: ds) (GS n A T gv C) = some (d, GS n A T gv C') := by
  have hr : reach (GS n A T gv C) (.rf 0 :: ds) = [0, 1, 2] := by
    unfold reach
    rw [show rfs (.rf 0 :: ds) = 0 :: rfs ds from rfl, rfs_im hi]
    rfl
  unfold callM callK
  rw [hr, if_pos (by decide)]
  show ((some (GS n A T gv C)).bind _) = _
  rw [Option.bind_some, renOs_GS (fun k => [0, 1, 2].idxOf? k) C rfl rfl, Option.bind_some]
  have e1 : rens (fun k => [0, 1, 2].idxOf? k) (.rf 0 :: ds) = some (.rf 0 :: ds) := by
    show ((ren _ (.rf 0)).bind _) = _
    rw [rens_im hi]
    rfl
  rw [e1, Option.bind_some, h, Option.bind_some]
  show ((renOs (backI 3 [0, 1, 2]) (GS n A T gv C')).bind _) = _
  rw [renOs_GS (backI 3 [0, 1, 2]) C' rfl rfl, Option.bind_some]
  have e2 : ren (backI 3 [0, 1, 2]) d = some d := by simp [ren, hd]
  show ((ren (backI 3 [0, 1, 2]) d).bind _) = _
  rw [e2]
  rfl
/-- a new search -/
theorem callS0 {F : List D → Hs → Option (D × Hs)} {ds : List D} {C' : List En} (hi : ims ds = true) (h : F (.rf 0 :: ds) [.ins "Search" [] []] = some (.non, GS n A T gv C')) : callM F (.rf 0 :: ds) [.ins "Search" [] []] = some (.non, GS n A T gv C') := by
  have hr : reach [.ins "Search" [] []] (.rf 0 :: ds) = [0] := by
    unfold reach
    rw [show rfs (.rf 0 :: ds) = 0 :: rfs ds from rfl, rfs_im hi]
    rfl
  unfold callM callK
  rw [hr, if_pos (by decide)]
  show ((some [GO.ins "Search" [] []]).bind _) = _
  rw [Option.bind_some]
  have e0 : renOs (fun k => [0].idxOf? k) [.ins "Search" [] []] = some [.ins "Search" [] []] := by
    simp only [renOs, renO_flat (.ins "Search" [] []) rfl, Option.bind_some]
  rw [e0, Option.bind_some]
  have e1 : rens (fun k => [0].idxOf? k) (.rf 0 :: ds) = some (.rf 0 :: ds) := by
    show ((ren _ (.rf 0)).bind _) = _
    rw [rens_im hi]
    rfl
  rw [e1, Option.bind_some, h, Option.bind_some]
  show ((renOs (backI 1 [0]) (GS n A T gv C')).bind _) = _
  rw [renOs_GS (backI 1 [0]) C' rfl rfl, Option.bind_some]
  rfl
theorem methS {m : PySem.Str} {np : Nat} {F : List D → Hs → Option (D × Hs)} {fo : RE} {gs : EA} {δ : Env'} {ds : List D} {C C' : List En} {d : D} (ho : fo δ (GS n A T gv C) = some (.rf 0)) (hm : m ∉ (["web", "given", "came", "order"] : List PySem.Str)) (hs : gs δ (GS n A T gv C) = some (ds, GS n A T gv C)) (hn : ds.length + 1 = np) (hi : ims ds = true) (hd : d.im = true)
    (h : F (.rf 0 :: ds) (GS n A T gv C) = some (d, GS n A T gv C')) : eMeth "Search" m np F fo gs δ (GS n A T gv C) = some (d, GS n A T gv C') := by
  unfold eMeth
  rw [ho, Option.bind_some]
  show ((some (("Search" : PySem.Str), (["web", "given", "came", "order"] : List PySem.Str), ([eM n A T, .tup (gv.map .int), .rf 1, .rf 2] : List D))).bind _) = _
  rw [Option.bind_some, if_pos ⟨rfl, hm⟩, hs, Option.bind_some, if_pos hn]
  exact callS hi hd h
end
end K30
namespace FL
open PySem PySem.Spec PyProof.Rows L2
theorem fld_of {x : PySem.Str} {at_ : List PySem.Str} {f : PySem.Str} {fo fv : EE} {δ : Env'} {G G1 G2 : Hs} {d : D} {k : Nat} {ns : List PySem.Str} {ds : List D} (hv : fv δ G = some (d, G1)) (ho : fo δ G1 = some (.rf k, G2)) (hG : G2[k]? = some (.ins x ns ds)) (h1 : f ∈ at_) (h2 : immN (setF f d ns ds).1 = false) (h3 : ns.length < 900) :
    sFldI x at_ f fo fv δ G = some (.nx, δ, G2.set k (.ins x (setF f d ns ds).1 (setF f d ns ds).2)) := by
  unfold sFldI
  rw [hv, Option.bind_some, ho, Option.bind_some]
  unfold stF
  simp only [hG]
  rw [if_pos ⟨True.intro, h1, h2, h3⟩]
  rfl
theorem aug_of {f : Int → Int → Int} {i : Nat} {g : EE} {δ : Env'} {G G1 : Hs} {a b : Int} (hi : δ[i]? = some (some (.int a))) (h : g δ G = some (.int b, G1)) : sAugI f i g δ G = some (.nx, δ.set i (some (.int (f a b))), G1) := by
  unfold sAugI
  simp only [hi, h, Option.bind_some]
end FL
namespace K30
open PySem PySem.Spec PyProof.Rows L2 FL
theorem hs_ok (b : Bool) : (D.str (hs b)).ok = true := by cases b <;> decide +kernel
theorem eSt_ok (s : St) : (eSt s).ok = true := by
  have := hs_ok s.2
  simp [eSt, D.ok, oks] at this ⊢
  exact this
theorem eSt_dep (s : St) : (eSt s).dep = 1 := rfl
theorem head_s {G : Hs} (b : Bool) : g_eq G (.str (hs b)) (.str "head") = some (.bl b) := by
  show g_eq G (.str (hs b)) (.str (hs true)) = _
  rw [eq_of (hs_ok b) (hs_ok true) (Nat.zero_le _) (Nat.zero_le _), eqb_str]
  refine congrArg (fun b => some (D.bl b)) ?_
  cases b <;> decide +kernel
theorem near_s (k : Kd) : f_near_end [.str k.s] = some (.str (hs (hd2 k))) := by
  rw [near_P]
  cases k <;> rfl
theorem far_s (k : Kd) : f_far_end [.str k.s] = some (.str (hs (hd1 k))) := by
  rw [far_P]
  cases k <;> rfl
def lets (gv : List Int) (s : St) (k : Kd) : Bool := decide (s.1 ∈ gv) == (s.2 && hd2 k)
theorem is_let_P (gv : List Int) (s : St) (k : Kd) : f_is_let [.tup (gv.map .int), eSt s, .str k.s] = some (.bl (lets gv s k)) := by
  refine fnP_of ((sq_nx (asgT_of (ofR_of (var_of (d := eSt s) rfl)) (by show (4 : Nat) < 6; decide) (by show (5 : Nat) < 6; decide))).trans ((sq_nx (asg_of (ofR_of (andV_of (b := s.2) (c := hd2 k) (bin_of (var_of rfl) c_of (head_s _)) fun _ => bin_of (callP_of (ds := [.str k.s]) (cons_of (var_of rfl) nil_of) rfl rfl (near_s k)) c_of (head_s _))) (by show (3 : Nat) < 6; decide))).trans
    (ret_of (ofR_of (bin_of (bin_of (var_of rfl) (var_of rfl) (in_ii _ _)) (var_of rfl) (eq_bb _ _)))))) rfl
section
variable {n : Nat} {A T : List (Int × Int)} {gv : List Int}
def nbC (A T : List (Int × Int)) (gv : List Int) (x : En) : List En := ((steps A T x.1.1).filter fun kw => lets gv x.1 kw.1).map fun kw => ((kw.2, hd1 kw.1), some (x.1, kw.1))
theorem nbC_len (A T : List (Int × Int)) (gv : List Int) (x : En) : (nbC A T gv x).length ≤ 2 * A.length + T.length := by
  unfold nbC
  rw [List.length_map]
  exact Nat.le_trans (List.length_filter_le _ _) (steps_len A T _)
theorem add1_len (C : List En) (x : En) : (add1 C x).length ≤ C.length + 1 := by
  by_cases h : x.1 ∈ C.map (·.1)
  · rw [add1_pos h]
    omega
  · rw [add1_neg h]
    simp
def stG (gv : List Int) (v : St) (C : List En) (kw : Kd × Int) : List En := if lets gv v kw.1 = true then add1 C ((kw.2, hd1 kw.1), some (v, kw.1)) else C
theorem go_on_P (hA : A.length ≤ 15) (hT : T.length ≤ 6) (C : List En) (x : En) (hl : C.length ≤ 900) : f_Search_go_on [.rf 0, eSt x.1] (GS n A T gv C) = some (.non, GS n A T gv (addN (·.1) C (nbC A T gv x))) := by
  obtain ⟨v, s2⟩ := x
  have hlen := steps_len A T v.1
  obtain ⟨δ1, G1, h1, o2, o3, rfl, rfl, hk1⟩ := forL_fold (set := setTup [(setN 2), (setN 3)]) (b := (sIf (ofRT (rTru (rCallP 3 f_is_let (rCons (rAtI "given" (rVar 0)) (rCons (rVar 1) (rCons (rVar 2) rNil))))))
    (sExp (eMeth "Search" "note" 3 f_Search_note (rVar 0) (eCons (ofR (rTup (rCons (rVar 3) (rCons (rCallP 1 f_far_end (rCons (rVar 2) rNil)) rNil)))) (eCons (ofR (rTup (rCons (rVar 1) (rCons (rVar 2) rNil)))) (ofRA rNil)))))
    FL.sNil))
    eKV (stG gv v)
    (fun k C δ G => ∃ o2 o3, δ = [some (.rf 0), some (eSt v), o2, o3] ∧ G = GS n A T gv C ∧ C.length + k ≤ 1000) (steps A T v.1) C [some (.rf 0), some (eSt v), none, none] (GS n A T gv C) ⟨none, none, rfl, rfl, by omega⟩ fun kw hkw k C δ G ⟨o2, o3, hδ, hG, hk⟩ => by
      subst hδ hG
      refine ⟨[some (.rf 0), some (eSt v), some (.str kw.1.s), some (.int kw.2)], rfl, ?_⟩
      have t : rTru (rCallP 3 f_is_let (rCons (rAtI "given" (rVar 0)) (rCons (rVar 1) (rCons (rVar 2) rNil)))) [some (.rf 0), some (eSt v), some (.str kw.1.s), some (.int kw.2)] (GS n A T gv C) = some (lets gv v kw.1) :=
        tru_of (callP_of (ds := [.tup (gv.map .int), eSt v, .str kw.1.s]) (cons_of (ati_of (k := 0) (x := "Search") (ns := ["web", "given", "came", "order"]) (ds := [eM n A T, .tup (gv.map .int), .rf 1, .rf 2]) (var_of rfl) rfl rfl) (cons_of (var_of rfl) (cons_of (var_of rfl) nil_of))) (by simp [ims, D.im, ims_int, eSt]) rfl (is_let_P gv v kw.1)) rfl
      by_cases hc : lets gv v kw.1 = true
      · rw [hc] at t
        refine ⟨_, _, (if_t (ofRT_of t)).trans (exp_of (methS (ds := [eSt (kw.2, hd1 kw.1), eSp (some (v, kw.1))]) (var_of rfl) (by decide) (econs_of (ofR_of (tup_of (cons_of (var_of rfl) (cons_of (callP_of (ds := [.str kw.1.s]) (cons_of (var_of rfl) nil_of) rfl rfl (far_s kw.1)) nil_of)) (by simp))) (econs_of (ofR_of (tup_of (cons_of (var_of rfl) (cons_of (var_of rfl) nil_of)) (by simp))) enil_of)) rfl rfl rfl (note_P C (kw.2, hd1 kw.1) (some (v, kw.1)) (by omega)))), some (.str kw.1.s), some (.int kw.2), rfl, ?_, ?_⟩
        · unfold stG
          rw [if_pos hc]
        · unfold stG
          rw [if_pos hc]
          have := add1_len C ((kw.2, hd1 kw.1), some (v, kw.1))
          omega
      · have hc' : lets gv v kw.1 = false := by simpa using hc
        rw [hc'] at t
        refine ⟨_, _, (if_f (ofRT_of t)).trans rfl, some (.str kw.1.s), some (.int kw.2), rfl, ?_, ?_⟩
        · unfold stG
          rw [if_neg hc]
        · unfold stG
          rw [if_neg hc]
          omega
  unfold f_Search_go_on fnM
  have hb : b_Search_go_on (slots 4 [.rf 0, eSt v]) (GS n A T gv C) = _ := (forf_nx (callP_of (ds := [eM n A T, .int v.1]) (cons_of (ati_of (k := 0) (x := "Search") (ns := ["web", "given", "came", "order"]) (ds := [eM n A T, .tup (gv.map .int), .rf 1, .rf 2]) (var_of rfl) rfl rfl) (cons_of (bin_of (var_of (d := eSt v) rfl) c_of ((ixA_tup _ _).trans (at_0 _ _))) nil_of)) (by simp [ims, eM_im, D.im]) rfl (steps_P v.1 (by omega) (by omega)))).trans h1
  rw [hb]
  unfold nbC
  rw [addN_fold]
  rfl
end
end K30
namespace FL
open PySem PySem.Spec PyProof.Rows L2
theorem while_end {t : ET} {b : SS} {δ : Env'} {G G1 : Hs} (h : t δ G = some (false, G1)) : whileS t b δ G = some (.nx, δ, G1) := by
  rw [whileS_eq, h, Option.bind_some]
  rfl
end FL
namespace K30
open PySem PySem.Spec PyProof.Rows L2 FL
section
variable {n : Nat} {A T : List (Int × Int)} {gv : List Int}
/-- all states -/
def univ (n : Nat) : List St := (upto n).flatMap fun v => [(v, false), (v, true)]
theorem univ_len (n : Nat) : (univ n).length = 2 * n := by
  have h : ∀ L : List Int, (L.flatMap fun v => [((v, false) : St), (v, true)]).length = 2 * L.length := fun L => by
    induction L with
    | nil => rfl
    | cons x xs ih => rw [List.flatMap_cons, List.length_append, ih]; simp; omega
  unfold univ
  rw [h, upto_len]
theorem mem_univ {s : St} : s ∈ univ n ↔ 0 ≤ s.1 ∧ s.1 < n := by
  unfold univ
  rw [List.mem_flatMap]
  constructor
  · rintro ⟨v, hv, h⟩
    have hv := mem_upto.mp hv
    rcases List.mem_cons.mp h with rfl | h
    · exact hv
    · have : s = (v, true) := by simpa using h
      subst this
      exact hv
  · intro h
    refine ⟨s.1, mem_upto.mpr h, ?_⟩
    obtain ⟨v, b⟩ := s
    cases b <;> simp
theorem steps_rng (g : Good n A T) {v w : Int} {k : Kd} (h : (k, w) ∈ steps A T v) : 0 ≤ w ∧ w < n := by
  rcases mem_steps.mp h with (⟨_, h⟩ | ⟨_, h⟩) | ⟨_, h | ⟨h, _⟩⟩
  · have := g.aR _ h; exact ⟨this.1, this.2.1⟩
  · have := g.aR _ h; exact ⟨this.2.2.1, this.2.2.2.1⟩
  · have := g.tR _ h; exact ⟨by omega, this.2.2⟩
  · have := g.tR _ h; exact ⟨this.1, by omega⟩
theorem nbC_un (g : Good n A T) (x : En) : x.1 ∈ univ n → ∀ y ∈ nbC A T gv x, y.1 ∈ univ n := fun _ y hy => by
  unfold nbC at hy
  obtain ⟨kw, h1, rfl⟩ := List.mem_map.mp hy
  exact mem_univ.mpr (steps_rng g (List.mem_filter.mp h1).1)
def S0 (one : List Int) : List En := one.map fun v => ((v, false), none)
def closC (n : Nat) (A T : List (Int × Int)) (gv one : List Int) : List En := closeN (·.1) (nbC A T gv) (2 * n) 0 (S0 one)
theorem S0_inv {one : List Int} (nd : one.Nodup) (hr : ∀ v ∈ one, 0 ≤ v ∧ v < n) : CInv (·.1) (nbC A T gv) (univ n) (S0 one) 0 (S0 one) := by
  refine CInv.start _ _ ?_ fun x hx => ?_
  · unfold S0
    rw [List.map_map]
    exact nodup_map (fun x _ y _ h => (Prod.mk.inj h).1) nd
  · unfold S0 at hx
    obtain ⟨v, hv, rfl⟩ := List.mem_map.mp hx
    exact mem_univ.mpr (hr v hv)
theorem closC_inv (g : Good n A T) {one : List Int} (nd : one.Nodup) (hr : ∀ v ∈ one, 0 ≤ v ∧ v < n) : CInv (·.1) (nbC A T gv) (univ n) (S0 one) (closC n A T gv one).length (closC n A T gv one) :=
  closeN_inv (nbC_un g) _ _ _ (S0_inv nd hr) (Nat.zero_le _) (by rw [univ_len]; omega)
abbrev wB : SS := (sSeq (sExp (eMeth "Search" "go_on" 2 f_Search_go_on (rVar 0) (eCons (ofR (rBin ixA (rAtI "order" (rVar 0)) (rVar 5))) (ofRA rNil))))
   (sAugI (fun i j => i + j) 5 (ofR (rC (.int 1)))))
abbrev wT : ET := (ofRT (rB (rBin g_ltA (rVar 5) (rCal gLen (rCons (rAtI "order" (rVar 0)) rNil)))))
theorem while_P (g : Good n A T) {one : List Int} {o1 o2 o3 o4 : Option D} : ∀ (m i : Nat) (C : List En), CInv (·.1) (nbC A T gv) (univ n) (S0 one) i C → i ≤ C.length → (univ n).length ≤ i + m →
    ∃ i' : Nat, whileS wT wB [some (.rf 0), o1, o2, o3, o4, some (.int (i : Int))] (GS n A T gv C) = some (.nx, [some (.rf 0), o1, o2, o3, o4, some (.int (i' : Int))], GS n A T gv (closeN (·.1) (nbC A T gv) m i C)) := by
  intro m
  induction m with
  | zero =>
    intro i C h hi hm
    have hl := h.len
    have t : wT [some (.rf 0), o1, o2, o3, o4, some (.int (i : Int))] (GS n A T gv C) = some (false, GS n A T gv C) := ofRT_of (b_of (bin_of (var_of rfl) (cal1_of (ati_of (k := 0) (x := "Search") (ns := ["web", "given", "came", "order"]) (ds := [eM n A T, .tup (gv.map .int), .rf 1, .rf 2]) (var_of rfl) rfl rfl) (len_rf (k := 2) (ds := C.map fun p => eSt p.1) rfl)) ((lt_ii _ _).trans (by rw [List.length_map, decide_eq_false (by omega)]))))
    exact ⟨i, while_end t⟩
  | succ m ih =>
    intro i C h hi hm
    have t : wT [some (.rf 0), o1, o2, o3, o4, some (.int (i : Int))] (GS n A T gv C) = some (decide ((i : Int) < (C.length : Int)), GS n A T gv C) := ofRT_of (b_of (bin_of (var_of rfl) (cal1_of (ati_of (k := 0) (x := "Search") (ns := ["web", "given", "came", "order"]) (ds := [eM n A T, .tup (gv.map .int), .rf 1, .rf 2]) (var_of rfl) rfl rfl) (len_rf (k := 2) (ds := C.map fun p => eSt p.1) rfl)) ((lt_ii _ _).trans (by rw [List.length_map]))))
    have hl := h.len
    rw [univ_len] at hl
    have hn := g.n2
    by_cases hlt : i < C.length
    · rw [decide_eq_true (by omega)] at t
      have hx : C[i]? = some C[i] := List.getElem?_eq_getElem hlt
      have hb : wB [some (.rf 0), o1, o2, o3, o4, some (.int (i : Int))] (GS n A T gv C) = some (.nx, [some (.rf 0), o1, o2, o3, o4, some (.int ((i : Int) + 1))], GS n A T gv (addN (·.1) C (nbC A T gv C[i]))) := by
        refine (sq_nx (exp_of (methS (ds := [eSt C[i].1]) (var_of rfl) (by decide) (econs_of (ofR_of (bin_of (ati_of (k := 0) (x := "Search") (ns := ["web", "given", "came", "order"]) (ds := [eM n A T, .tup (gv.map .int), .rf 1, .rf 2]) (var_of rfl) rfl rfl) (var_of rfl) ((ixA_rf (k := 2) (ds := C.map fun p => eSt p.1) _ rfl).trans ?_))) enil_of) rfl rfl rfl (go_on_P g.aL g.tL C C[i] (by omega))))).trans (aug_of (a := (i : Int)) (b := 1) rfl (ofR_of c_of))
        rw [at_nat, List.getElem?_map, hx]
        rfl
      obtain ⟨i', hw⟩ := ih (i + 1) (addN (·.1) C (nbC A T gv C[i])) (h.next (nbC_un g) hx) (by have := (addN_pre (·.1) (nbC A T gv C[i]) C).length_le; omega) (by omega)
      refine ⟨i', (while_nx t hb).trans ?_⟩
      unfold closeN
      rw [hx]
      exact hw
    · rw [decide_eq_false (by omega)] at t
      refine ⟨i, (while_end t).trans ?_⟩
      rw [closeN_end _ _ _ (by omega)]
theorem add_all : ∀ (one : List Int) (C : List En), (∀ v ∈ one, ((v, false) : St) ∉ C.map (·.1)) → one.Nodup → one.foldl (fun C v => add1 C ((v, false), none)) C = C ++ S0 one
  | [], C, _, _ => by simp [S0]
  | v :: one, C, h, nd => by
    have nd' := List.nodup_cons.mp nd
    rw [List.foldl_cons, add1_neg (x := ((v, false), none)) (h v List.mem_cons_self), add_all one _ (fun w hw hm => ?_) nd'.2]
    · simp [S0]
    · rw [List.map_append, List.mem_append] at hm
      rcases hm with hm | hm
      · exact h w (List.mem_cons_of_mem _ hw) hm
      · have : w = v := by simpa using hm
        subst this
        exact nd'.1 hw
theorem Search_P (g : Good n A T) {one : List Int} (nd : one.Nodup) (hr : ∀ v ∈ one, 0 ≤ v ∧ v < n) (hl : one.length ≤ 100) :
    f_Search [.rf 0, eM n A T, .tup (one.map .int), .tup (gv.map .int)] [.ins "Search" [] []] = some (.non, GS n A T gv (closC n A T gv one)) := by
  obtain ⟨δ1, G1, h1, o4, rfl, rfl, hk1⟩ := forL_fold (set := setN 4) (b := (sExp (eMeth "Search" "note" 3 f_Search_note (rVar 0) (eCons (ofR (rTup (rCons (rVar 4) (rCons (rC (.str "tail")) rNil)))) (eCons (ofR (rC .non)) (ofRA rNil))))))
    (D.int) (fun C v => add1 C ((v, false), none)) (fun k C δ G => ∃ o4, δ = [some (.rf 0), some (eM n A T), some (.tup (one.map .int)), some (.tup (gv.map .int)), o4, none] ∧ G = GS n A T gv C ∧ C.length + k ≤ 1000) one [] [some (.rf 0), some (eM n A T), some (.tup (one.map .int)), some (.tup (gv.map .int)), none, none] (GS n A T gv []) ⟨none, rfl, rfl, by simp; omega⟩ fun v hv k C δ G ⟨o4, hδ, hG, hk⟩ => by
      subst hδ hG
      refine ⟨_, rfl, _, _, exp_of (methS (ds := [eSt (v, false), eSp none]) (var_of rfl) (by decide) (econs_of (ofR_of (tup_of (cons_of (var_of rfl) (cons_of c_of nil_of)) (by simp))) (econs_of (ofR_of c_of) enil_of)) rfl rfl rfl (note_P C (v, false) none (by omega))), some (.int v), rfl, rfl, ?_⟩
      have := add1_len C ((v, false), none)
      omega
  rw [add_all one [] (fun v hv hm => by simp at hm) nd, List.nil_append] at h1
  obtain ⟨i', h2⟩ := while_P g (one := one) (o1 := some (eM n A T)) (o2 := some (.tup (one.map .int))) (o3 := some (.tup (gv.map .int))) (o4 := o4) (2 * n) 0 (S0 one) (S0_inv nd hr) (Nat.zero_le _) (by rw [univ_len]; omega)
  have hb : b_Search (slots 6 [.rf 0, eM n A T, .tup (one.map .int), .tup (gv.map .int)]) [.ins "Search" [] []] = _ :=
    (sq_nx (fld_of (k := 0) (x := "Search") (ns := []) (ds := []) (ofR_of (var_of rfl)) (ofR_of (var_of rfl)) rfl (by decide) rfl (by decide))).trans
    ((sq_nx (fld_of (k := 0) (x := "Search") (ns := ["web"]) (ds := [eM n A T]) (ofR_of (var_of rfl)) (ofR_of (var_of rfl)) rfl (by decide) rfl (by decide))).trans
    ((sq_nx (fld_of (k := 0) (x := "Search") (ns := ["web", "given"]) (ds := [eM n A T, .tup (gv.map .int)]) (d := .rf 1) (G1 := [.ins "Search" ["web", "given"] [eM n A T, .tup (gv.map .int)], .dct []]) rfl (ofR_of (var_of rfl)) rfl (by decide) rfl (by decide))).trans
    ((sq_nx (fld_of (k := 0) (x := "Search") (ns := ["web", "given", "came"]) (ds := [eM n A T, .tup (gv.map .int), .rf 1]) (d := .rf 2) (G1 := [.ins "Search" ["web", "given", "came"] [eM n A T, .tup (gv.map .int), .rf 1], .dct [], .lst []]) rfl (ofR_of (var_of rfl)) rfl (by decide) rfl (by decide))).trans
    ((sq_nx ((for_nx (ofRA_of (itup_of (xs := one.map .int) (var_of rfl)))).trans h1)).trans
    ((sq_nx (asg_of (ofR_of c_of) (by show (5 : Nat) < 6; decide))).trans h2)))))
  unfold f_Search fnM
  rw [hb]
  rfl
end
end K30
namespace K30
open PySem PySem.Spec PyProof.Rows L2 FL
def okS (gv : List Int) (s : St) (sd : Sd) : Bool := decide (s.1 ∈ gv) == (s.2 && sd.2.1)
section
variable {n : Nat} {A T : List (Int × Int)} {gv : List Int}
theorem sides_ok (g : Good n A T) {a : Int} {sd : Sd} (h : sd ∈ sides A T a) : (0 ≤ sd.2.2.1 ∧ sd.2.2.1 < n) ∧ edge A T a sd.1 sd.2.2.1 = true ∧ sd.2.1 = hd2 sd.1 ∧ sd.2.2.2 = hd1 sd.1 := by
  have he : edge A T a sd.1 sd.2.2.1 = true := by
    rw [edge_sides g]
    exact decide_eq_true (List.mem_map.mpr ⟨sd, h, rfl⟩)
  refine ⟨?_, he, ?_⟩
  · rcases List.mem_append.mp h with h | h
    · obtain ⟨p, hp, hs⟩ := List.mem_flatMap.mp h
      have hr := g.aR _ hp
      rcases (mem_sdA hr.2.2.2.2).mp hs with ⟨rfl, _⟩ | ⟨rfl, _⟩
      · exact ⟨hr.2.2.1, hr.2.2.2.1⟩
      · exact ⟨hr.1, hr.2.1⟩
    · obtain ⟨p, hp, hs⟩ := List.mem_flatMap.mp h
      have hr := g.tR _ hp
      unfold sdT at hs
      split at hs
      case isFalse => cases hs
      simp only [List.mem_singleton] at hs
      subst hs
      simp only
      split <;> omega
  · rcases List.mem_append.mp h with h | h
    · obtain ⟨p, hp, hs⟩ := List.mem_flatMap.mp h
      rcases (mem_sdA (g.aR _ hp).2.2.2.2).mp hs with ⟨rfl, _⟩ | ⟨rfl, _⟩ <;> exact ⟨rfl, rfl⟩
    · obtain ⟨p, hp, hs⟩ := List.mem_flatMap.mp h
      unfold sdT at hs
      split at hs
      case isFalse => cases hs
      simp only [List.mem_singleton] at hs
      subst hs
      exact ⟨rfl, rfl⟩
def farW (w : List I0) : Bool := match w[w.length - 2]? with | some (.k k) => hd1 k | _ => false
def stW (w : List I0) : St := (endV w, farW w)
def gdW (gv : List Int) (w : List I0) : Bool := (decide (w.length ≤ 1) || !memO gv w[0]?) && (List.range ((w.length - 3) / 2)).all fun i => memO gv w[2 * i + 2]? == mtO w[2 * i + 1]? w[2 * i + 3]?
/-- what a walk of a level is -/
structure Lw (n : Nat) (A T : List (Int × Int)) (b : Int) (k : Nat) (w : List I0) : Prop where
  len : w.length = 2 * k + 1
  last : w.getLast? = some (.v (endV w))
  fst : w[0]? = some (.v b)
  vs : ∀ i, 2 * i < w.length → isV n w[2 * i]? = true
  es : ∀ i, 2 * i + 2 < w.length → edO A T w[2 * i]? w[2 * i + 1]? w[2 * i + 2]? = true
theorem Lw.nxt (g : Good n A T) {b : Int} {k : Nat} {w : List I0} (h : Lw n A T b k w) {s : Sd} (hs : s ∈ sides A T (endV w)) : Lw n A T b (k + 1) (nxt w s) := by
  obtain ⟨h1, h2, h3, h4⟩ := sides_ok g hs
  have hl := h.len
  have g1 : ∀ i, i < w.length → (K30.nxt w s)[i]? = w[i]? := fun i hi => List.getElem?_append_left hi
  have g2 : (K30.nxt w s)[2 * k + 1]? = some (.k s.1) := by
    unfold K30.nxt
    rw [List.getElem?_append_right (by omega), hl, Nat.sub_self]
    rfl
  have g3 : (K30.nxt w s)[2 * k + 2]? = some (.v s.2.2.1) := by
    unfold K30.nxt
    rw [List.getElem?_append_right (by omega), hl, show 2 * k + 2 - (2 * k + 1) = 1 by omega]
    rfl
  have g4 : w[2 * k]? = some (.v (endV w)) := by
    have := h.last
    rw [List.getLast?_eq_getElem?, hl] at this
    exact this
  have ln : (K30.nxt w s).length = 2 * (k + 1) + 1 := by simp [K30.nxt]; omega
  refine ⟨ln, ?_, by rw [g1 0 (by omega)]; exact h.fst, fun i hi => ?_, fun i hi => ?_⟩
  · rw [nxt_last]
    unfold endV
    rw [nxt_last]
  · by_cases e : 2 * i < w.length
    · rw [g1 _ e]
      exact h.vs i e
    · have : i = k + 1 := by omega
      subst this
      rw [show 2 * (k + 1) = 2 * k + 2 by omega, g3]
      simp [isV, isVx, h1]
  · by_cases e : 2 * i + 2 < w.length
    · rw [g1 _ (by omega), g1 _ (by omega), g1 _ e]
      exact h.es i e
    · have : i = k := by omega
      subst this
      rw [g1 _ (by omega), g2, g3, g4]
      exact h2
theorem Lw.wk {b : Int} {k : Nat} {w : List I0} (h : Lw n A T b (k + 1) w) (hk : k ≤ 39) : Wk n A T w = true := by
  have hl := h.len
  unfold Wk
  have s1 : szOK w.length = true := decide_eq_true (by omega)
  have s2 : (ev2 w).all (isVx n) = true := by
    rw [ev2_all (isVx n) (isV n) (fun _ => rfl), List.all_eq_true]
    intro i hi
    have hi := List.mem_range.mp hi
    exact h.vs i (by omega)
  have s3 : edges A T w = true := by
    unfold edges
    rw [List.all_eq_true]
    intro i hi
    have hi := List.mem_range.mp hi
    exact h.es i (by omega)
  rw [s1, s2, s3]
  rfl
theorem Lw.kind {b : Int} {k : Nat} {w : List I0} (h : Lw n A T b (k + 1) w) : ∃ p, w[2 * k + 1]? = some (.k p) := by
  have := h.es k (by have := h.len; omega)
  revert this
  cases w[2 * k]? with
  | none => intro h; cases h
  | some x => cases x with
    | k k => intro h; cases h
    | v a => cases w[2 * k + 1]? with
      | none => intro h; cases h
      | some x => cases x with
        | v k => intro h; cases h
        | k k => exact fun _ => ⟨k, rfl⟩
theorem st_nxt (g : Good n A T) {w : List I0} {s : Sd} (hs : s ∈ sides A T (endV w)) : stW (nxt w s) = (s.2.2.1, s.2.2.2) := by
  obtain ⟨_, _, _, h4⟩ := sides_ok g hs
  have e1 : endV (nxt w s) = s.2.2.1 := by
    unfold endV
    rw [nxt_last]
  have e2 : farW (nxt w s) = s.2.2.2 := by
    have : (nxt w s)[(nxt w s).length - 2]? = some (.k s.1) := by
      unfold nxt
      rw [List.length_append, List.getElem?_append_right (by simp)]
      simp
    unfold farW
    rw [this, h4]
  rw [stW, e1, e2]
theorem gd_nxt (g : Good n A T) {b : Int} {k : Nat} {w : List I0} (h : Lw n A T b k w) {s : Sd} (hs : s ∈ sides A T (endV w)) : gdW gv (nxt w s) = (gdW gv w && okS gv (stW w) s) := by
  obtain ⟨_, _, h3, h4⟩ := sides_ok g hs
  have hl := h.len
  have g1 : ∀ i, i < w.length → (nxt w s)[i]? = w[i]? := fun i hi => List.getElem?_append_left hi
  have g2 : (nxt w s)[2 * k + 1]? = some (.k s.1) := by
    unfold nxt
    rw [List.getElem?_append_right (by omega), hl, Nat.sub_self]
    rfl
  have g4 : w[2 * k]? = some (.v (endV w)) := by
    have := h.last
    rw [List.getLast?_eq_getElem?, hl] at this
    exact this
  have ln : (nxt w s).length = 2 * (k + 1) + 1 := by simp [nxt]; omega
  unfold gdW
  rw [ln, hl, g1 0 (by omega)]
  cases k with
  | zero =>
    have f : farW w = false := by
      unfold farW
      rw [hl, show 2 * 0 + 1 - 2 = 0 by omega, h.fst]
    have e : w[0]? = some (.v (endV w)) := g4
    simp only [okS, stW, f, Bool.false_and]
    rw [e]
    simp [memO]
  | succ k =>
    obtain ⟨p, hp⟩ := h.kind
    have f : farW w = hd1 p := by
      unfold farW
      rw [hl, show 2 * (k + 1) + 1 - 2 = 2 * k + 1 by omega, hp]
    rw [show (2 * (k + 1 + 1) + 1 - 3) / 2 = k + 1 by omega, show (2 * (k + 1) + 1 - 3) / 2 = k by omega, List.range_succ, List.all_append]
    rw [show (List.range k).all (fun i => memO gv (nxt w s)[2 * i + 2]? == mtO (nxt w s)[2 * i + 1]? (nxt w s)[2 * i + 3]?) = (List.range k).all (fun i => memO gv w[2 * i + 2]? == mtO w[2 * i + 1]? w[2 * i + 3]?) from by
      rw [Bool.eq_iff_iff, List.all_eq_true, List.all_eq_true]
      constructor
      · intro hh i hi
        have := hh i hi
        have hi := List.mem_range.mp hi
        rw [g1 _ (by omega), g1 _ (by omega), g1 _ (by omega)] at this
        exact this
      · intro hh i hi
        have := hh i hi
        have hi := List.mem_range.mp hi
        rw [g1 _ (by omega), g1 _ (by omega), g1 _ (by omega)]
        exact this]
    have e1 : (nxt w s)[2 * k + 2]? = some (.v (endV w)) := by rw [g1 _ (by omega)]; exact g4
    have e2 : (nxt w s)[2 * k + 1]? = some (.k p) := by rw [g1 _ (by omega)]; exact hp
    have e3 : (nxt w s)[2 * k + 3]? = some (.k s.1) := g2
    simp only [List.all_cons, List.all_nil, Bool.and_true, e1, e2, e3, okS, stW, f, h3, memO, mtO]
    rw [show decide (2 * (k + 1 + 1) + 1 ≤ 1) = decide (2 * (k + 1) + 1 ≤ 1) by rw [decide_eq_false (by omega), decide_eq_false (by omega)], Bool.and_assoc]
theorem opn_gd {b : Int} {k : Nat} {w : List I0} (h : Lw n A T b (k + 1) w) (hk : k ≤ 39) : Opn n A T gv w = (gdW gv w && !decide (endV w ∈ gv)) := by
  have hl := h.len
  unfold Opn gdW
  rw [h.wk hk, h.last, decide_eq_false (show ¬ w.length ≤ 1 by omega), show memO gv (some (.v (endV w))) = decide (endV w ∈ gv) from rfl]
  generalize memO gv w[0]? = x
  generalize decide (endV w ∈ gv) = y
  generalize (List.range ((w.length - 3) / 2)).all _ = z
  cases x <;> cases y <;> cases z <;> rfl
end
end K30
namespace K30
open PySem PySem.Spec PyProof.Rows L2 FL
theorem valD_kvC {s : St} {p : Option (St × Kd)} : ∀ {C : List En}, (C.map (·.1)).Nodup → (s, p) ∈ C → valD (kvC C) (kSt s) = some (eSp p)
  | [], _, h => by cases h
  | q :: C, nd, h => by
    have nd' := List.nodup_cons.mp (show (q.1 :: C.map (·.1)).Nodup from nd)
    unfold valD kvC
    rw [List.map_cons, List.find?_cons, nk_eSt]
    by_cases hq : q.1 = s
    · rw [decide_eq_true (by rw [hq])]
      rcases List.mem_cons.mp h with e | e
      · subst e; rfl
      · exact absurd (List.mem_map.mpr ⟨_, e, rfl⟩) (hq ▸ nd'.1)
    · rw [decide_eq_false (fun z => hq ((kSt_inj _ _).mp (Option.some.inj z)))]
      rcases List.mem_cons.mp h with e | e
      · subst e; exact absurd rfl hq
      · exact valD_kvC nd'.2 e
section
variable {n : Nat} {A T : List (Int × Int)} {gv : List Int}
theorem ix_came {C : List En} {s : St} {p : Option (St × Kd)} (nd : (C.map (·.1)).Nodup) (h : (s, p) ∈ C) : ixA (GS n A T gv C) (.rf 1) (eSt s) = some (eSp p) := by
  have e1 : ixD (GS n A T gv C) (.rf 1) (eSt s) = none := rfl
  have e2 : ixDct (GS n A T gv C) (.rf 1) (eSt s) = some (eSp p) := by
    show (((some (kvC C)).bind fun kvs => (keyD (eSt s)).bind fun k => valD kvs k) : Option D) = _
    rw [Option.bind_some, keyD_eSt, Option.bind_some]
    exact valD_kvC nd h
  show fOr ixD (fOr ixDct ixFd) _ _ _ = _
  unfold fOr
  rw [e1]
  simp only [fOr, e2]
theorem steps_side (g : Good n A T) {v w : Int} {k : Kd} : (k, w) ∈ steps A T v ↔ ∃ sd ∈ sides A T v, sd.1 = k ∧ sd.2.2.1 = w := by
  have h : (k, w) ∈ steps A T v ↔ edge A T v k w = true := by
    rw [mem_steps]
    cases k with
    | to => simp [edge]
    | fr => simp [edge]
    | ti =>
      simp only [edge, decide_eq_true_eq, reduceCtorEq, false_and, false_or, true_and]
      constructor
      · rintro (h | ⟨h, hn⟩)
        · have := g.tR _ h
          simp only at this
          rwa [Int.min_eq_left (by omega), Int.max_eq_right (by omega)]
        · have := g.tR _ h
          simp only at this
          rwa [Int.min_eq_right (by omega), Int.max_eq_left (by omega)]
      · intro h
        have := g.tR _ h
        simp only at this
        by_cases hv : v ≤ w
        · rw [Int.min_eq_left hv, Int.max_eq_right hv] at h
          exact .inl h
        · rw [Int.min_eq_right (by omega), Int.max_eq_left (by omega)] at h
          exact .inr ⟨h, by omega⟩
  rw [h, edge_sides g, decide_eq_true_eq, List.mem_map]
  constructor
  · rintro ⟨sd, h1, h2⟩
    simp only [sII, Prod.mk.injEq, I0.k.injEq, I0.v.injEq] at h2
    exact ⟨sd, h1, h2⟩
  · rintro ⟨sd, h1, h2, h3⟩
    exact ⟨sd, h1, by simp [sII, h2, h3]⟩
abbrev kT : ET := (ofRT (rB (rBin g_isnA (rBin ixA (rAtI "came" (rVar 0)) (rVar 2)) (rC .non))))
abbrev kB : SS := (sSeq (sAsg (ofR (rBin ixA (rAtI "came" (rVar 0)) (rVar 2))) (setTup [(setN 2), (setN 4)]))
   (sAsg (ofR (rBin g_addA (rFl (rCons (rBin ixA (rVar 2) (rC (.int 0))) (rCons (rVar 4) rNil))) (rVar 3))) (setN 3)))
def Run (n : Nat) (A T : List (Int × Int)) (gv : List Int) (C : List En) (m : Nat) (s : St) (w : List I0) : Prop := ∀ (o1 : Option D) (rest : List I0) (o4 : Option D), rest.length + 2 * m ≤ 1000 →
  ∃ s' o4', whileS kT kB [some (.rf 0), o1, some (eSt s), some (.fl ((.v s.1 :: rest).map eI)), o4] (GS n A T gv C) = some (.nx, [some (.rf 0), o1, some (eSt s'), some (.fl ((w ++ rest).map eI)), o4'], GS n A T gv C)
/-- what is known of the way to a state -/
def Way (n : Nat) (A T : List (Int × Int)) (gv one : List Int) (C : List En) (m : Nat) (s : St) (w : List I0) : Prop := (∃ b k, b ∈ one ∧ Lw n A T b k w ∧ k ≤ m ∧ stW w = s ∧ gdW gv w = true) ∧ Run n A T gv C m s w
theorem way_P (g : Good n A T) {one : List Int} (hr : ∀ v ∈ one, 0 ≤ v ∧ v < n) {C : List En} (h : CInv (·.1) (nbC A T gv) (univ n) (S0 one) C.length C) (hl : C.length ≤ 50) : ∀ (j : Nat) (x : En), C[j]? = some x → ∃ w, Way n A T gv one C j x.1 w := by
  intro j
  induction j using Nat.strongRecOn with
  | _ j ih =>
    intro x hx
    have hj := (List.getElem?_eq_some_iff.mp hx).1
    have hm : x ∈ C := List.mem_of_getElem? hx
    rcases h.fr j x hx with h1 | ⟨i, z, h1, h2, h3⟩
    · unfold S0 at h1
      obtain ⟨v, hv, rfl⟩ := List.mem_map.mp h1
      refine ⟨[.v v], ⟨v, 0, hv, ⟨rfl, rfl, rfl, fun i hi => ?_, fun i hi => by simp at hi⟩, Nat.zero_le _, rfl, by simp [gdW]⟩, fun o1 rest o4 hrest => ⟨(v, false), o4, while_end ?_⟩⟩
      · have : i = 0 := by simp at hi; omega
        subst this
        have := hr v hv
        simp [isV, isVx, this]
      · exact ofRT_of (b_of (bin_of (bin_of (ati_of (k := 0) (x := "Search") (ns := ["web", "given", "came", "order"]) (ds := [eM n A T, .tup (gv.map .int), .rf 1, .rf 2]) (var_of rfl) rfl rfl) (var_of rfl) (ix_came h.nd hm)) c_of rfl))
    · obtain ⟨w, ⟨b, k, hb, hw, hk, hst, hgd⟩, hrun⟩ := ih i h1 z h2
      unfold nbC at h3
      obtain ⟨⟨kd, u⟩, h4, rfl⟩ := List.mem_map.mp h3
      obtain ⟨h5, h6⟩ := List.mem_filter.mp h4
      obtain ⟨sd, h7, h8, h9⟩ := (steps_side g).mp h5
      have hend : endV w = z.1.1 := congrArg Prod.fst hst
      have h7' : sd ∈ sides A T (endV w) := by rw [hend]; exact h7
      obtain ⟨_, _, hh2, hh1⟩ := sides_ok g h7
      have en : nxt w sd = w ++ [.k kd, .v u] := by rw [← h8, ← h9]; rfl
      refine ⟨w ++ [.k kd, .v u], ⟨b, k + 1, hb, en ▸ hw.nxt g h7', by omega, ?_, ?_⟩, fun o1 rest o4 hrest => ?_⟩
      · rw [← en, st_nxt g h7', h9, hh1, h8]
      · rw [← en, gd_nxt g hw h7', hgd, hst, Bool.true_and]
        show (decide (z.1.1 ∈ gv) == (z.1.2 && sd.2.1)) = true
        rw [hh2, h8]
        exact h6
      · have t : kT [some (.rf 0), o1, some (eSt (u, hd1 kd)), some (.fl ((.v u :: rest).map eI)), o4] (GS n A T gv C) = some (true, GS n A T gv C) :=
          ofRT_of (b_of (bin_of (bin_of (ati_of (k := 0) (x := "Search") (ns := ["web", "given", "came", "order"]) (ds := [eM n A T, .tup (gv.map .int), .rf 1, .rf 2]) (var_of rfl) rfl rfl) (var_of rfl) (ix_came h.nd hm)) c_of rfl))
        have hb2 : kB [some (.rf 0), o1, some (eSt (u, hd1 kd)), some (.fl ((.v u :: rest).map eI)), o4] (GS n A T gv C) = some (.nx, [some (.rf 0), o1, some (eSt z.1), some (.fl ((.v z.1.1 :: (.k kd :: .v u :: rest)).map eI)), some (.str kd.s)], GS n A T gv C) :=
          (sq_nx (asgT_of (ofR_of (bin_of (ati_of (k := 0) (x := "Search") (ns := ["web", "given", "came", "order"]) (ds := [eM n A T, .tup (gv.map .int), .rf 1, .rf 2]) (var_of rfl) rfl rfl) (var_of rfl) (ix_came h.nd hm))) (by show (2 : Nat) < 5; decide) (by show (4 : Nat) < 5; decide))).trans
          (asg_of (d := .fl ((.v z.1.1 :: (.k kd :: .v u :: rest)).map eI)) (ofR_of (bin_of (fl_of (cons_of (bin_of (var_of (d := eSt z.1) rfl) c_of ((ixA_tup _ _).trans (at_0 _ _))) (cons_of (var_of rfl) nil_of)) (by simp)) (var_of rfl) (cat_lst (a := [.int z.1.1, .str kd.s]) (b := (.v u :: rest).map eI) rfl rfl rfl rfl (by simp; omega)))) (by show (3 : Nat) < 5; decide))
        obtain ⟨s', o4', hw2⟩ := hrun o1 (.k kd :: .v u :: rest) (some (.str kd.s)) (by simp only [List.length_cons]; omega)
        refine ⟨s', o4', (while_nx t hb2).trans (hw2.trans ?_)⟩
        rw [List.append_assoc]
        rfl
end
end K30
namespace FL
open PySem PySem.Spec PyProof.Rows L2
theorem replAll (m : Nat) : (List.replicate m true).all id = true := by
  rw [List.all_eq_true]
  intro x hx
  exact (List.mem_replicate.mp hx).2
theorem putKD_new {k : L2.Key} {d : D} {acc : List (L2.Key × D)} (h : k ∉ acc.map (·.1)) : putKD acc k d = acc ++ [(k, d)] := by
  unfold putKD
  rw [if_neg]
  intro z
  obtain ⟨p, hp, e⟩ := List.any_eq_true.mp z
  exact h (List.mem_map.mpr ⟨p, hp, of_decide_eq_true e⟩)
theorem dcR_ints {set : Sets} {fk fv : RE} {δ : Env'} {G : Hs} {c : D} (δ1 : Int → Env') : ∀ (L : List Int) (acc : List (L2.Key × D)), (∀ x ∈ L, set (.int x) δ = some (δ1 x) ∧ fk (δ1 x) G = some (.int x) ∧ fv (δ1 x) G = some c) → L.Nodup → (∀ x ∈ L, (Sum.inl x : L2.Key) ∉ acc.map (·.1)) →
    dcR set fk fv (L.map .int) δ G acc = some (acc ++ L.map fun x => (.inl x, c))
  | [], acc, _, _, _ => by simp [dcR]
  | x :: L, acc, h, nd, hn => by
    obtain ⟨h1, h2, h3⟩ := h x List.mem_cons_self
    have nd' := List.nodup_cons.mp nd
    rw [List.map_cons, dcR, h1, Option.bind_some, h2, Option.bind_some]
    show ((some (Sum.inl x : L2.Key)).bind _) = _
    rw [Option.bind_some, h3, Option.bind_some, putKD_new (hn x List.mem_cons_self), dcR_ints δ1 L _ (fun y hy => h y (List.mem_cons_of_mem _ hy)) nd'.2 fun y hy z => ?_]
    · simp
    · rw [List.map_append, List.mem_append] at z
      rcases z with z | z
      · exact hn y (List.mem_cons_of_mem _ hy) z
      · have : y = x := by simpa using z
        subst this
        exact nd'.1 hy
end FL
namespace K30
open PySem PySem.Spec PyProof.Rows L2 FL
theorem rising_I {L : List Int} (h : L.Pairwise (· < ·)) (hl : L.length ≤ 1000) : f_are_rising [.tup (L.map .int)] = some (.bl true) := by
  have am : ∀ {i : Int} {j : Nat} (hi : 0 ≤ i) (hj : i.toNat = j) (hl : j < L.length), L2.atI (L.map D.int) i = some (.int L[j]) := fun {i j} hi hj hl => by
    rw [at_int _ hi, hj, List.getElem?_map, List.getElem?_eq_getElem hl]
    rfl
  refine fnP_of (ret_of (ofR_of (cal1_of (rlc_of (fun i : Nat => D.int (1 + (i : Int))) (fun i => [some (.tup (L.map .int)), some (.int (1 + (i : Int)))]) (fun _ => true) (fun _ => .bl true) (List.range (((L.map D.int).length : Int) - 1).toNat)
    (rg2_of c_of (cal1_of (var_of rfl) (len_tup _)) (by decide) (by rw [List.length_map]; omega) (by rw [List.length_map]; omega)) (by rw [List.length_range, List.length_map]; omega) fun i hi => ?_) ?_))) rfl
  · have hi' : i + 1 < L.length := by
      have := List.mem_range.mp hi
      rw [List.length_map] at this
      omega
    refine ⟨rfl, rfl, fun _ => bin_of (bin_of (var_of rfl) (bin_of (var_of rfl) c_of (sub_ii _ _)) ((ixA_tup _ _).trans (am (j := i) (by omega) (by omega) (by omega)))) (bin_of (var_of rfl) (var_of rfl) ((ixA_tup _ _).trans (am (j := i + 1) (by omega) (by omega) hi'))) ?_⟩
    rw [lt_ii, decide_eq_true (List.pairwise_iff_getElem.mp h i (i + 1) (by omega) hi' (by omega))]
  · have e : ((List.range (((L.map D.int).length : Int) - 1).toNat).filter fun _ => true).map (fun _ => D.bl true) = (List.replicate (((L.map D.int).length : Int) - 1).toNat true).map .bl := by
      rw [List.map_replicate, List.map_const', List.filter_eq_self.mpr (fun _ _ => rfl), List.length_range]
    rw [e, all_bl, replAll]
theorem is_lot_P {n : Int} {L : List Int} (h : L.Pairwise (· < ·)) (hl : L.length ≤ 1000) (hr : ∀ v ∈ L, 0 ≤ v ∧ v < n) : f_is_lot [.tup (L.map .int), .int n] = some (.bl true) := by
  have hel : ∀ v ∈ L, rCallP 2 f_is_under (rCons (rVar 2) (rCons (rVar 1) rNil)) [some (.tup (L.map .int)), some (.int n), some (.int v)] [] = some (.bl true) := fun v hv =>
    callP_of (ds := [.int v, .int n]) (cons_of (var_of rfl) (cons_of (var_of rfl) nil_of)) rfl rfl (by
      have := hr v hv
      rw [is_under_int, decide_eq_true this.1, decide_eq_true this.2]
      rfl)
  refine fnP_of ((sq_nx (if_f (ofRT_of (or_of (b := false) (c := false) (not_f (tru_of (isT_of (var_of rfl) rfl) rfl)) fun _ => not_f (tru_of (d := .bl true) (cal1_of (rlc_of D.int (fun v => [some (.tup (L.map .int)), some (.int n), some (.int v)]) (fun _ => true) (fun _ => .bl true) L (itup_of (var_of rfl)) (by omega) fun v hv =>
    ⟨rfl, rfl, fun _ => hel v hv⟩) ?_) rfl))))).trans (ret_of (ofR_of (callP_of (ds := [.tup (L.map .int)]) (cons_of (var_of rfl) nil_of) (by simp [ims, D.im, ims_int]) rfl (rising_I h hl))))) rfl
  have e : (L.filter fun _ => true).map (fun _ => D.bl true) = (List.replicate L.length true).map .bl := by
    rw [List.map_replicate, List.map_const', List.filter_eq_self.mpr (fun _ _ => rfl)]
  rw [e, all_bl, replAll]
/-- three lots that may be asked about -/
structure Lots (n : Nat) (one other gv : List Int) : Prop where
  s1 : one.Pairwise (· < ·)
  s2 : other.Pairwise (· < ·)
  s3 : gv.Pairwise (· < ·)
  r1 : ∀ v ∈ one, 0 ≤ v ∧ v < n
  r2 : ∀ v ∈ other, 0 ≤ v ∧ v < n
  r3 : ∀ v ∈ gv, 0 ≤ v ∧ v < n
  n1 : one ≠ []
  n2 : other ≠ []
  dj : (one ++ other ++ gv).Nodup
theorem pw_nd {L : List Int} (h : L.Pairwise (· < ·)) : L.Nodup := h.imp fun h => by omega
theorem rng_len {n : Nat} {L : List Int} (h : L.Nodup) (hr : ∀ v ∈ L, 0 ≤ v ∧ v < n) : L.length ≤ n := by
  have := nodup_le h fun v hv => mem_upto.mpr (hr v hv)
  rwa [upto_len] at this
theorem Lots.swap {n : Nat} {one other gv : List Int} (h : Lots n one other gv) : Lots n other one gv :=
  ⟨h.s2, h.s1, h.s3, h.r2, h.r1, h.r3, h.n2, h.n1, ((List.perm_append_comm (l₁ := other) (l₂ := one)).append_right gv).nodup_iff.mpr h.dj⟩
section
variable {n : Nat} {A T : List (Int × Int)} {gv one other : List Int}
theorem tup_tru {G : Hs} {L : List Int} (h : L ≠ []) : truD G (.tup (L.map .int)) = some true := by
  cases L with
  | nil => exact absurd rfl h
  | cons x xs => rfl
theorem check_P (hn : n ≤ 6) (h : Lots n one other gv) : f_check_lots [eM n A T, .tup (one.map .int), .tup (other.map .int), .tup (gv.map .int)] = some .non := by
  have l1 := rng_len (pw_nd h.s1) h.r1
  have l2 := rng_len (pw_nd h.s2) h.r2
  have l3 := rng_len (pw_nd h.s3) h.r3
  have hlot : ∀ L ∈ [one, other, gv], L.Pairwise (· < ·) ∧ L.length ≤ 1000 ∧ (∀ v ∈ L, 0 ≤ v ∧ v < (n : Int)) := fun L hL => by
    simp only [List.mem_cons, List.not_mem_nil, or_false] at hL
    rcases hL with rfl | rfl | rfl
    · exact ⟨h.s1, by omega, h.r1⟩
    · exact ⟨h.s2, by omega, h.r2⟩
    · exact ⟨h.s3, by omega, h.r3⟩
  obtain ⟨δ1, G1, h1, o4, rfl, rfl⟩ := forL_fold (set := setN 4) (b := (sIf (ofRT (rNot (rTru (rCallP 2 f_is_lot (rCons (rVar 4) (rCons (rAttr "many" (rVar 0)) rNil))))))
    sNever
    FL.sNil)) (fun L : List Int => D.tup (L.map .int)) (fun (u : Unit) _ => u) (fun k u δ G => ∃ o4, δ = [some (eM n A T), some (.tup (one.map .int)), some (.tup (other.map .int)), some (.tup (gv.map .int)), o4, none, none] ∧ G = []) [one, other, gv] ()
    [some (eM n A T), some (.tup (one.map .int)), some (.tup (other.map .int)), some (.tup (gv.map .int)), none, none, none] [] ⟨none, rfl, rfl⟩ fun L hL k u δ G ⟨o4, hδ, hG⟩ => by
      subst hδ hG
      obtain ⟨a1, a2, a3⟩ := hlot L hL
      exact ⟨_, rfl, _, _, (if_f (ofRT_of (not_f (tru_of (callP_of (ds := [.tup (L.map .int), .int n]) (cons_of (var_of rfl) (cons_of (attr_of (var_of rfl) rfl) nil_of)) (by simp [ims, D.im, ims_int]) rfl (is_lot_P a1 a2 a3)) rfl)))).trans rfl, _, rfl, rfl⟩
  have hcat : rBin g_addA (rBin g_addA (rVar 1) (rVar 2)) (rVar 3) [some (eM n A T), some (.tup (one.map .int)), some (.tup (other.map .int)), some (.tup (gv.map .int)), o4, none, none] [] = some (.tup ((one ++ other ++ gv).map .int)) := by
    refine bin_of (bin_of (var_of rfl) (var_of rfl) (cat_tup (by rw [List.length_map, List.length_map]; omega))) (var_of rfl) ((cat_tup (by rw [List.length_append, List.length_map, List.length_map, List.length_map]; omega)).trans ?_)
    rw [List.map_append, List.map_append]
  have hdc : rCal gLenA (rCons (rDc (iTupR (rVar 5)) (setN 6) (rVar 6) (rC (.bl true)) [6]) rNil) [some (eM n A T), some (.tup (one.map .int)), some (.tup (other.map .int)), some (.tup (gv.map .int)), o4, some (.tup ((one ++ other ++ gv).map .int)), none] [] = some (.int (((one ++ other ++ gv).length : Nat) : Int)) := by
    refine cal1_of (d := .int (((one ++ other ++ gv).length : Nat) : Int)) (x := .fd ((one ++ other ++ gv).map fun x => .inl x) ((one ++ other ++ gv).map fun _ => .bl true)) ?_ ?_
    · unfold rDc
      rw [itup_of (xs := (one ++ other ++ gv).map .int) (var_of rfl), Option.bind_some, if_pos (by rw [List.length_map, List.length_append, List.length_append]; omega), dcR_ints (c := .bl true) (fun x => [some (eM n A T), some (.tup (one.map .int)), some (.tup (other.map .int)), some (.tup (gv.map .int)), o4, some (.tup ((one ++ other ++ gv).map .int)), some (.int x)]) _ _ (fun x _ => ⟨rfl, rfl, rfl⟩) h.dj (fun x _ z => by simp at z), Option.bind_some, List.nil_append, List.map_map, List.map_map]
      rfl
    · show gOr gLen gLenF [] [_] = _
      unfold gOr
      show (match gLenF [] [.fd ((one ++ other ++ gv).map fun x => .inl x) ((one ++ other ++ gv).map fun _ => .bl true)] with | some d => some d | none => none) = _
      simp [gLenF]
  unfold f_check_lots fnP
  have hb : b_check_lots (slots 7 [eM n A T, .tup (one.map .int), .tup (other.map .int), .tup (gv.map .int)]) [] = some (.nx, _, _) :=
    (sq_nx ((for_nx (ofRA_of (itup_of (xs := [one, other, gv].map fun L : List Int => D.tup (L.map .int)) (tup_of (cons_of (var_of rfl) (cons_of (var_of rfl) (cons_of (var_of rfl) nil_of))) (by simp))))).trans h1)).trans
    ((sq_nx (asg_of (ofR_of hcat) (by show (5 : Nat) < 7; decide))).trans
    ((if_f (ofRT_of (or_of (b := false) (c := false) (not_f (tru_of (var_of rfl) (tup_tru h.n1))) fun _ => or_of (b := false) (c := false) (not_f (tru_of (var_of rfl) (tup_tru h.n2))) fun _ => b_of (bin_of hdc (cal1_of (var_of rfl) (len_tup _)) ((ne_ii _ _).trans (by rw [List.length_map, decide_eq_true rfl]; rfl)))))).trans rfl))
  rw [hb]
  rfl
end
end K30
namespace FL
open PySem PySem.Spec PyProof.Rows L2
theorem forI_step {k m i : Nat} {set : Sets} {b : SS} {δ δ1 : Env'} {G : Hs} {ds : List D} {d : D} (hG : G[k]? = some (.lst ds)) (hd : ds[i]? = some d) (hs : set d δ = some δ1) : forI k set b (m + 1) i δ G = (b δ1 G).bind fun x => match x.1 with
    | .nx => forI k set b m (i + 1) x.2.1 x.2.2
    | .ct => forI k set b m (i + 1) x.2.1 x.2.2
    | .bk => some (.nx, x.2.1, x.2.2)
    | .rt r => some (.rt r, x.2.1, x.2.2) := by
  rw [forI]
  simp only [hG, hd, hs, Option.bind_some]
  all_goals rfl
theorem forI_end {k m i : Nat} {set : Sets} {b : SS} {δ : Env'} {G : Hs} {ds : List D} (hG : G[k]? = some (.lst ds)) (hd : ds[i]? = none) : forI k set b (m + 1) i δ G = some (.nx, δ, G) := by
  rw [forI]
  simp only [hG, hd]
end FL
namespace K30
open PySem PySem.Spec PyProof.Rows L2 FL
theorem gtup_fl {G : Hs} (xs : List D) : gTuple G [.fl xs] = some (.tup xs) := rfl
def leS (x y : St) : Bool := PySem.W.dataLe false D.py (eSt x) (eSt y)
section
variable {n : Nat} {A T : List (Int × Int)} {gv one other : List Int}
theorem walk_to_P {C : List En} {s : St} {w : List I0} {m : Nat} (hm : 2 * m ≤ 1000) (h : Run n A T gv C m s w) : f_Search_walk_to [.rf 0, eSt s] (GS n A T gv C) = some (eT w, GS n A T gv C) := by
  obtain ⟨s', o4', hw⟩ := h (some (eSt s)) [] none (by simpa using hm)
  unfold f_Search_walk_to fnM
  have hb : b_Search_walk_to (slots 5 [.rf 0, eSt s]) (GS n A T gv C) = some (.rt (eT w), _, GS n A T gv C) :=
    (sq_nx (asg_of (ofR_of (var_of rfl)) (by show (2 : Nat) < 5; decide))).trans ((sq_nx (asg_of (d := .fl ([I0.v s.1].map eI)) (ofR_of (fl_of (cons_of (bin_of (var_of (d := eSt s) rfl) c_of ((ixA_tup _ _).trans (at_0 _ _))) nil_of) (by simp))) (by show (3 : Nat) < 5; decide))).trans
    ((sq_nx hw).trans (ret_of (ofR_of (cal1_of (var_of rfl) ((gtup_fl _).trans (by rw [List.append_nil]; rfl)))))))
  rw [hb]
  rfl
theorem mak_of {gs : EA} {δ : Env'} {ds : List D} {C : List En} (hs : gs δ [] = some (ds, [])) (hn : ds.length + 1 = 4) (hi : ims ds = true) (h : f_Search (.rf 0 :: ds) [.ins "Search" [] []] = some (.non, GS n A T gv C)) : eMakM "Search" 4 f_Search gs δ [] = some (.rf 0, GS n A T gv C) := by
  unfold eMakM
  rw [hs, Option.bind_some, if_pos hn]
  show ((callM f_Search (.rf 0 :: ds) [.ins "Search" [] []]).bind _) = _
  rw [callS0 hi h]
  rfl
abbrev fB : SS := (sIf (ofRT (rB (rBin g_in_ (rBin ixA (rVar 5) (rC (.int 0))) (rVar 2))))
    (sRet (eTup (eCons (ofR (rC (.str "open"))) (eCons (eMeth "Search" "walk_to" 2 f_Search_walk_to (rVar 4) (eCons (ofR (rVar 5)) (ofRA rNil))) (ofRA rNil)))))
    FL.sNil)
abbrev FE (n : Nat) (A T : List (Int × Int)) (gv one other : List Int) (o5 : Option D) : Env' := [some (eM n A T), some (.tup (one.map .int)), some (.tup (other.map .int)), some (.tup (gv.map .int)), some (.rf 0), o5]
theorem f_in {G : Hs} (s : St) : rB (rBin g_in_ (rBin ixA (rVar 5) (rC (.int 0))) (rVar 2)) (FE n A T gv one other (some (eSt s))) G = some (decide (s.1 ∈ other)) :=
  b_of (bin_of (bin_of (var_of (d := eSt s) rfl) c_of ((ixA_tup _ _).trans (at_0 _ _))) (var_of rfl) (in_ii _ _))
theorem search_go {C : List En} {ws : Nat → List I0} (hw : ∀ (j : Nat) x, C[j]? = some x → Run n A T gv C j x.1 (ws j)) (hl : C.length ≤ 50) : ∀ (m i : Nat) (o5 : Option D), i ≤ C.length → C.length < i + m →
    ((∀ (j : Nat) x, i ≤ j → C[j]? = some x → x.1.1 ∉ other) ∧ ∃ o5', forI 2 (setN 5) fB m i (FE n A T gv one other o5) (GS n A T gv C) = some (.nx, FE n A T gv one other o5', GS n A T gv C)) ∨
    ∃ (j : Nat) (x : En) (o5' : Option D), C[j]? = some x ∧ x.1.1 ∈ other ∧ forI 2 (setN 5) fB m i (FE n A T gv one other o5) (GS n A T gv C) = some (.rt (.tup [.str "open", eT (ws j)]), FE n A T gv one other o5', GS n A T gv C) := by
  intro m
  induction m with
  | zero => intro i o5 h1 h2; omega
  | succ m ih =>
    intro i o5 h1 h2
    by_cases hi : i < C.length
    · have hx : C[i]? = some C[i] := List.getElem?_eq_getElem hi
      have hL : (C.map fun p => eSt p.1)[i]? = some (eSt C[i].1) := by rw [List.getElem?_map, hx]; rfl
      have step := forI_step (k := 2) (m := m) (i := i) (set := setN 5) (b := fB) (δ := FE n A T gv one other o5) (G := GS n A T gv C) (ds := C.map fun p => eSt p.1) (δ1 := FE n A T gv one other (some (eSt C[i].1))) rfl hL rfl
      by_cases ho : C[i].1.1 ∈ other
      · right
        have e : fB (FE n A T gv one other (some (eSt C[i].1))) (GS n A T gv C) = some (.rt (.tup [.str "open", eT (ws i)]), FE n A T gv one other (some (eSt C[i].1)), GS n A T gv C) :=
          (if_t (ofRT_of ((f_in _).trans (by rw [decide_eq_true ho])))).trans (ret_of (etup_of (econs_of (ofR_of c_of) (econs_of (methS (ds := [eSt C[i].1]) (var_of rfl) (by decide) (econs_of (ofR_of (var_of rfl)) enil_of) rfl rfl (eT_im _) (walk_to_P (by omega) (hw i _ hx))) enil_of)) (by simp)))
        refine ⟨i, C[i], some (eSt C[i].1), hx, ho, step.trans ?_⟩
        rw [e]
        rfl
      · have e : fB (FE n A T gv one other (some (eSt C[i].1))) (GS n A T gv C) = some (.nx, FE n A T gv one other (some (eSt C[i].1)), GS n A T gv C) :=
          (if_f (ofRT_of ((f_in _).trans (by rw [decide_eq_false ho])))).trans rfl
        rcases ih (i + 1) (some (eSt C[i].1)) (by omega) (by omega) with ⟨h3, o5', h4⟩ | ⟨j, x, o5', h3, h4, h5⟩
        · left
          refine ⟨fun j x hj hx' => ?_, o5', step.trans ?_⟩
          · by_cases hji : j = i
            · subst hji
              rw [hx] at hx'
              cases hx'
              exact ho
            · exact h3 j x (by omega) hx'
          · rw [e]
            exact h4
        · right
          refine ⟨j, x, o5', h3, h4, step.trans ?_⟩
          rw [e]
          exact h5
    · left
      refine ⟨fun j x hj hx => ?_, o5, ?_⟩
      · have := (List.getElem?_eq_some_iff.mp hx).1
        omega
      · exact forI_end (ds := C.map fun p => eSt p.1) rfl (List.getElem?_eq_none_iff.mpr (by rw [List.length_map]; omega))
theorem sort_S {G : Hs} {d : D} {L : List St} (h : lstG G d = some (L.map eSt)) (hl : L.length ≤ 1000) : gSortedA G [d] = some (.fl ((L.mergeSort leS).map eSt)) :=
  sort_of eSt h (by omega) (fun x _ y _ => by simp [eSt, D.py, pys, PySem.W.alike, PySem.W.alikeAll]) (fun x => ⟨eSt_ok x, by show (1 : Nat) ≤ 60; decide⟩) fun x => rfl
/-- what is told of two lots given a third one -/
theorem found_P (g : Good n A T) (h : Lots n one other gv) :
    (∃ (j : Nat) (x : En) (w : List I0), (closC n A T gv one)[j]? = some x ∧ x.1.1 ∈ other ∧ j < 12 ∧ Way n A T gv one (closC n A T gv one) j x.1 w ∧ f_found_parting [eM n A T, .tup (one.map .int), .tup (other.map .int), .tup (gv.map .int)] = some (.tup [.str "open", eT w])) ∨
    ((∀ x ∈ closC n A T gv one, x.1.1 ∉ other) ∧ f_found_parting [eM n A T, .tup (one.map .int), .tup (other.map .int), .tup (gv.map .int)] = some (.tup [.str "apart", .tup ((((closC n A T gv one).map (·.1)).mergeSort leS).map eSt)])) := by
  have inv := closC_inv (gv := gv) g (pw_nd h.s1) h.r1
  have hlen := inv.len
  rw [univ_len] at hlen
  have hn := g.n2
  have l1 := rng_len (pw_nd h.s1) h.r1
  have way := way_P g h.r1 inv (by omega)
  have hex : ∀ j : Nat, ∃ w, ∀ x, (closC n A T gv one)[j]? = some x → Way n A T gv one (closC n A T gv one) j x.1 w := fun j => by
    cases e : (closC n A T gv one)[j]? with
    | none => exact ⟨[], fun x hx => by cases hx⟩
    | some y =>
      obtain ⟨w, hw⟩ := way j y e
      exact ⟨w, fun x hx => by cases hx; exact hw⟩
  obtain ⟨ws, hws⟩ : ∃ ws : Nat → List I0, ∀ (j : Nat) x, (closC n A T gv one)[j]? = some x → Way n A T gv one (closC n A T gv one) j x.1 (ws j) := ⟨fun j => (hex j).choose, fun j => (hex j).choose_spec⟩
  have mk : sAsg (eMakM "Search" 4 f_Search (eCons (ofR (rVar 0)) (eCons (ofR (rVar 1)) (eCons (ofR (rVar 3)) (ofRA rNil))))) (setN 4) (slots 6 [eM n A T, .tup (one.map .int), .tup (other.map .int), .tup (gv.map .int)]) [] = some (.nx, FE n A T gv one other none, GS n A T gv (closC n A T gv one)) :=
    asg_of (mak_of (ds := [eM n A T, .tup (one.map .int), .tup (gv.map .int)]) (econs_of (ofR_of (var_of rfl)) (econs_of (ofR_of (var_of rfl)) (econs_of (ofR_of (var_of rfl)) enil_of))) rfl (by simp [ims, eM_im, D.im, ims_int]) (Search_P g (pw_nd h.s1) h.r1 (by omega))) (by show (4 : Nat) < 6; decide)
  have hsrc : ∀ o5, ofR (rAtI "order" (rVar 4)) (FE n A T gv one other o5) (GS n A T gv (closC n A T gv one)) = some (.rf 2, GS n A T gv (closC n A T gv one)) := fun o5 => ofR_of (ati_of (k := 0) (x := "Search") (ns := ["web", "given", "came", "order"]) (ds := [eM n A T, .tup (gv.map .int), .rf 1, .rf 2]) (var_of rfl) rfl rfl)
  have hfor : sForI (ofR (rAtI "order" (rVar 4))) (setN 5) fB (FE n A T gv one other none) (GS n A T gv (closC n A T gv one)) = forI 2 (setN 5) fB ((closC n A T gv one).length + 1) 0 (FE n A T gv one other none) (GS n A T gv (closC n A T gv one)) := by
    unfold sForI
    rw [hsrc, Option.bind_some]
    show (match (GS n A T gv (closC n A T gv one))[2]? with
      | some (.lst ds) => forI 2 (setN 5) fB (ds.length + 1) 0 (FE n A T gv one other none) (GS n A T gv (closC n A T gv one))
      | _ => none) = _
    rw [show (GS n A T gv (closC n A T gv one))[2]? = some (.lst ((closC n A T gv one).map fun p => eSt p.1)) from rfl]
    simp only [List.length_map]
  rcases search_go (one := one) (other := other) (ws := ws) (fun j x hx => (hws j x hx).2) (by omega) ((closC n A T gv one).length + 1) 0 none (Nat.zero_le _) (by omega) with ⟨h1, o5', h2⟩ | ⟨j, x, o5', h1, h2, h3⟩
  · right
    refine ⟨fun x hx => ?_, ?_⟩
    · obtain ⟨j, hj, rfl⟩ := List.mem_iff_getElem.mp hx
      exact h1 j _ (Nat.zero_le _) (List.getElem?_eq_getElem hj)
    · refine fnP_of ((sq_nx mk).trans ((sq_nx (hfor.trans h2)).trans (ret_of (ofR_of (tup_of (cons_of c_of (cons_of (cal1_of (cal1_of (ati_of (k := 0) (x := "Search") (ns := ["web", "given", "came", "order"]) (ds := [eM n A T, .tup (gv.map .int), .rf 1, .rf 2]) (var_of rfl) rfl rfl) (sort_S (L := (closC n A T gv one).map (·.1)) (by show some _ = _; rw [List.map_map]; rfl) (by rw [List.length_map]; omega))) (gtup_fl _)) nil_of)) (by simp)))))) ?_
      simp [D.im, ims, ims_map eSt_im]
  · left
    have hj := (List.getElem?_eq_some_iff.mp h1).1
    refine ⟨j, x, ws j, h1, h2, by omega, hws j x h1, ?_⟩
    exact fnP_of ((sq_nx mk).trans (sq_rt (hfor.trans h3))) (by simp [D.im, ims, eT, ims_map eI_im])
theorem apart_P (g : Good n A T) (h : Lots n one other gv) {d : D} (hi : d.im = true) (hf : f_found_parting [eM n A T, .tup (one.map .int), .tup (other.map .int), .tup (gv.map .int)] = some d) : f_apart [eM n A T, .tup (one.map .int), .tup (other.map .int), .tup (gv.map .int)] = some d := by
  have hi4 : ims [eM n A T, .tup (one.map .int), .tup (other.map .int), .tup (gv.map .int)] = true := by simp [ims, eM_im, D.im, ims_int]
  exact fnP_of ((sq_nx (exp_of (ofR_of (callP_of (ds := [eM n A T, .tup (one.map .int), .tup (other.map .int), .tup (gv.map .int)]) (cons_of (var_of rfl) (cons_of (var_of rfl) (cons_of (var_of rfl) (cons_of (var_of rfl) nil_of)))) hi4 rfl (check_P g.n2 h))))).trans
    (ret_of (ofR_of (callP_of (ds := [eM n A T, .tup (one.map .int), .tup (other.map .int), .tup (gv.map .int)]) (cons_of (var_of rfl) (cons_of (var_of rfl) (cons_of (var_of rfl) (cons_of (var_of rfl) nil_of)))) hi4 rfl hf)))) hi
end
end K30
namespace FL
open PySem PySem.Spec PyProof.Rows L2
theorem closeN_fold {α κ : Type} [DecidableEq κ] (key : α → κ) (nb : α → List α) : ∀ (m i : Nat) (L : List α), closeN key nb m i L = (List.range m).foldl (fun L k => match L[i + k]? with | some s => addN key L (nb s) | none => L) L
  | 0, _, _ => rfl
  | m + 1, i, L => by
    rw [closeN, closeN_fold key nb m (i + 1), List.range_succ_eq_map, List.foldl_cons, List.foldl_map]
    simp only [Nat.add_zero]
    congr 1
    funext L k
    rw [show i + 1 + k = i + (k + 1) by omega]
end FL
namespace K30
open PySem PySem.Spec PyProof.Rows L2 FL
def eK (s : St) : D := .tup [.int s.1, .bl s.2]
theorem eK_im (s : St) : (eK s).im = true := rfl
theorem eqb_bl (a b : Bool) : eqb (.bl a) (.bl b) = decide (a = b) := by
  cases a <;> cases b <;> rfl
theorem eqb_K (s t : St) : eqb (eK s) (eK t) = decide (s = t) := by
  show (eqb (.int s.1) (.int t.1) && (eqb (.bl s.2) (.bl t.2) && true)) = _
  rw [eqb_int, eqb_bl, Bool.and_true]
  by_cases h : s = t
  · subst h; simp
  · rw [decide_eq_false h]
    simp only [Bool.and_eq_false_iff, decide_eq_false_iff_not]
    by_cases h1 : s.1 = t.1
    · exact .inr fun h2 => h (Prod.ext h1 h2)
    · exact .inl h1
theorem in_K {G : Hs} {y : D} {L : List St} {p : St} (hs : seqG G y = some (L.map eK)) (neg : Bool) : fIn neg G (eK p) y = some (.bl (if neg = true then !decide (p ∈ L) else decide (p ∈ L))) := by
  have hd := deps_map (e := eK) (n := 1) (fun _ => Nat.le_refl _) L
  rw [in_of hs rfl (oks_map (fun _ => rfl) L) (by show (1 : Nat) ≤ 60; decide) (by omega) neg, inB_map (fun x => eqb_K x p)]
  congr 2
  cases neg <;> simp
section
variable {n : Nat} {A T : List (Int × Int)} {gv one other : List Int}
def nbL (A T : List (Int × Int)) (gv : List Int) (s : St) : List St := ((sides A T s.1).filter (okS gv s)).map fun sd => (sd.2.2.1, sd.2.2.2)
theorem nbL_len (hA : A.length ≤ 15) (hT : T.length ≤ 6) (s : St) : (nbL A T gv s).length ≤ 21 := by
  have h1 := sides_len A T s.1
  have h2 : (nbL A T gv s).length ≤ (sides A T s.1).length := by
    unfold nbL
    rw [List.length_map]
    exact List.length_filter_le _ _
  omega
def stK (A T : List (Int × Int)) (gv : List Int) (L : List St) (k : Nat) : List St := match L[0 + k]? with | some s => addN id L (nbL A T gv s) | none => L
def sdK (gv : List Int) (s : St) (L : List St) (sd : Sd) : List St := if okS gv s sd = true then addN id L [(sd.2.2.1, sd.2.2.2)] else L
theorem addN_len {α κ : Type} [DecidableEq κ] (key : α → κ) : ∀ (xs L : List α), (addN key L xs).length ≤ L.length + xs.length
  | [], L => Nat.le_refl _
  | x :: xs, L => by
    unfold addN
    refine Nat.le_trans (addN_len key xs _) ?_
    split
    · simp
    · simp; omega
theorem law_states_P (hn : n ≤ 6) (hA : A.length ≤ 15) (hT : T.length ≤ 6) (S : List St) (hS : S.length ≤ 500) :
    f__law_states [eW n A T, .fl (S.map eK), .tup (gv.map .int)] = some (.fl ((closeN id (nbL A T gv) (2 * n) 0 S).map eK)) := by
  have inner : ∀ (s : St) (L : List St) (o4 o7 o8 o9 o10 : Option D), L.length ≤ 900 → ∃ o7' o8' o9' o10', forL (setTup [(setN 7), (setN 8), (setN 9), (setN 10)]) (sIf (ofRT (rAnd (rB (rBin g_eq (rBin g_in_ (rVar 5) (rVar 2)) (rAndV (rVar 6) (rVar 8)))) (rB (rBin g_nin (rTup (rCons (rVar 9) (rCons (rVar 10) rNil))) (rVar 3)))))
      (sExp (eMet gAppend (rVar 3) (eCons (ofR (rTup (rCons (rVar 9) (rCons (rVar 10) rNil)))) (ofRA rNil))))
      FL.sNil) ((sides A T s.1).map eS) [some (eW n A T), some (.fl (S.map eK)), some (.tup (gv.map .int)), some (.rf 0), o4, some (.int s.1), some (.bl s.2), o7, o8, o9, o10] [.lst (L.map eK)] =
      some (.nx, [some (eW n A T), some (.fl (S.map eK)), some (.tup (gv.map .int)), some (.rf 0), o4, some (.int s.1), some (.bl s.2), o7', o8', o9', o10'], [.lst ((addN id L (nbL A T gv s)).map eK)]) := by
    intro s L o4 o7 o8 o9 o10 hL
    have hsl := sides_len A T s.1
    obtain ⟨δ1, G1, h1, p7, p8, p9, p10, rfl, rfl, _⟩ := forL_fold (set := setTup [(setN 7), (setN 8), (setN 9), (setN 10)]) (b := (sIf (ofRT (rAnd (rB (rBin g_eq (rBin g_in_ (rVar 5) (rVar 2)) (rAndV (rVar 6) (rVar 8)))) (rB (rBin g_nin (rTup (rCons (rVar 9) (rCons (rVar 10) rNil))) (rVar 3)))))
      (sExp (eMet gAppend (rVar 3) (eCons (ofR (rTup (rCons (rVar 9) (rCons (rVar 10) rNil)))) (ofRA rNil))))
      FL.sNil)) eS (sdK gv s) (fun k L δ G => ∃ o7 o8 o9 o10, δ = [some (eW n A T), some (.fl (S.map eK)), some (.tup (gv.map .int)), some (.rf 0), o4, some (.int s.1), some (.bl s.2), o7, o8, o9, o10] ∧ G = [.lst (L.map eK)] ∧ L.length + k ≤ 1000) (sides A T s.1) L
      [some (eW n A T), some (.fl (S.map eK)), some (.tup (gv.map .int)), some (.rf 0), o4, some (.int s.1), some (.bl s.2), o7, o8, o9, o10] [.lst (L.map eK)] ⟨o7, o8, o9, o10, rfl, rfl, by omega⟩ fun sd hsd k L δ G ⟨o7, o8, o9, o10, hδ, hG, hk⟩ => by
        subst hδ hG
        refine ⟨[some (eW n A T), some (.fl (S.map eK)), some (.tup (gv.map .int)), some (.rf 0), o4, some (.int s.1), some (.bl s.2), some (.str sd.1.s), some (.bl sd.2.1), some (.int sd.2.2.1), some (.bl sd.2.2.2)], rfl, ?_⟩
        have t : rAnd (rB (rBin g_eq (rBin g_in_ (rVar 5) (rVar 2)) (rAndV (rVar 6) (rVar 8)))) (rB (rBin g_nin (rTup (rCons (rVar 9) (rCons (rVar 10) rNil))) (rVar 3))) [some (eW n A T), some (.fl (S.map eK)), some (.tup (gv.map .int)), some (.rf 0), o4, some (.int s.1), some (.bl s.2), some (.str sd.1.s), some (.bl sd.2.1), some (.int sd.2.2.1), some (.bl sd.2.2.2)] [.lst (L.map eK)] = some (okS gv s sd && !decide ((sd.2.2.1, sd.2.2.2) ∈ L)) :=
          and_of (b_of (bin_of (bin_of (var_of rfl) (var_of rfl) (in_ii _ _)) (andV_of (var_of rfl) fun _ => var_of rfl) (eq_bb _ _))) fun _ => b_of (bin_of (tup_of (cons_of (var_of rfl) (cons_of (var_of rfl) nil_of)) (by simp)) (var_of rfl) ((in_K (p := (sd.2.2.1, sd.2.2.2)) (L := L) rfl true).trans rfl))
        have hb : (sdK gv s L sd) = if (okS gv s sd && !decide ((sd.2.2.1, sd.2.2.2) ∈ L)) = true then L ++ [(sd.2.2.1, sd.2.2.2)] else L := by
          unfold sdK
          by_cases ho : okS gv s sd = true
          · rw [if_pos ho, ho, Bool.true_and]
            unfold addN addN
            by_cases hm : (sd.2.2.1, sd.2.2.2) ∈ L
            · rw [if_pos (by simpa using hm), decide_eq_true hm]
              rfl
            · rw [if_neg (by simpa using hm), decide_eq_false hm]
              rfl
          · have ho' : okS gv s sd = false := by simpa using ho
            rw [if_neg ho, ho']
            rfl
        rw [hb]
        cases hc : (okS gv s sd && !decide ((sd.2.2.1, sd.2.2.2) ∈ L)) with
        | true =>
          rw [hc] at t
          refine ⟨_, _, (if_t (ofRT_of t)).trans (exp_of (app_of (k := 0) (xs := L.map eK) (var_of rfl) rfl (econs1_of (ofR_of (tup_of (cons_of (var_of rfl) (cons_of (var_of rfl) nil_of)) (by simp)))) rfl (by rw [List.length_map]; omega))), _, _, _, _, rfl, ?_, ?_⟩
          · rw [if_pos rfl, List.map_append]
            rfl
          · rw [if_pos rfl, List.length_append]
            simp
            omega
        | false =>
          rw [hc] at t
          exact ⟨_, _, (if_f (ofRT_of t)).trans rfl, _, _, _, _, rfl, by rw [if_neg (by decide)], by rw [if_neg (by decide)]; omega⟩
    refine ⟨p7, p8, p9, p10, h1.trans ?_⟩
    unfold nbL
    rw [addN_fold]
    rfl
  obtain ⟨δ1, G1, h1, p4, p5, p6, p7, p8, p9, p10, rfl, rfl, _⟩ := forL_fold (set := setN 4) (b := (sIf (ofRT (rB (rBin g_ltA (rVar 4) (rCal gLen (rCons (rVar 3) rNil)))))
    (sSeq (sAsg (ofR (rBin ixA (rVar 3) (rVar 4))) (setTup [(setN 5), (setN 6)]))
    (sFor (iFlE (ofR (rCallP 2 f__law_sides (rCons (rVar 0) (rCons (rVar 5) rNil))))) (setTup [(setN 7), (setN 8), (setN 9), (setN 10)])
     (sIf (ofRT (rAnd (rB (rBin g_eq (rBin g_in_ (rVar 5) (rVar 2)) (rAndV (rVar 6) (rVar 8)))) (rB (rBin g_nin (rTup (rCons (rVar 9) (rCons (rVar 10) rNil))) (rVar 3)))))
      (sExp (eMet gAppend (rVar 3) (eCons (ofR (rTup (rCons (rVar 9) (rCons (rVar 10) rNil)))) (ofRA rNil))))
      FL.sNil)))
    FL.sNil)) (fun i : Nat => D.int (0 + (i : Int))) (stK A T gv) (fun k L δ G => ∃ o4 o5 o6 o7 o8 o9 o10, δ = [some (eW n A T), some (.fl (S.map eK)), some (.tup (gv.map .int)), some (.rf 0), o4, o5, o6, o7, o8, o9, o10] ∧ G = [.lst (L.map eK)] ∧ L.length + 21 * k ≤ 800) (List.range (2 * (n : Int)).toNat) S
    [some (eW n A T), some (.fl (S.map eK)), some (.tup (gv.map .int)), some (.rf 0), none, none, none, none, none, none, none] [.lst (S.map eK)] ⟨none, none, none, none, none, none, none, rfl, rfl, by rw [List.length_range]; omega⟩ fun i hi k L δ G ⟨o4, o5, o6, o7, o8, o9, o10, hδ, hG, hk⟩ => by
      subst hδ hG
      refine ⟨_, rfl, ?_⟩
      have t : rB (rBin g_ltA (rVar 4) (rCal gLen (rCons (rVar 3) rNil))) [some (eW n A T), some (.fl (S.map eK)), some (.tup (gv.map .int)), some (.rf 0), some (.int (0 + (i : Int))), o5, o6, o7, o8, o9, o10] [.lst (L.map eK)] = some (decide ((0 + (i : Int)) < (L.length : Int))) :=
        b_of (bin_of (var_of rfl) (cal1_of (var_of rfl) (len_rf (k := 0) (ds := L.map eK) rfl)) ((lt_ii _ _).trans (by rw [List.length_map])))
      unfold stK
      by_cases hlt : i < L.length
      · have hx : L[0 + i]? = some L[i] := by rw [Nat.zero_add]; exact List.getElem?_eq_getElem hlt
        rw [decide_eq_true (by omega)] at t
        obtain ⟨q7, q8, q9, q10, hin⟩ := inner L[i] L (some (.int (0 + (i : Int)))) o7 o8 o9 o10 (by omega)
        have hix : ixA [.lst (L.map eK)] (.rf 0) (.int (0 + (i : Int))) = some (eK L[i]) := by
          rw [ixA_rf (k := 0) (ds := L.map eK) _ rfl, at_int _ (by omega), show (0 + (i : Int)).toNat = 0 + i by omega, List.getElem?_map, hx]
          rfl
        have e : (sSeq (sAsg (ofR (rBin ixA (rVar 3) (rVar 4))) (setTup [(setN 5), (setN 6)]))
    (sFor (iFlE (ofR (rCallP 2 f__law_sides (rCons (rVar 0) (rCons (rVar 5) rNil))))) (setTup [(setN 7), (setN 8), (setN 9), (setN 10)])
     (sIf (ofRT (rAnd (rB (rBin g_eq (rBin g_in_ (rVar 5) (rVar 2)) (rAndV (rVar 6) (rVar 8)))) (rB (rBin g_nin (rTup (rCons (rVar 9) (rCons (rVar 10) rNil))) (rVar 3)))))
      (sExp (eMet gAppend (rVar 3) (eCons (ofR (rTup (rCons (rVar 9) (rCons (rVar 10) rNil)))) (ofRA rNil))))
      FL.sNil))) [some (eW n A T), some (.fl (S.map eK)), some (.tup (gv.map .int)), some (.rf 0), some (.int (0 + (i : Int))), o5, o6, o7, o8, o9, o10] [.lst (L.map eK)] = _ :=
          (sq_nx (asgT_of (ofR_of (bin_of (var_of rfl) (var_of rfl) hix)) (by show (5 : Nat) < 11; decide) (by show (6 : Nat) < 11; decide))).trans ((forf_nx (callP_of (ds := [eW n A T, .int L[i].1]) (cons_of (var_of rfl) (cons_of (var_of rfl) nil_of)) (by simp [ims, eW_im, D.im]) rfl (sides_P L[i].1 (by omega) (by omega)))).trans hin)
        refine ⟨_, _, (if_t (ofRT_of t)).trans e, _, _, _, _, _, _, _, rfl, ?_, ?_⟩
        · rw [hx]
        · rw [hx]
          have h1 := addN_len id (nbL A T gv L[i]) L
          have h2 := nbL_len (gv := gv) hA hT L[i]
          simp only
          omega
      · have hx : L[0 + i]? = none := List.getElem?_eq_none_iff.mpr (by omega)
        rw [decide_eq_false (by omega)] at t
        exact ⟨_, _, (if_f (ofRT_of t)).trans rfl, _, _, _, _, _, _, _, rfl, by rw [hx], by rw [hx]; simp only; omega⟩
  have e0 : sAsg (eListR (rVar 1)) (setN 3) (slots 11 [eW n A T, .fl (S.map eK), .tup (gv.map .int)]) [] = some (.nx, [some (eW n A T), some (.fl (S.map eK)), some (.tup (gv.map .int)), some (.rf 0), none, none, none, none, none, none, none], [.lst (S.map eK)]) := by
    exact asg_of (d := .rf 0) (f := eListR (rVar 1)) (G1 := [.lst (S.map eK)]) rfl (by show (3 : Nat) < 11; decide)
  have er : (2 * (n : Int)).toNat = 2 * n := by omega
  refine fnP_fl (k := 0) ((sq_nx e0).trans ((sq_nx ((for_nx (ofRA_of (rg1_of (j := 2 * (n : Int)) (bin_of c_of (bin_of (var_of (d := eW n A T) rfl) c_of ((ixA_tup _ _).trans (at_0 _ _))) (mul_ii 2 (n : Int) (by decide) (by omega))) (by omega) (by omega)))).trans h1)).trans (ret_of (ofR_of (var_of rfl))))) ?_ (ims_map eK_im _)
  rw [er]
  refine congrArg (fun L => some (GO.lst (List.map eK L))) ?_
  rw [closeN_fold]
  refine congrArg (fun f => List.foldl f S (List.range (2 * n))) ?_
  funext L k
  unfold stK
  cases L[0 + k]? <;> rfl
end
end K30
namespace K30
open PySem PySem.Spec PyProof.Rows L2 FL
section
variable {n : Nat} {A T : List (Int × Int)} {gv one other : List Int}
/-- one step of an open way -/
def Stp (A T : List (Int × Int)) (gv : List Int) (s t : St) : Prop := ∃ k w, (k, w) ∈ steps A T s.1 ∧ lets gv s k = true ∧ t = (w, hd1 k)
/-- what open ways lead to -/
abbrev Open (A T : List (Int × Int)) (gv one : List Int) : St → Prop := Rch (fun s : St => s.1 ∈ one ∧ s.2 = false) (Stp A T gv)
def S0L (one : List Int) : List St := one.map fun v => (v, false)
def closL (n : Nat) (A T : List (Int × Int)) (gv one : List Int) : List St := closeN id (nbL A T gv) (2 * n) 0 (S0L one)
theorem mem_S0 {s : St} : s ∈ (S0 one).map (·.1) ↔ s.1 ∈ one ∧ s.2 = false := by
  unfold S0
  rw [List.map_map, List.mem_map]
  constructor
  · rintro ⟨v, hv, rfl⟩
    exact ⟨hv, rfl⟩
  · rintro ⟨h1, h2⟩
    exact ⟨s.1, h1, Prod.ext rfl h2.symm⟩
theorem mem_S0L {s : St} : s ∈ S0L one ↔ s.1 ∈ one ∧ s.2 = false := by
  unfold S0L
  rw [List.mem_map]
  constructor
  · rintro ⟨v, hv, rfl⟩
    exact ⟨hv, rfl⟩
  · rintro ⟨h1, h2⟩
    exact ⟨s.1, h1, Prod.ext rfl h2.symm⟩
theorem stp_nbC (x : En) (t : St) : Stp A T gv x.1 t ↔ t ∈ (nbC A T gv x).map (·.1) := by
  unfold nbC Stp
  rw [List.map_map, List.mem_map]
  constructor
  · rintro ⟨k, w, h1, h2, rfl⟩
    exact ⟨(k, w), List.mem_filter.mpr ⟨h1, h2⟩, rfl⟩
  · rintro ⟨⟨k, w⟩, h1, rfl⟩
    obtain ⟨h1, h2⟩ := List.mem_filter.mp h1
    exact ⟨k, w, h1, h2, rfl⟩
theorem stp_nbL (g : Good n A T) (s t : St) : Stp A T gv s t ↔ t ∈ nbL A T gv s := by
  unfold nbL Stp
  rw [List.mem_map]
  constructor
  · rintro ⟨k, w, h1, h2, rfl⟩
    obtain ⟨sd, h3, rfl, rfl⟩ := (steps_side g).mp h1
    obtain ⟨_, _, e2, e1⟩ := sides_ok g h3
    refine ⟨sd, List.mem_filter.mpr ⟨h3, ?_⟩, by rw [e1]⟩
    unfold okS
    rw [e2]
    exact h2
  · rintro ⟨sd, h1, rfl⟩
    obtain ⟨h3, h4⟩ := List.mem_filter.mp h1
    obtain ⟨_, _, e2, e1⟩ := sides_ok g h3
    refine ⟨sd.1, sd.2.2.1, (steps_side g).mpr ⟨sd, h3, rfl, rfl⟩, ?_, by rw [e1]⟩
    unfold okS at h4
    rw [e2] at h4
    exact h4
theorem nbL_un (g : Good n A T) (s : St) : id s ∈ univ n → ∀ t ∈ nbL A T gv s, id t ∈ univ n := fun _ t ht => by
  obtain ⟨k, w, h1, _, rfl⟩ := (stp_nbL g s t).mpr ht
  exact mem_univ.mpr (steps_rng g h1)
theorem closL_inv (g : Good n A T) (nd : one.Nodup) (hr : ∀ v ∈ one, 0 ≤ v ∧ v < n) : CInv id (nbL A T gv) (univ n) (S0L one) (closL n A T gv one).length (closL n A T gv one) := by
  refine closeN_inv (nbL_un g) _ _ _ (CInv.start _ _ ?_ fun x hx => ?_) (Nat.zero_le _) (by rw [univ_len]; omega)
  · rw [List.map_id]
    unfold S0L
    exact nodup_map (fun x _ y _ h => (Prod.mk.inj h).1) nd
  · obtain ⟨h1, h2⟩ := mem_S0L.mp hx
    exact mem_univ.mpr (hr _ h1)
theorem mem_closC (g : Good n A T) (nd : one.Nodup) (hr : ∀ v ∈ one, 0 ≤ v ∧ v < n) (s : St) : s ∈ (closC n A T gv one).map (·.1) ↔ Open A T gv one s :=
  (closC_inv g nd hr).rch (fun k => mem_S0.symm) (fun x t _ => stp_nbC x t) s
theorem mem_closL (g : Good n A T) (nd : one.Nodup) (hr : ∀ v ∈ one, 0 ≤ v ∧ v < n) (s : St) : s ∈ closL n A T gv one ↔ Open A T gv one s := by
  have := (closL_inv (gv := gv) g nd hr).rch (P := fun s : St => s.1 ∈ one ∧ s.2 = false) (E := Stp A T gv) (fun k => by rw [List.map_id]; exact mem_S0L.symm) (fun x t _ => by rw [List.map_id]; exact stp_nbL g x t) s
  rwa [List.map_id] at this
theorem S0L_len (h : one.length ≤ 500) : (S0L one).length ≤ 500 := by
  unfold S0L
  rwa [List.length_map]
theorem law_apart_P (g : Good n A T) (hl : one.length ≤ 100) : f__law_are_apart [eW n A T, .tup (one.map .int), .tup (other.map .int), .tup (gv.map .int)] = some (.bl (!(closL n A T gv one).any fun s => decide (s.1 ∈ other))) := by
  have h1 : rLc (iTupR (rVar 1)) (setN 5) cYes (rTup (rCons (rVar 5) (rCons (rC (.bl false)) rNil))) [5] (slots 7 [eW n A T, .tup (one.map .int), .tup (other.map .int), .tup (gv.map .int)]) [] = some (.fl ((S0L one).map eK)) := by
    refine (rlc_of D.int (fun v => [some (eW n A T), some (.tup (one.map .int)), some (.tup (other.map .int)), some (.tup (gv.map .int)), none, some (.int v), none]) (fun _ => true) (fun v => eK (v, false)) one (itup_of (var_of rfl)) (by omega) fun v hv => ⟨rfl, rfl, fun _ => tup_of (cons_of (var_of rfl) (cons_of c_of nil_of)) (by simp)⟩).trans ?_
    rw [List.filter_eq_self.mpr (fun _ _ => rfl)]
    unfold S0L
    rw [List.map_map]
    rfl
  have hs : rCallP 3 f__law_states (rCons (rVar 0) (rCons (rLc (iTupR (rVar 1)) (setN 5) cYes (rTup (rCons (rVar 5) (rCons (rC (.bl false)) rNil))) [5]) (rCons (rVar 3) rNil))) (slots 7 [eW n A T, .tup (one.map .int), .tup (other.map .int), .tup (gv.map .int)]) [] = some (.fl ((closL n A T gv one).map eK)) :=
    callP_of (ds := [eW n A T, .fl ((S0L one).map eK), .tup (gv.map .int)]) (cons_of (var_of rfl) (cons_of h1 (cons_of (var_of rfl) nil_of))) (by simp [ims, eW_im, D.im, ims_int, ims_map eK_im]) rfl (law_states_P g.n2 g.aL g.tL _ (S0L_len (by omega)))
  have hl2 : (closL n A T gv one).length ≤ 10000000 := by
    have h2 : ∀ (m i : Nat) (L : List St), (closeN id (nbL A T gv) m i L).length ≤ L.length + 21 * m := fun m => by
      induction m with
      | zero => intro i L; exact Nat.le_refl _
      | succ m ih =>
        intro i L
        unfold closeN
        refine Nat.le_trans (ih _ _) ?_
        cases L[i]? with
        | none => simp only; omega
        | some s =>
          have h1 := addN_len id (nbL A T gv s) L
          have h2 := nbL_len (gv := gv) g.aL g.tL s
          simp only
          omega
    have h3 := h2 (2 * n) 0 (S0L one)
    have h4 := S0L_len (one := one) (by omega)
    have := g.n2
    unfold closL
    omega
  have hany : rCal gAny (rCons (rLc (iLstR (rVar 4)) (setTup [(setN 5), (setN 6)]) cYes (rBin g_in_ (rVar 5) (rVar 2)) [5, 6]) rNil) ((slots 7 [eW n A T, .tup (one.map .int), .tup (other.map .int), .tup (gv.map .int)]).set 4 (some (.fl ((closL n A T gv one).map eK)))) [] = some (.bl ((closL n A T gv one).any fun s => decide (s.1 ∈ other))) := by
    refine cal1_of (x := .fl (((closL n A T gv one).map fun s => decide (s.1 ∈ other)).map .bl)) ((rlc_of eK (fun s => [some (eW n A T), some (.tup (one.map .int)), some (.tup (other.map .int)), some (.tup (gv.map .int)), some (.fl ((closL n A T gv one).map eK)), some (.int s.1), some (.bl s.2)]) (fun _ => true) (fun s => .bl (decide (s.1 ∈ other))) (closL n A T gv one) (ilst_of (var_of rfl) rfl) hl2 fun s hs => ⟨rfl, rfl, fun _ => bin_of (var_of rfl) (var_of rfl) (in_ii _ _)⟩).trans ?_) ((any_bl _).trans ?_)
    · rw [List.filter_eq_self.mpr (fun _ _ => rfl), List.map_map]
      rfl
    · rw [List.any_map]
      rfl
  exact fnP_of ((sq_nx (asg_of (ofR_of hs) (by show (4 : Nat) < 7; decide))).trans (ret_of (ofR_of (notV_of hany)))) rfl
/-- both roads come to the same word -/
theorem apart_iff (g : Good n A T) (nd : one.Nodup) (hr : ∀ v ∈ one, 0 ≤ v ∧ v < n) : ((closL n A T gv one).any fun s => decide (s.1 ∈ other)) = true ↔ ∃ x ∈ closC n A T gv one, x.1.1 ∈ other := by
  rw [List.any_eq_true]
  constructor
  · rintro ⟨s, h1, h2⟩
    obtain ⟨x, hx, rfl⟩ := List.mem_map.mp ((mem_closC g nd hr s).mpr ((mem_closL g nd hr s).mp h1))
    exact ⟨x, hx, of_decide_eq_true h2⟩
  · rintro ⟨x, hx, h⟩
    exact ⟨x.1, (mem_closL g nd hr x.1).mpr ((mem_closC g nd hr x.1).mp (List.mem_map.mpr ⟨x, hx, rfl⟩)), decide_eq_true h⟩
end
end K30
namespace K30
open PySem PySem.Spec PyProof.Rows L2 FL
theorem hs_lt (a b : Bool) : itemOrd.blt (.inr (hs a).cps.toList) (.inr (hs b).cps.toList) = (a && !b) := by
  cases a <;> cases b <;> decide +kernel
theorem ltb_S (s t : St) : ltb (eSt s) (eSt t) = (decide (s.1 < t.1) || (!decide (t.1 < s.1) && (s.2 && !t.2))) := by
  obtain ⟨a, b⟩ := s
  obtain ⟨c, d⟩ := t
  show PyProof.Rows.lexLt PyProof.Rows.itemOrd [.inl 1, .inl a, .inl 1, .inr (hs b).cps.toList, .inl 0] [.inl 1, .inl c, .inl 1, .inr (hs d).cps.toList, .inl 0] = _
  rw [PyProof.Rows.lex_self, PyProof.Rows.lex_cons, PyProof.Rows.lex_self, PyProof.Rows.lex_cons, PyProof.Rows.lex_self]
  show (decide (a < c) || (!decide (c < a) && (itemOrd.blt (.inr (hs b).cps.toList) (.inr (hs d).cps.toList) || (!itemOrd.blt (.inr (hs d).cps.toList) (.inr (hs b).cps.toList) && false)))) = _
  rw [hs_lt]
  simp
def ltS (s t : St) : Prop := s.1 < t.1 ∨ (s.1 = t.1 ∧ s.2 = true ∧ t.2 = false)
theorem ltb_iff (s t : St) : ltb (eSt s) (eSt t) = true ↔ ltS s t := by
  rw [ltb_S]
  obtain ⟨a, b⟩ := s
  obtain ⟨c, d⟩ := t
  simp only [ltS, Bool.or_eq_true, Bool.and_eq_true, Bool.not_eq_true', decide_eq_true_eq, decide_eq_false_iff_not]
  cases b <;> cases d <;> simp <;> omega
theorem leS_iff (s t : St) : leS s t = true ↔ s = t ∨ ltS s t := by
  have e : leS s t = !ltb (eSt t) (eSt s) := rfl
  rw [e, ltb_S]
  obtain ⟨a, b⟩ := s
  obtain ⟨c, d⟩ := t
  simp only [ltS, Bool.not_eq_true', Bool.or_eq_false_iff, Bool.and_eq_false_iff, decide_eq_false_iff_not, Bool.not_eq_false', decide_eq_true_eq, Prod.mk.injEq]
  cases b <;> cases d <;> simp <;> omega
theorem ltS_trans {a b c : St} (h1 : ltS a b) (h2 : ltS b c) : ltS a c := by
  obtain ⟨a1, a2⟩ := a
  obtain ⟨b1, b2⟩ := b
  obtain ⟨c1, c2⟩ := c
  simp only [ltS] at h1 h2 ⊢
  rcases h1 with h1 | ⟨h1, h3, h4⟩ <;> rcases h2 with h2 | ⟨h2, h5, h6⟩
  · omega
  · omega
  · omega
  · rw [h4] at h5; cases h5
theorem sortS_lt {L : List St} (nd : L.Nodup) : (L.mergeSort leS).Pairwise ltS := by
  have h1 : (L.mergeSort leS).Pairwise fun a b => leS a b = true := List.pairwise_mergeSort (le := leS) (fun a b c h1 h2 => by
    rw [leS_iff] at h1 h2 ⊢
    rcases h1 with rfl | h1
    · exact h2
    · rcases h2 with rfl | h2
      · exact .inr h1
      · exact .inr (ltS_trans h1 h2)) (fun a b => by
    rw [Bool.or_eq_true, leS_iff, leS_iff]
    obtain ⟨a1, a2⟩ := a
    obtain ⟨b1, b2⟩ := b
    simp only [ltS, Prod.mk.injEq]
    cases a2 <;> cases b2 <;> simp <;> omega) L
  have h2 : (L.mergeSort leS).Nodup := (List.mergeSort_perm L leS).nodup_iff.mpr nd
  exact (List.pairwise_and_iff.mpr ⟨h1, h2⟩).imp fun {a b} h => ((leS_iff a b).mp h.1).resolve_left h.2
theorem alike_S (s t : St) : PySem.W.alike (eSt s).py (eSt t).py = true := by simp [eSt, D.py, pys, PySem.W.alike, PySem.W.alikeAll]
theorem ge_S {G : Hs} (s t : St) : g_geA G (eSt s) (eSt t) = some (.bl (!ltb (eSt s) (eSt t))) := by
  have e : g_geA G (eSt s) (eSt t) = fGeD G (eSt s) (eSt t) := rfl
  rw [e]
  unfold fGeD
  rw [if_pos ⟨⟨eSt_ok s, eSt_ok t⟩, alike_S s t, rfl, by show (1 : Nat) ≤ 60; decide⟩]
theorem eqb_S (s t : St) : eqb (eSt s) (eSt t) = decide (s = t) := by
  show (eqb (.int s.1) (.int t.1) && (eqb (.str (hs s.2)) (.str (hs t.2)) && true)) = _
  rw [eqb_int, eqb_str, Bool.and_true]
  by_cases h : s = t
  · subst h; simp
  · rw [decide_eq_false h]
    simp only [Bool.and_eq_false_iff, decide_eq_false_iff_not]
    by_cases h1 : s.1 = t.1
    · exact .inr fun h2 => h (Prod.ext h1 ((hs_inj _ _).mp h2))
    · exact .inl h1
theorem in_S {G : Hs} {y : D} {L : List St} {p : St} (hs : seqG G y = some (L.map eSt)) (neg : Bool) : fIn neg G (eSt p) y = some (.bl (if neg = true then !decide (p ∈ L) else decide (p ∈ L))) := by
  have hd := deps_map (e := eSt) (n := 1) (fun _ => Nat.le_refl _) L
  rw [in_of hs (eSt_ok p) (oks_map eSt_ok L) (by show (1 : Nat) ≤ 60; decide) (by omega) neg, inB_map (fun x => eqb_S x p)]
  congr 2
  cases neg <;> simp
section
variable {n : Nat} {A T : List (Int × Int)} {gv one other : List Int}
theorem ht_in {G : Hs} (b : Bool) : g_nin G (.str (hs b)) (.tup [.str "head", .str "tail"]) = some (.bl false) := by
  rw [show g_nin G (.str (hs b)) (.tup [.str "head", .str "tail"]) = fIn true G (.str (hs b)) (.tup [.str "head", .str "tail"]) from rfl]
  rw [in_of (ds := [.str "head", .str "tail"]) rfl (hs_ok b) (by decide +kernel) (Nat.zero_le _) (by decide +kernel) true]
  refine congrArg (fun b => some (D.bl b)) ?_
  cases b <;> decide +kernel
theorem enT_of {δ : Env'} {G : Hs} {fa : RE} {xs : List D} (h : fa δ G = some (.tup xs)) : iEnT fa δ G = some (numD xs) := by
  unfold iEnT
  rw [h]
  rfl
theorem are_states_P {L : List St} (hr : ∀ s ∈ L, 0 ≤ s.1 ∧ s.1 < n) (hp : L.Pairwise ltS) (hl : L.length ≤ 1000) : f_are_states [eM n A T, .tup (L.map eSt)] = some (.bl true) := by
  have hnum : numD (L.map eSt) = L.zipIdx.map fun p => D.tup [.int (p.2 : Nat), eSt p.1] := by
    unfold numD
    rw [List.zipIdx_map, List.map_map]
    rfl
  obtain ⟨δ1, G1, h1, o2, o3, rfl, rfl⟩ := forL_fold (set := setTup [(setN 2), (setN 3)]) (b := (sSeq (sIf (ofRT (rOr (rNot (rTru (rIsT (isTy "tuple") (rVar 3)))) (rOr (rB (rBin g_ne (rCal gLen (rCons (rVar 3) rNil)) (rC (.int 2)))) (rNot (rTru (rCallP 2 f_is_variable (rCons (rVar 0) (rCons (rBin ixA (rVar 3) (rC (.int 0))) rNil))))))))
    (sRet (ofR (rC (.bl false))))
    FL.sNil)
   (sSeq (sIf (ofRT (rOr (rNot (rTru (rIsT (isTy "str") (rBin ixA (rVar 3) (rC (.int 1)))))) (rB (rBin g_nin (rBin ixA (rVar 3) (rC (.int 1))) (rTup (rCons (rC (.str "head")) (rCons (rC (.str "tail")) rNil)))))))
    (sRet (ofR (rC (.bl false))))
    FL.sNil)
   (sIf (ofRT (rAnd (rB (rBin g_gtA (rVar 2) (rC (.int 0)))) (rB (rBin g_geA (rBin ixA (rVar 1) (rBin g_sub (rVar 2) (rC (.int 1)))) (rVar 3)))))
    (sRet (ofR (rC (.bl false))))
    FL.sNil)))) (fun p : St × Nat => D.tup [.int (p.2 : Nat), eSt p.1]) (fun (u : Unit) _ => u) (fun k u δ G => ∃ o2 o3, δ = [some (eM n A T), some (.tup (L.map eSt)), o2, o3] ∧ G = []) L.zipIdx () [some (eM n A T), some (.tup (L.map eSt)), none, none] [] ⟨none, none, rfl, rfl⟩ fun p hp' k u δ G ⟨o2, o3, hδ, hG⟩ => by
      subst hδ hG
      obtain ⟨s, i⟩ := p
      have es : L[i]? = some s := List.mem_zipIdx_iff_getElem?.mp hp'
      have hi := (List.getElem?_eq_some_iff.mp es).1
      have hrs := hr s (List.mem_of_getElem? es)
      refine ⟨[some (eM n A T), some (.tup (L.map eSt)), some (.int (i : Int)), some (eSt s)], rfl, ?_⟩
      have e0 : ∀ G, ixA G (eSt s) (.int 0) = some (.int s.1) := fun G => (ixA_tup _ _).trans (at_0 _ _)
      have e1 : ∀ G, ixA G (eSt s) (.int 1) = some (.str (hs s.2)) := fun G => (ixA_tup _ _).trans (at_1 _ _ _)
      have hv : f_is_variable [eM n A T, .int s.1] = some (.bl true) := by
        rw [is_variable_v, decide_eq_true hrs.1, decide_eq_true hrs.2]
        rfl
      have t1 : rOr (rNot (rTru (rIsT (isTy "tuple") (rVar 3)))) (rOr (rB (rBin g_ne (rCal gLen (rCons (rVar 3) rNil)) (rC (.int 2)))) (rNot (rTru (rCallP 2 f_is_variable (rCons (rVar 0) (rCons (rBin ixA (rVar 3) (rC (.int 0))) rNil)))))) [some (eM n A T), some (.tup (L.map eSt)), some (.int (i : Int)), some (eSt s)] [] = some false :=
        or_of (b := false) (c := false) (not_f (tru_of (isT_of (var_of rfl) rfl) rfl)) fun _ => or_of (b := false) (c := false) (b_of (bin_of (cal1_of (var_of (d := eSt s) rfl) (len_tup _)) c_of (ne_ii _ _))) fun _ => not_f (tru_of (callP_of (ds := [eM n A T, .int s.1]) (cons_of (var_of rfl) (cons_of (bin_of (var_of rfl) c_of (e0 _)) nil_of)) (by simp [ims, eM_im, D.im]) rfl hv) rfl)
      have t2 : rOr (rNot (rTru (rIsT (isTy "str") (rBin ixA (rVar 3) (rC (.int 1)))))) (rB (rBin g_nin (rBin ixA (rVar 3) (rC (.int 1))) (rTup (rCons (rC (.str "head")) (rCons (rC (.str "tail")) rNil))))) [some (eM n A T), some (.tup (L.map eSt)), some (.int (i : Int)), some (eSt s)] [] = some false :=
        or_of (b := false) (c := false) (not_f (tru_of (isT_of (bin_of (var_of rfl) c_of (e1 _)) rfl) rfl)) fun _ => b_of (bin_of (bin_of (var_of rfl) c_of (e1 _)) (tup_of (cons_of c_of (cons_of c_of nil_of)) (by simp)) (ht_in _))
      have t3 : rAnd (rB (rBin g_gtA (rVar 2) (rC (.int 0)))) (rB (rBin g_geA (rBin ixA (rVar 1) (rBin g_sub (rVar 2) (rC (.int 1)))) (rVar 3))) [some (eM n A T), some (.tup (L.map eSt)), some (.int (i : Int)), some (eSt s)] [] = some (decide (0 < (i : Int)) && false) := by
        refine and_of (b_of (bin_of (var_of rfl) c_of (gt_ii _ _))) fun h => ?_
        have h := of_decide_eq_true h
        have hp1 : i - 1 < L.length := by omega
        have hix : ixA [] (.tup (L.map eSt)) (.int ((i : Int) - 1)) = some (eSt L[i - 1]) := by
          rw [ixA_tup, at_int _ (by omega), show ((i : Int) - 1).toNat = i - 1 by omega, List.getElem?_map, List.getElem?_eq_getElem hp1]
          rfl
        refine b_of (bin_of (bin_of (var_of rfl) (bin_of (var_of rfl) c_of (sub_ii _ _)) hix) (var_of rfl) ((ge_S _ _).trans ?_))
        have es' : L[i] = s := by
          rw [List.getElem?_eq_getElem hi] at es
          exact Option.some.inj es
        have := List.pairwise_iff_getElem.mp hp (i - 1) i hp1 hi (by omega)
        rw [es'] at this
        rw [(ltb_iff _ _).mpr this]
        rfl
      rw [Bool.and_false] at t3
      exact ⟨_, _, (sq_nx ((if_f (ofRT_of t1)).trans rfl)).trans ((sq_nx ((if_f (ofRT_of t2)).trans rfl)).trans ((if_f (ofRT_of t3)).trans rfl)), _, _, rfl, rfl⟩
  refine fnP_of ((sq_nx ((if_f (ofRT_of (not_f (tru_of (isT_of (var_of rfl) rfl) rfl)))).trans rfl)).trans ((sq_nx ((for_nx (ofRA_of ((enT_of (var_of rfl)).trans (congrArg some hnum)))).trans h1)).trans (ret_of (ofR_of c_of)))) rfl
end
end K30
namespace K30
open PySem PySem.Spec PyProof.Rows L2 FL
theorem s_eq {G : Hs} (a b : PySem.Str) (h : PyData.strOk a = true ∧ PyData.strOk b = true) : g_eq G (.str a) (.str b) = some (.bl (decide (a = b))) := by
  rw [eq_of (x := .str a) (y := .str b) h.1 h.2 (Nat.zero_le _) (Nat.zero_le _), eqb_str]
theorem s_ne {G : Hs} (a b : PySem.Str) (h : PyData.strOk a = true ∧ PyData.strOk b = true) : g_ne G (.str a) (.str b) = some (.bl (!decide (a = b))) := by
  rw [ne_of' (x := .str a) (y := .str b) h.1 h.2 (Nat.zero_le _) (Nat.zero_le _), eqb_str]
section
variable {n : Nat} {A T : List (Int × Int)} {gv one other : List Int}
structure Clos (n : Nat) (A T : List (Int × Int)) (gv one other : List Int) (L : List St) : Prop where
  rng : ∀ s ∈ L, 0 ≤ s.1 ∧ s.1 < n
  asc : L.Pairwise ltS
  len : L.length ≤ 1000
  st : ∀ v ∈ one, ((v, false) : St) ∈ L
  no : ∀ s ∈ L, s.1 ∉ other
  cl : ∀ s ∈ L, ∀ t, Stp A T gv s t → t ∈ L
theorem is_closed_P (g : Good n A T) (hl1 : one.length ≤ 1000) {L : List St} (h : Clos n A T gv one other L) : f_is_closed [eM n A T, .tup (one.map .int), .tup (other.map .int), .tup (gv.map .int), .tup (L.map eSt)] = some (.bl true) := by
  have hA := g.aL
  have hT := g.tL
  have t0 : rTru (rLc (iTupR (rVar 1)) (setN 6) (rB (rBin g_nin (rTup (rCons (rVar 6) (rCons (rC (.str "tail")) rNil))) (rVar 4))) (rVar 6) [6]) (slots 8 [eM n A T, .tup (one.map .int), .tup (other.map .int), .tup (gv.map .int), .tup (L.map eSt)]) [] = some false := by
    refine tru_of (d := .fl []) ?_ rfl
    refine (rlc_of D.int (fun v => [some (eM n A T), some (.tup (one.map .int)), some (.tup (other.map .int)), some (.tup (gv.map .int)), some (.tup (L.map eSt)), none, some (.int v), none]) (fun _ => false) D.int one (itup_of (var_of rfl)) (by omega) fun v hv => ⟨rfl, b_of (bin_of (tup_of (cons_of (var_of rfl) (cons_of c_of nil_of)) (by simp)) (var_of rfl) ((in_S (p := (v, false)) (L := L) rfl true).trans (by rw [decide_eq_true (h.st v hv)]; rfl))), fun z => by cases z⟩).trans ?_
    rw [List.filter_eq_nil_iff.mpr (fun _ _ => by decide)]
    rfl
  have inner : ∀ (s : St) (o6 o7 : Option D), s ∈ L → ∃ o6' o7', forL (setTup [(setN 7), (setN 6)]) (sIf (ofRT (rAnd (rTru (rCallP 3 f_is_let (rCons (rVar 3) (rCons (rVar 5) (rCons (rVar 7) rNil))))) (rB (rBin g_nin (rTup (rCons (rVar 6) (rCons (rCallP 1 f_far_end (rCons (rVar 7) rNil)) rNil))) (rVar 4)))))
     (sRet (ofR (rC (.bl false))))
     FL.sNil) ((steps A T s.1).map eKV) [some (eM n A T), some (.tup (one.map .int)), some (.tup (other.map .int)), some (.tup (gv.map .int)), some (.tup (L.map eSt)), some (eSt s), o6, o7] [] = some (.nx, [some (eM n A T), some (.tup (one.map .int)), some (.tup (other.map .int)), some (.tup (gv.map .int)), some (.tup (L.map eSt)), some (eSt s), o6', o7'], []) := by
    intro s o6 o7 hs
    obtain ⟨δ1, G1, h1, p6, p7, rfl, rfl⟩ := forL_fold (set := setTup [(setN 7), (setN 6)]) (b := (sIf (ofRT (rAnd (rTru (rCallP 3 f_is_let (rCons (rVar 3) (rCons (rVar 5) (rCons (rVar 7) rNil))))) (rB (rBin g_nin (rTup (rCons (rVar 6) (rCons (rCallP 1 f_far_end (rCons (rVar 7) rNil)) rNil))) (rVar 4)))))
     (sRet (ofR (rC (.bl false))))
     FL.sNil)) eKV (fun (u : Unit) _ => u) (fun k u δ G => ∃ o6 o7, δ = [some (eM n A T), some (.tup (one.map .int)), some (.tup (other.map .int)), some (.tup (gv.map .int)), some (.tup (L.map eSt)), some (eSt s), o6, o7] ∧ G = []) (steps A T s.1) () [some (eM n A T), some (.tup (one.map .int)), some (.tup (other.map .int)), some (.tup (gv.map .int)), some (.tup (L.map eSt)), some (eSt s), o6, o7] [] ⟨o6, o7, rfl, rfl⟩ fun kw hkw k u δ G ⟨o6, o7, hδ, hG⟩ => by
        subst hδ hG
        refine ⟨[some (eM n A T), some (.tup (one.map .int)), some (.tup (other.map .int)), some (.tup (gv.map .int)), some (.tup (L.map eSt)), some (eSt s), some (.int kw.2), some (.str kw.1.s)], rfl, ?_⟩
        have t : rAnd (rTru (rCallP 3 f_is_let (rCons (rVar 3) (rCons (rVar 5) (rCons (rVar 7) rNil))))) (rB (rBin g_nin (rTup (rCons (rVar 6) (rCons (rCallP 1 f_far_end (rCons (rVar 7) rNil)) rNil))) (rVar 4))) [some (eM n A T), some (.tup (one.map .int)), some (.tup (other.map .int)), some (.tup (gv.map .int)), some (.tup (L.map eSt)), some (eSt s), some (.int kw.2), some (.str kw.1.s)] [] = some (lets gv s kw.1 && false) := by
          refine and_of (tru_of (callP_of (ds := [.tup (gv.map .int), eSt s, .str kw.1.s]) (cons_of (var_of rfl) (cons_of (var_of rfl) (cons_of (var_of rfl) nil_of))) (by simp [ims, D.im, ims_int, eSt]) rfl (is_let_P gv s kw.1)) rfl) fun hlet => ?_
          refine b_of (bin_of (tup_of (cons_of (var_of rfl) (cons_of (callP_of (ds := [.str kw.1.s]) (cons_of (var_of rfl) nil_of) rfl rfl (far_s kw.1)) nil_of)) (by simp)) (var_of rfl) ((in_S (p := (kw.2, hd1 kw.1)) (L := L) rfl true).trans ?_))
          rw [decide_eq_true (h.cl s hs _ ⟨kw.1, kw.2, hkw, hlet, rfl⟩)]
          rfl
        rw [Bool.and_false] at t
        exact ⟨_, _, (if_f (ofRT_of t)).trans rfl, _, _, rfl, rfl⟩
    exact ⟨p6, p7, h1⟩
  obtain ⟨δ1, G1, h1, p5, p6, p7, rfl, rfl⟩ := forL_fold (set := setN 5) (b := (sSeq (sIf (ofRT (rB (rBin g_in_ (rBin ixA (rVar 5) (rC (.int 0))) (rVar 2))))
    (sRet (ofR (rC (.bl false))))
    FL.sNil)
   (sFor (iFlE (ofR (rCallP 2 f_steps_from (rCons (rVar 0) (rCons (rBin ixA (rVar 5) (rC (.int 0))) rNil))))) (setTup [(setN 7), (setN 6)])
    (sIf (ofRT (rAnd (rTru (rCallP 3 f_is_let (rCons (rVar 3) (rCons (rVar 5) (rCons (rVar 7) rNil))))) (rB (rBin g_nin (rTup (rCons (rVar 6) (rCons (rCallP 1 f_far_end (rCons (rVar 7) rNil)) rNil))) (rVar 4)))))
     (sRet (ofR (rC (.bl false))))
     FL.sNil)))) eSt (fun (u : Unit) _ => u) (fun k u δ G => ∃ o5 o6 o7, δ = [some (eM n A T), some (.tup (one.map .int)), some (.tup (other.map .int)), some (.tup (gv.map .int)), some (.tup (L.map eSt)), o5, o6, o7] ∧ G = []) L () [some (eM n A T), some (.tup (one.map .int)), some (.tup (other.map .int)), some (.tup (gv.map .int)), some (.tup (L.map eSt)), none, none, none] [] ⟨none, none, none, rfl, rfl⟩ fun s hs k u δ G ⟨o5, o6, o7, hδ, hG⟩ => by
      subst hδ hG
      refine ⟨_, rfl, ?_⟩
      obtain ⟨o6', o7', hin⟩ := inner s o6 o7 hs
      have t1 : rB (rBin g_in_ (rBin ixA (rVar 5) (rC (.int 0))) (rVar 2)) [some (eM n A T), some (.tup (one.map .int)), some (.tup (other.map .int)), some (.tup (gv.map .int)), some (.tup (L.map eSt)), some (eSt s), o6, o7] [] = some false :=
        b_of (bin_of (bin_of (var_of (d := eSt s) rfl) c_of ((ixA_tup _ _).trans (at_0 _ _))) (var_of rfl) ((in_ii _ _).trans (by rw [decide_eq_false (h.no s hs)])))
      exact ⟨_, _, (sq_nx ((if_f (ofRT_of t1)).trans rfl)).trans ((forf_nx (callP_of (ds := [eM n A T, .int s.1]) (cons_of (var_of rfl) (cons_of (bin_of (var_of (d := eSt s) rfl) c_of ((ixA_tup _ _).trans (at_0 _ _))) nil_of)) (by simp [ims, eM_im, D.im]) rfl (steps_P s.1 (by omega) (by omega)))).trans hin), _, _, _, rfl, rfl⟩
  exact fnP_of ((sq_nx ((if_f (ofRT_of t0)).trans rfl)).trans ((sq_nx ((for_nx (ofRA_of (itup_of (xs := L.map eSt) (var_of rfl)))).trans h1)).trans (ret_of (ofR_of c_of)))) rfl
theorem is_apart_start (hn : n ≤ 6) (h : Lots n one other gv) {x : PySem.Str} {d : D} (hd : d.im = true) : 
    sExp (ofR (rCallP 4 f_check_lots (rCons (rVar 0) (rCons (rVar 1) (rCons (rVar 2) (rCons (rVar 3) rNil)))))) (slots 5 [eM n A T, .tup (one.map .int), .tup (other.map .int), .tup (gv.map .int), .tup [.str x, d]]) [] = some (.nx, slots 5 [eM n A T, .tup (one.map .int), .tup (other.map .int), .tup (gv.map .int), .tup [.str x, d]], []) :=
  exp_of (ofR_of (callP_of (ds := [eM n A T, .tup (one.map .int), .tup (other.map .int), .tup (gv.map .int)]) (cons_of (var_of rfl) (cons_of (var_of rfl) (cons_of (var_of rfl) (cons_of (var_of rfl) nil_of)))) (by simp [ims, eM_im, D.im, ims_int]) rfl (check_P hn h)))
theorem is_apart_sh {x : PySem.Str} {d : D} : rOr (rNot (rTru (rIsT (isTy "tuple") (rVar 4)))) (rOr (rB (rBin g_ne (rCal gLen (rCons (rVar 4) rNil)) (rC (.int 2)))) (rNot (rTru (rIsT (isTy "str") (rBin ixA (rVar 4) (rC (.int 0))))))) (slots 5 [eM n A T, .tup (one.map .int), .tup (other.map .int), .tup (gv.map .int), .tup [.str x, d]]) [] = some false :=
  or_of (b := false) (c := false) (not_f (tru_of (isT_of (var_of rfl) rfl) rfl)) fun _ => or_of (b := false) (c := false) (b_of (bin_of (cal1_of (var_of rfl) (len_tup _)) c_of (ne_ii _ _))) fun _ => not_f (tru_of (isT_of (bin_of (var_of rfl) c_of ((ixA_tup _ _).trans (at_0 _ _))) rfl) rfl)
theorem is_apart_A (g : Good n A T) (h : Lots n one other gv) {L : List St} (hc : Clos n A T gv one other L) : f_is_apart [eM n A T, .tup (one.map .int), .tup (other.map .int), .tup (gv.map .int), .tup [.str "apart", .tup (L.map eSt)]] = some (.bl true) := by
  have iL : (D.tup (L.map eSt)).im = true := by simp [D.im, ims_map eSt_im]
  have l1 := rng_len (pw_nd h.s1) h.r1
  have hn := g.n2
  exact fnP_of ((sq_nx (is_apart_start g.n2 h iL)).trans ((sq_nx ((if_f (ofRT_of is_apart_sh)).trans rfl)).trans
    ((sq_nx ((if_f (ofRT_of (b_of (bin_of (bin_of (var_of rfl) c_of ((ixA_tup _ _).trans (at_0 _ _))) c_of ((s_eq "apart" "open" (by decide +kernel)).trans (by rw [decide_eq_false (by decide +kernel)])))))).trans rfl)).trans
    ((sq_nx ((if_f (ofRT_of (or_of (b := false) (c := false) (b_of (bin_of (bin_of (var_of rfl) c_of ((ixA_tup _ _).trans (at_0 _ _))) c_of ((s_ne "apart" "apart" (by decide +kernel)).trans (by rw [decide_eq_true rfl]; rfl)))) fun _ => not_f (tru_of (callP_of (ds := [eM n A T, .tup (L.map eSt)]) (cons_of (var_of rfl) (cons_of (bin_of (var_of rfl) c_of ((ixA_tup _ _).trans (at_1 _ _ _))) nil_of)) (by simp [ims, eM_im, iL]) rfl (are_states_P hc.rng hc.asc hc.len)) rfl)))).trans rfl)).trans
    (ret_of (ofR_of (callP_of (ds := [eM n A T, .tup (one.map .int), .tup (other.map .int), .tup (gv.map .int), .tup (L.map eSt)]) (cons_of (var_of rfl) (cons_of (var_of rfl) (cons_of (var_of rfl) (cons_of (var_of rfl) (cons_of (bin_of (var_of rfl) c_of ((ixA_tup _ _).trans (at_1 _ _ _))) nil_of))))) (by simp [ims, eM_im, iL, D.im, ims_int]; simpa [D.im] using iL) rfl (is_closed_P g (by omega) hc)))))))) rfl
theorem is_apart_O (g : Good n A T) (h : Lots n one other gv) {w : List I0} (hw : w.length ≤ 200) : f_is_apart [eM n A T, .tup (one.map .int), .tup (other.map .int), .tup (gv.map .int), .tup [.str "open", eT w]] = some (.bl (Opn n A T gv w && (memO one w[0]? && memO other w.getLast?))) := by
  refine fnP_of ((sq_nx (is_apart_start g.n2 h (eT_im w))).trans ((sq_nx ((if_f (ofRT_of is_apart_sh)).trans rfl)).trans
    (sq_rt ((if_t (ofRT_of (b_of (bin_of (bin_of (var_of rfl) c_of ((ixA_tup _ _).trans (at_0 _ _))) c_of ((s_eq "open" "open" (by decide +kernel)).trans (by rw [decide_eq_true rfl])))))).trans (ret_of (ofR_of (andV_of (callP_of (ds := [eM n A T, eT w, .tup (gv.map .int)]) (cons_of (var_of rfl) (cons_of (bin_of (var_of rfl) c_of ((ixA_tup _ _).trans (at_1 _ _ _))) (cons_of (var_of rfl) nil_of))) (by simp [ims, eM_im, D.im, ims_int]; simpa [eT] using eT_im w) rfl (is_open_P w gv hw)) fun ho => ?_))))))) rfl
  have hwk : Wk n A T w = true := by
    unfold Opn at ho
    simp only [Bool.and_eq_true, Bool.not_eq_true', Bool.or_eq_false_iff, Bool.not_eq_false'] at ho
    exact ho.1.1
  have hl := (wk_parts hwk).1
  obtain ⟨a, ea⟩ := isV_even (wk_parts hwk).2.1 (i := 0) (by omega)
  obtain ⟨b, eb⟩ := wk_last hwk
  have ea : w[0]? = some (.v a) := ea
  have i0 : ∀ G, ixA G (eT w) (.int 0) = some (.int a) := fun G => ix_of (x := .v a) (j := 0) (by omega) ea
  have i1 : ∀ G, ixA G (eT w) (.int (-1)) = some (.int b) := fun G => last_of (x := .v b) eb
  rw [ea, eb]
  exact andV_of (bin_of (bin_of (bin_of (var_of rfl) c_of ((ixA_tup _ _).trans (at_1 _ _ _))) c_of (i0 _)) (var_of rfl) (in_ii _ _)) fun _ => bin_of (bin_of (bin_of (var_of rfl) c_of ((ixA_tup _ _).trans (at_1 _ _ _))) rfl (i1 _)) (var_of rfl) (in_ii _ _)
end
end K30
namespace FL
open PySem PySem.Spec PyProof.Rows L2
theorem asg4_of {f : EE} {δ : Env'} {G G1 : Hs} {d1 d2 d3 d4 : D} {i j k l : Nat} (h : f δ G = some (.tup [d1, d2, d3, d4], G1)) (hi : i < δ.length) (hj : j < δ.length) (hk : k < δ.length) (hl : l < δ.length) : sAsg f (setTup [(setN i), (setN j), (setN k), (setN l)]) δ G = some (.nx, (((δ.set i (some d1)).set j (some d2)).set k (some d3)).set l (some d4), G1) := by
  unfold sAsg
  rw [h, Option.bind_some]
  simp [setTup, setTs, setN, hi, hj, hk, hl]
end FL
namespace K30
open PySem PySem.Spec PyProof.Rows L2 FL
theorem back_P (k : Kd) : f__law_back [.str k.s] = some (.str (flipK k).s) := by
  refine fnP_of (ret_of (ofR_of (bin_of (x := .fd [.inr "to", .inr "from", .inr "tie"] [.str "from", .str "to", .str "tie"]) rfl (var_of rfl) ?_))) (by cases k <;> rfl)
  cases k <;> rfl
theorem turned_P {w : List I0} (h : Alt w) (hl : w.length ≤ 200) : f__law_turned [eT w] = some (eT (turn w)) := by
  have hsrc : iEnT (rSt (rVar 0) (partD none) (partD none) (partD (some (rNeg (rC (.int 1)))))) [some (eT w), none, none] [] = some (w.reverse.zipIdx.map fun p => .tup [.int (p.2 : Nat), eI p.1]) := by
    unfold iEnT
    rw [stR_of (ds := w.map eI) (var_of rfl) rfl (by rw [List.length_map]; omega), Option.bind_some]
    simp only [numD]
    rw [← List.map_reverse, List.zipIdx_map, List.map_map]
    rfl
  refine fnP_of (ret_of (ofR_of (cal1_of (rlc_of (fun p : I0 × Nat => D.tup [.int (p.2 : Nat), eI p.1]) (fun p => [some (eT w), some (.int (p.2 : Nat)), some (eI p.1)]) (fun _ => true) (fun p => eI (flip p.1)) w.reverse.zipIdx hsrc (by simp; omega) fun p hp => ⟨rfl, rfl, fun _ => ?_⟩) ?_))) (eT_im (turn w))
  · have hm := List.mem_zipIdx_iff_getElem?.mp hp
    have hlt : p.2 < w.length := by
      have := (List.getElem?_eq_some_iff.mp hm).1
      rwa [List.length_reverse] at this
    rw [List.getElem?_reverse hlt] at hm
    have hh := h.2 _ _ hm
    have h1 := h.1
    have t : rB (rBin g_eq (rBin g_mod (rCal gInt (rCons (rVar 1) rNil)) (rC (.int 2))) (rC (.int 0))) [some (eT w), some (.int (p.2 : Nat)), some (eI p.1)] [] = some (decide ((p.2 : Int) % 2 = 0)) := b_of (bin_of (bin_of (cal1_of (var_of rfl) rfl) c_of (mod_ii _ _ (by decide))) c_of (eq_ii _ _))
    by_cases h2 : p.2 % 2 = 0
    · obtain ⟨a, ea⟩ := hh.1 (by omega)
      rw [decide_eq_true (by omega)] at t
      refine (rif_t t).trans ?_
      rw [ea]
      rfl
    · obtain ⟨k, ek⟩ := hh.2 (by omega)
      rw [decide_eq_false (by omega)] at t
      refine (rif_f t).trans ?_
      rw [ek, flip_k]
      exact callP_of (ds := [.str k.s]) (cons_of (var_of rfl) nil_of) rfl rfl (back_P k)
  · rw [List.filter_eq_self.mpr (fun _ _ => rfl)]
    show some (D.tup (w.reverse.zipIdx.map fun p => eI (flip p.1))) = _
    rw [eT, turn, List.map_map]
    congr 2
    rw [show (fun p : I0 × Nat => eI (flip p.1)) = (fun x => eI (flip x)) ∘ Prod.fst from rfl, ← List.map_map, List.zipIdx_map_fst]
    rfl
section
variable {n : Nat} {A T : List (Int × Int)} {gv one other : List Int}
/-- a row of variables that have sides, with words between -/
structure Vw (A T : List (Int × Int)) (w : List I0) : Prop where
  odd : w.length % 2 = 1
  vs : ∀ i, 2 * i < w.length → ∃ v, w[2 * i]? = some (.v v) ∧ sides A T v ≠ []
  ks : ∀ i, 2 * i + 1 < w.length → ∃ k, w[2 * i + 1]? = some (.k k)
theorem sides_ne (g : Good n A T) {a b : Int} {k : Kd} (h : edge A T a k b = true) : sides A T a ≠ [] := by
  rw [edge_sides g, decide_eq_true_eq] at h
  intro z
  rw [z] at h
  cases h
theorem vw_wk (g : Good n A T) {w : List I0} (h : Wk n A T w = true) : Vw A T w := by
  have hl := (wk_parts h).1
  refine ⟨hl.2.2, fun i hi => ?_, fun i hi => ?_⟩
  · by_cases hlt : 2 * i + 2 < w.length
    · obtain ⟨a, k, b, e0, e1, e2, ed⟩ := wk_edge h hlt
      exact ⟨a, e0, sides_ne g ed⟩
    · obtain ⟨a, k, b, e0, e1, e2, ed⟩ := wk_edge h (i := i - 1) (by omega)
      rw [show 2 * (i - 1) + 2 = 2 * i by omega] at e2
      refine ⟨b, e2, sides_ne g (k := flipK k) (b := a) ?_⟩
      rw [edge_flip]
      exact ed
  · obtain ⟨a, k, b, e0, e1, e2, ed⟩ := wk_edge h (i := i) (by omega)
    exact ⟨k, e1⟩
theorem Vw.alt {w : List I0} (h : Vw A T w) : Alt w := by
  refine ⟨h.odd, fun i x hx => ?_⟩
  have hi := (List.getElem?_eq_some_iff.mp hx).1
  constructor
  · intro hp
    obtain ⟨v, e, _⟩ := h.vs (i / 2) (by omega)
    rw [show 2 * (i / 2) = i by omega, hx] at e
    exact ⟨v, Option.some.inj e⟩
  · intro hp
    obtain ⟨k, e⟩ := h.ks (i / 2) (by omega)
    rw [show 2 * (i / 2) + 1 = i by omega, hx] at e
    exact ⟨k, Option.some.inj e⟩
theorem Vw.turn {w : List I0} (h : Vw A T w) : Vw A T (turn w) := by
  have ho := h.odd
  refine ⟨by rw [turn_len]; exact h.odd, fun i hi => ?_, fun i hi => ?_⟩
  · rw [turn_len] at hi
    obtain ⟨v, e, hs⟩ := h.vs ((w.length - 1 - 2 * i) / 2) (by omega)
    rw [show 2 * ((w.length - 1 - 2 * i) / 2) = w.length - 1 - 2 * i by omega] at e
    exact ⟨v, by rw [turn_get hi, e]; rfl, hs⟩
  · rw [turn_len] at hi
    obtain ⟨k, e⟩ := h.ks ((w.length - 1 - (2 * i + 1)) / 2) (by omega)
    rw [show 2 * ((w.length - 1 - (2 * i + 1)) / 2) + 1 = w.length - 1 - (2 * i + 1) by omega] at e
    exact ⟨flipK k, by rw [turn_get hi, e, Option.map_some, flip_k]⟩
def lgr (w : List I0) (r : Nat) (k : Kd) (u : Int) : List I0 := w.take (2 * r + 1) ++ [.k k, .v u, .k (flipK k)] ++ w.drop (2 * r)
theorem lgr_len {w : List I0} {r : Nat} (hr : 2 * r < w.length) (k : Kd) (u : Int) : (lgr w r k u).length = w.length + 4 := by
  unfold lgr
  rw [List.length_append, List.length_append, List.length_take, List.length_drop]
  simp
  omega
theorem lgr_get {w : List I0} {r : Nat} (hr : 2 * r < w.length) (k : Kd) (u : Int) (i : Nat) : (lgr w r k u)[i]? = if i ≤ 2 * r then w[i]? else if i = 2 * r + 1 then some (.k k) else if i = 2 * r + 2 then some (.v u) else if i = 2 * r + 3 then some (.k (flipK k)) else w[i - 4]? := by
  unfold lgr
  have ht : (w.take (2 * r + 1)).length = 2 * r + 1 := by rw [List.length_take]; omega
  by_cases h0 : i ≤ 2 * r
  · rw [if_pos h0, List.append_assoc, List.getElem?_append_left (by omega), List.getElem?_take_of_lt (by omega)]
  · rw [if_neg h0, List.append_assoc, List.getElem?_append_right (by omega), ht]
    by_cases h1 : i = 2 * r + 1
    · subst h1
      rw [if_pos rfl, Nat.sub_self]
      rfl
    · rw [if_neg h1]
      by_cases h2 : i = 2 * r + 2
      · subst h2
        rw [if_pos rfl, show 2 * r + 2 - (2 * r + 1) = 1 by omega]
        rfl
      · rw [if_neg h2]
        by_cases h3 : i = 2 * r + 3
        · subst h3
          rw [if_pos rfl, show 2 * r + 3 - (2 * r + 1) = 2 by omega]
          rfl
        · rw [if_neg h3, List.getElem?_append_right (by simp; omega), List.getElem?_drop]
          congr 1
          simp
          omega
theorem Vw.lgr (g : Good n A T) {w : List I0} (h : Vw A T w) {r : Nat} (hr : 2 * r < w.length) {v : Int} (hv : w[2 * r]? = some (.v v)) {sd : Sd} (hs : sd ∈ sides A T v) : Vw A T (lgr w r sd.1 sd.2.2.1) := by
  have hl := lgr_len hr sd.1 sd.2.2.1
  have ho := h.odd
  have hn : sides A T sd.2.2.1 ≠ [] := by
    have := (sides_ok g hs).2.1
    refine sides_ne g (k := flipK sd.1) (b := v) ?_
    rw [edge_flip]
    exact this
  refine ⟨by omega, fun i hi => ?_, fun i hi => ?_⟩
  · rw [lgr_get hr]
    by_cases h0 : 2 * i ≤ 2 * r
    · rw [if_pos h0]
      exact h.vs i (by omega)
    · rw [if_neg h0, if_neg (by omega)]
      by_cases h2 : 2 * i = 2 * r + 2
      · rw [if_pos h2]
        exact ⟨_, rfl, hn⟩
      · rw [if_neg h2, if_neg (by omega), show 2 * i - 4 = 2 * (i - 2) by omega]
        exact h.vs (i - 2) (by omega)
  · rw [lgr_get hr]
    by_cases h0 : 2 * i + 1 ≤ 2 * r
    · rw [if_pos h0]
      exact h.ks i (by omega)
    · rw [if_neg h0]
      by_cases h1 : 2 * i + 1 = 2 * r + 1
      · rw [if_pos h1]
        exact ⟨_, rfl⟩
      · rw [if_neg h1, if_neg (by omega)]
        by_cases h3 : 2 * i + 1 = 2 * r + 3
        · rw [if_pos h3]
          exact ⟨_, rfl⟩
        · rw [if_neg h3, show 2 * i + 1 - 4 = 2 * (i - 2) + 1 by omega]
          exact h.ks (i - 2) (by omega)
end
end K30
namespace K30
open PySem PySem.Spec PyProof.Rows L2 FL
theorem sd_ix {G : Hs} {L : List Sd} {q : Int} (h0 : 0 ≤ q) (h1 : q < L.length) : ∃ sd ∈ L, ixA G (.fl (L.map eS)) (.int q) = some (eS sd) := by
  have hq : q.toNat < L.length := by omega
  refine ⟨L[q.toNat], List.getElem_mem _, (ixA_fl _ _).trans ?_⟩
  rw [at_int _ h0, List.getElem?_map, List.getElem?_eq_getElem hq]
  rfl
section
variable {n : Nat} {A T : List (Int × Int)} {gv one other : List Int}
theorem longer_P (g : Good n A T) {w : List I0} (h : Vw A T w) (hl : w.length ≤ 190) (xs : List Int) : ∃ (w' : List I0) (xs' : List Int), f__law_longer [.rf 0, eW n A T, eT w] [.lst (xs.map .int)] = some (eT w', [.lst (xs'.map .int)]) ∧ Vw A T w' ∧ w'.length = w.length + 4 := by
  have ho := h.odd
  have hA := g.aL
  have hT := g.tL
  have em : ∀ δ : Env', δ[2]? = some (some (eT w)) → ∀ G, rBin g_div (rBin g_addA (rCal gLen (rCons (rVar 2) rNil)) (rC (.int 1))) (rC (.int 2)) δ G = some (.int (((w.length : Int) + 1) / 2)) := fun δ hδ G =>
    bin_of (bin_of (cal1_of (var_of hδ) ((len_tup _).trans (by rw [len_of_map]))) c_of (add_ii _ _)) c_of (div_ii _ _ (by decide +kernel))
  obtain ⟨r, xs1, e1, r0, r1⟩ := tk_of (δ := slots 9 [.rf 0, eW n A T, eT w]) (G := [.lst (xs.map .int)]) (k := 0) (fo := rVar 0) (fm := rBin g_div (rBin g_addA (rCal gLen (rCons (rVar 2) rNil)) (rC (.int 1))) (rC (.int 2))) (xs := xs) (m := ((w.length : Int) + 1) / 2) (var_of rfl) rfl (em _ rfl _) (by omega)
  have hr : 2 * r.toNat < w.length := by omega
  obtain ⟨v, ev, hs⟩ := h.vs r.toNat hr
  have e2 : eBin g_mulA (ofR (rC (.int 2))) (eCallB 2 f__law_take (eCons (ofR (rVar 0)) (eCons (ofR (rBin g_div (rBin g_addA (rCal gLen (rCons (rVar 2) rNil)) (rC (.int 1))) (rC (.int 2)))) (ofRA rNil)))) (slots 9 [.rf 0, eW n A T, eT w]) [.lst (xs.map .int)] = some (.int (2 * r), [.lst (xs1.map .int)]) := ebin_of (ofR_of c_of) e1 (mul_ii 2 r (by decide) (by omega))
  have hix : ∀ G, ixA G (eT w) (.int (2 * r)) = some (.int v) := fun G => ix_of (x := .v v) (j := 2 * r.toNat) (by omega) ev
  have hsd : ∀ G, rCallP 2 f__law_sides (rCons (rVar 1) (rCons (rBin ixA (rVar 2) (rVar 3)) rNil)) [some (.rf 0), some (eW n A T), some (eT w), some (.int (2 * r)), none, none, none, none, none] G = some (.fl ((sides A T v).map eS)) := fun G =>
    callP_of (ds := [eW n A T, .int v]) (cons_of (var_of rfl) (cons_of (bin_of (var_of rfl) (var_of rfl) (hix _)) nil_of)) (by simp [ims, eW_im, D.im]) rfl (sides_P v (by omega) (by omega))
  have hpos : 0 < (sides A T v).length := List.length_pos_iff.mpr hs
  obtain ⟨q, xs2, e3, q0, q1⟩ := tk_of (δ := [some (.rf 0), some (eW n A T), some (eT w), some (.int (2 * r)), some (.fl ((sides A T v).map eS)), none, none, none, none]) (G := [.lst (xs1.map .int)]) (k := 0) (fo := rVar 0) (fm := rCal gLen (rCons (rVar 4) rNil)) (xs := xs1) (m := (sides A T v).length) (var_of rfl) rfl (cal1_of (var_of rfl) ((len_fl _).trans (by rw [List.length_map]))) (by omega)
  obtain ⟨sd, hm, hsx⟩ := sd_ix (G := [.lst (xs2.map .int)]) q0 q1
  have c1 : cutI w none (some (2 * r + 1)) = w.take (2 * r.toNat + 1) := by
    unfold cutI
    rw [HT.sIx_none, show (2 * r + 1) = ((2 * r.toNat + 1 : Nat) : Int) by omega, HT.sIx_nat]
    rw [List.drop_zero, Nat.sub_zero, Nat.min_eq_left (by omega)]
  have c2 : cutI w (some (2 * r)) none = w.drop (2 * r.toNat) := by
    unfold cutI
    rw [HT.sIx_none, show (2 * r) = ((2 * r.toNat : Nat) : Int) by omega, HT.sIx_nat, Nat.min_eq_left (by omega)]
    refine List.take_of_length_le ?_
    rw [List.length_drop]
    omega
  have hres : ∀ G, rBin g_addA (rBin g_addA (FL.rSlT (rVar 2) (partD none) (partD (some (rBin g_addA (rVar 3) (rC (.int 1)))))) (rTup (rCons (rVar 5) (rCons (rVar 7) (rCons (rCallP 1 f__law_back (rCons (rVar 5) rNil)) rNil))))) (FL.rSlT (rVar 2) (partD (some (rVar 3))) (partD none))
      [some (.rf 0), some (eW n A T), some (eT w), some (.int (2 * r)), some (.fl ((sides A T v).map eS)), some (.str sd.1.s), some (.bl sd.2.1), some (.int sd.2.2.1), some (.bl sd.2.2.2)] G = some (eT (lgr w r.toNat sd.1 sd.2.2.1)) := fun G => by
    have l1 := cut_len w none (some (2 * r + 1))
    have l2 := cut_len w (some (2 * r)) none
    refine (bin_of (bin_of (slT_of (w := w) (hi := some (2 * r + 1)) (var_of rfl) pN_of (pS_of (bin_of (var_of rfl) c_of (add_ii _ _)))) (tup_of (cons_of (var_of rfl) (cons_of (var_of rfl) (cons_of (callP_of (ds := [.str sd.1.s]) (cons_of (var_of rfl) nil_of) rfl rfl (back_P sd.1)) nil_of))) (by simp)) (catT (b := [.k sd.1, .v sd.2.2.1, .k (flipK sd.1)]) (by simp only [List.length_cons, List.length_nil]; omega))) (slT_of (w := w) (lo := some (2 * r)) (var_of rfl) (pS_of (var_of rfl)) pN_of) (catT (by simp only [List.length_append, List.length_cons, List.length_nil]; omega))).trans ?_
    rw [c1, c2]
    rfl
  refine ⟨lgr w r.toNat sd.1 sd.2.2.1, xs2, ?_, h.lgr g hr ev hm, lgr_len hr _ _⟩
  have hb : b__law_longer (slots 9 [.rf 0, eW n A T, eT w]) [.lst (xs.map .int)] = some (.rt (eT (lgr w r.toNat sd.1 sd.2.2.1)), [some (.rf 0), some (eW n A T), some (eT w), some (.int (2 * r)), some (.fl ((sides A T v).map eS)), some (.str sd.1.s), some (.bl sd.2.1), some (.int sd.2.2.1), some (.bl sd.2.2.2)], [.lst (xs2.map .int)]) :=
    (sq_nx (asg_of e2 (by show (3 : Nat) < 9; decide))).trans ((sq_nx (asg_of (ofR_of (hsd _)) (by show (4 : Nat) < 9; decide))).trans ((sq_nx (asg4_of (ebin_of (ofR_of (var_of rfl)) e3 hsx) (by show (5 : Nat) < 9; decide) (by show (6 : Nat) < 9; decide) (by show (7 : Nat) < 9; decide) (by show (8 : Nat) < 9; decide))).trans (ret_of (ofR_of (hres _)))))
  show ((b__law_longer (slots 9 [.rf 0, eW n A T, eT w]) [.lst (xs.map .int)]).bind _) = _
  rw [hb]
  show gcD 1 (eT (lgr w r.toNat sd.1 sd.2.2.1)) _ = _
  have im : (eT (lgr w r.toNat sd.1 sd.2.2.1)).im = true := eT_im _
  unfold gcD
  simp [im, GO.flat, ims_int]
theorem repr3 (p q r : Bool) : ∃ x, (∀ G, gRepr G [.fl [.bl p, .bl q, .bl r]] = some (.str x)) ∧ (∀ G, G[0]? = some (.lst [.bl p, .bl q, .bl r]) → gReprA G [.rf 0] = some (.str x)) ∧ PyData.strOk x = true := by
  have hc : (D.fl [.bl p, .bl q, .bl r]).ok = true ∧ (D.fl [.bl p, .bl q, .bl r]).sh = true ∧ (D.fl [.bl p, .bl q, .bl r]).dep ≤ 60 ∧ (D.fl [.bl p, .bl q, .bl r]).py.shown.length ≤ 10000000 := by
    cases p <;> cases q <;> cases r <;> exact ⟨by decide +kernel, by decide +kernel, by decide +kernel, by decide +kernel⟩
  refine ⟨(D.fl [.bl p, .bl q, .bl r]).py.shown, fun G => repr_of hc, fun G hG => ?_, by cases p <;> cases q <;> cases r <;> decide +kernel⟩
  have e1 : gRepr G [.rf 0] = none := rfl
  show (match gRepr G [.rf 0] with | some d => some d | none => gReprR G [.rf 0]) = _
  rw [e1]
  show gReprR G [.rf 0] = _
  unfold gReprR
  simp only [hG]
  rw [if_pos hc]
/-- two variables, and a lot without them -/
structure Pr (n : Nat) (a b : Int) (gv : List Int) : Prop where
  s3 : gv.Pairwise (· < ·)
  ra : 0 ≤ a ∧ a < n
  rb : 0 ≤ b ∧ b < n
  r3 : ∀ v ∈ gv, 0 ≤ v ∧ v < n
  ne : a ≠ b
  na : a ∉ gv
  nb : b ∉ gv
theorem Pr.swap {a b : Int} (h : Pr n a b gv) : Pr n b a gv := ⟨h.s3, h.rb, h.ra, h.r3, fun e => h.ne e.symm, h.nb, h.na⟩
theorem Pr.lots {a b : Int} (h : Pr n a b gv) : Lots n [a] [b] gv where
  s1 := by simp
  s2 := by simp
  s3 := h.s3
  r1 := fun v hv => by simp at hv; subst hv; exact h.ra
  r2 := fun v hv => by simp at hv; subst hv; exact h.rb
  r3 := h.r3
  n1 := by simp
  n2 := by simp
  dj := by
    have := pw_nd h.s3
    simp [h.ne, h.na, h.nb, this]
theorem eqb_2 (a b c d : Int) : eqb (.tup [.int a, .int b]) (.tup [.int c, .int d]) = decide ((a, b) = (c, d)) := eqb_P (a, b) (c, d)
theorem judged_P (g : Good n A T) {a b : Int} (hp : Pr n a b gv) {w : List I0} (hl : w.length ≤ 200) : f__law_is_judged [eW n A T, .int a, .int b, .tup (gv.map .int), eT w] = some (.bl true) := by
  have ig : (D.tup (gv.map .int)).im = true := by simp [D.im, ims_int]
  have ew : (eW n A T).im = true := eW_im n A T
  have emm : (eM n A T).im = true := eM_im n A T
  have et : (eT w).im = true := eT_im w
  have iw : ims [eW n A T, eT w] = true := by simp [ims, ew, et]
  have im : ims [eM n A T, eT w] = true := by simp [ims, emm, et]
  have e1 : sPar 6 7 (eCons (ofR (rCallP 1 f__law_made (rCons (rVar 0) rNil))) (eCons (eLst (eCons (ofR (rCallP 2 f__law_is_walk (rCons (rVar 0) (rCons (rVar 4) rNil)))) (eCons (ofR (rCallP 3 f__law_is_open (rCons (rVar 0) (rCons (rVar 4) (rCons (rVar 3) rNil))))) (ofRA rNil)))) (ofRA rNil))) (slots 8 [eW n A T, .int a, .int b, .tup (gv.map .int), eT w]) [] =
      some (.nx, [some (eW n A T), some (.int a), some (.int b), some (.tup (gv.map .int)), some (eT w), none, some (eM n A T), some (.rf 0)], [.lst [.bl (Wk n A T w), .bl (Opn n A T gv w)]]) := by
    refine par_of (econs_of (ofR_of (callP_of (ds := [eW n A T]) (cons_of (var_of rfl) nil_of) (by simp [ims, ew]) rfl (made_P g))) (econs_of (G1 := [.lst [.bl (Wk n A T w), .bl (Opn n A T gv w)]]) (d := .rf 0) ?_ enil_of)) ⟨by show (6 : Nat) < 8; decide, by show (7 : Nat) < 8; decide⟩
    have e0 : eCons (ofR (rCallP 2 f__law_is_walk (rCons (rVar 0) (rCons (rVar 4) rNil)))) (eCons (ofR (rCallP 3 f__law_is_open (rCons (rVar 0) (rCons (rVar 4) (rCons (rVar 3) rNil))))) (ofRA rNil)) (slots 8 [eW n A T, .int a, .int b, .tup (gv.map .int), eT w]) [] = some ([.bl (Wk n A T w), .bl (Opn n A T gv w)], []) :=
      econs_of (ofR_of (callP_of (ds := [eW n A T, eT w]) (cons_of (var_of rfl) (cons_of (var_of rfl) nil_of)) iw rfl (law_is_walk_P g w hl))) (econs_of (ofR_of (callP_of (ds := [eW n A T, eT w, .tup (gv.map .int)]) (cons_of (var_of rfl) (cons_of (var_of rfl) (cons_of (var_of rfl) nil_of))) (by simp [ims, ew, et, ig]) rfl (law_is_open_P g w gv hl))) enil_of)
    unfold eLst
    rw [e0]
    rfl
  have e2 : ∃ c : Bool, c = (Opn n A T gv w && (memO [a] w[0]? && memO [b] w.getLast?)) ∧ rAndV (rBin ixA (rVar 7) (rC (.int 1))) (rBin g_eq (rTup (rCons (rBin ixA (rVar 4) (rC (.int 0))) (rCons (rBin ixA (rVar 4) (rNeg (rC (.int 1)))) rNil))) (rTup (rCons (rVar 1) (rCons (rVar 2) rNil)))) [some (eW n A T), some (.int a), some (.int b), some (.tup (gv.map .int)), some (eT w), none, some (eM n A T), some (.rf 0)] [.lst [.bl (Wk n A T w), .bl (Opn n A T gv w)]] = some (.bl c) := by
    refine ⟨_, rfl, andV_of (bin_of (var_of rfl) c_of ((ixA_rf (k := 0) (ds := [.bl (Wk n A T w), .bl (Opn n A T gv w)]) _ rfl).trans (at_1 _ _ _))) fun ho => ?_⟩
    have hwk : Wk n A T w = true := by
      unfold Opn at ho
      simp only [Bool.and_eq_true, Bool.not_eq_true', Bool.or_eq_false_iff, Bool.not_eq_false'] at ho
      exact ho.1.1
    have hlw := (wk_parts hwk).1
    obtain ⟨x, ex⟩ := isV_even (wk_parts hwk).2.1 (i := 0) (by omega)
    obtain ⟨y, ey⟩ := wk_last hwk
    have ex : w[0]? = some (.v x) := ex
    have i0 : ∀ G, ixA G (eT w) (.int 0) = some (.int x) := fun G => ix_of (x := .v x) (j := 0) (by omega) ex
    have i1 : ∀ G, ixA G (eT w) (.int (-1)) = some (.int y) := fun G => last_of (x := .v y) ey
    rw [ex, ey]
    refine bin_of (tup_of (cons_of (bin_of (var_of rfl) c_of (i0 _)) (cons_of (bin_of (var_of rfl) rfl (i1 _)) nil_of)) (by simp)) (tup_of (cons_of (var_of rfl) (cons_of (var_of rfl) nil_of)) (by simp)) ?_
    rw [eq_of (by rfl) (by rfl) (by show (1 : Nat) ≤ 60; decide) (by show (1 : Nat) ≤ 60; decide), eqb_2]
    congr 2
    simp only [memO, List.mem_singleton, Prod.mk.injEq, Bool.decide_and]
  obtain ⟨c, hc, e2⟩ := e2
  obtain ⟨x, x1, x2, x3⟩ := repr3 (Wk n A T w) (Opn n A T gv w) c
  have e3 : rFl (rCons (rCallP 2 f_is_walk (rCons (rVar 6) (rCons (rVar 4) rNil))) (rCons (rCallP 3 f_is_open (rCons (rVar 6) (rCons (rVar 4) (rCons (rVar 3) rNil)))) (rCons (rCallP 5 f_is_apart (rCons (rVar 6) (rCons (rTup (rCons (rVar 1) rNil)) (rCons (rTup (rCons (rVar 2) rNil)) (rCons (rVar 3) (rCons (rTup (rCons (rC (.str "open")) (rCons (rVar 4) rNil))) rNil)))))) rNil)))
      [some (eW n A T), some (.int a), some (.int b), some (.tup (gv.map .int)), some (eT w), none, some (eM n A T), some (.rf 0)] [.lst [.bl (Wk n A T w), .bl (Opn n A T gv w), .bl c]] = some (.fl [.bl (Wk n A T w), .bl (Opn n A T gv w), .bl c]) := by
    refine fl_of (cons_of (callP_of (ds := [eM n A T, eT w]) (cons_of (var_of rfl) (cons_of (var_of rfl) nil_of)) im rfl (is_walk_P w hl)) (cons_of (callP_of (ds := [eM n A T, eT w, .tup (gv.map .int)]) (cons_of (var_of rfl) (cons_of (var_of rfl) (cons_of (var_of rfl) nil_of))) (by simp [ims, emm, et, ig]) rfl (is_open_P w gv hl)) (cons_of (callP_of (ds := [eM n A T, .tup [.int a], .tup [.int b], .tup (gv.map .int), .tup [.str "open", eT w]]) (cons_of (var_of rfl) (cons_of (tup_of (cons_of (var_of rfl) nil_of) (by simp)) (cons_of (tup_of (cons_of (var_of rfl) nil_of) (by simp)) (cons_of (var_of rfl) (cons_of (tup_of (cons_of c_of (cons_of (var_of rfl) nil_of)) (by simp)) nil_of))))) (by simp [ims, D.im, emm, ims_int]; exact et) rfl ?_) nil_of))) (by simp)
    rw [hc]
    exact is_apart_O (one := [a]) (other := [b]) g hp.lots hl
  exact fnP_of ((sq_nx e1).trans ((sq_nx (exp_of (app_of (k := 0) (var_of rfl) rfl (econs1_of (ofR_of e2)) rfl (by simp)))).trans ((sq_nx (asg_of (ofR_of e3) (by show (5 : Nat) < 8; decide))).trans (ret_of (ofR_of (bin_of (cal1_of (var_of rfl) (x1 _)) (cal1_of (var_of rfl) (x2 _ rfl)) ((s_eq x x ⟨x3, x3⟩).trans (by rw [decide_eq_true rfl])))))))) rfl
end
end K30
namespace FL
open PySem PySem.Spec PyProof.Rows L2
theorem lcE_all {α β : Type} {set : Sets} {elt : EE} {δ : Env'} (e : α → D) (eo : β → D) (P : β → Prop) : ∀ (xs : List α) (dr : List Int),
    (∀ x ∈ xs, ∃ δ1, set (e x) δ = some δ1 ∧ ∀ dr : List Int, ∃ (y : β) (dr2 : List Int), P y ∧ elt δ1 [.lst (dr.map .int)] = some (eo y, [.lst (dr2.map .int)])) →
    ∃ (ys : List β) (dr' : List Int), lcE set cYesE elt (xs.map e) δ [.lst (dr.map .int)] = some (ys.map eo, [.lst (dr'.map .int)]) ∧ (∀ y ∈ ys, P y) ∧ ys.length = xs.length
  | [], dr, _ => ⟨[], dr, rfl, (fun _ h => by cases h), rfl⟩
  | x :: xs, dr, h => by
    obtain ⟨δ1, h1, h2⟩ := h x List.mem_cons_self
    obtain ⟨y, dr2, h5, h6⟩ := h2 dr
    obtain ⟨ys, dr', h7, h8, h9⟩ := lcE_all e eo P xs dr2 fun z hz => h z (List.mem_cons_of_mem _ hz)
    refine ⟨y :: ys, dr', ?_, fun z hz => ?_, by simp [h9]⟩
    · rw [List.map_cons, lcE, h1, Option.bind_some]
      rw [show cYesE δ1 [.lst (dr.map .int)] = some (true, [.lst (dr.map .int)]) from rfl, Option.bind_some, if_pos rfl, h6, Option.bind_some, h7]
      rfl
    · rcases List.mem_cons.mp hz with rfl | hz
      · exact h5
      · exact h8 z hz
end FL
namespace K30
open PySem PySem.Spec PyProof.Rows L2 FL
theorem eT_ok (w : List I0) : (eT w).ok = true := by
  show oks (w.map eI) = true
  exact oks_map eI_ok w
theorem eT_dep (w : List I0) : (eT w).dep ≤ 1 := by
  show deps (w.map eI) + 1 ≤ 1
  have := deps_map (e := eI) (n := 0) eI_dep w
  omega
theorem ne_nil {G : Hs} (L : List (List I0)) : g_ne G (.fl (L.map eT)) (.fl []) = some (.bl (!L.isEmpty)) := by
  have ho : (D.fl (L.map eT)).ok = true := by
    show oks (L.map eT) = true
    exact oks_map eT_ok L
  have hd : (D.fl (L.map eT)).dep ≤ 60 := by
    show deps (L.map eT) + 1 ≤ 60
    have := deps_map (e := eT) (n := 1) eT_dep L
    omega
  rw [ne_of' ho rfl hd (by show deps [] + 1 ≤ 60; decide)]
  congr 2
  cases L <;> rfl
section
variable {n : Nat} {A T : List (Int × Int)} {gv one other : List Int}
theorem lg_of (g : Good n A T) {w : List I0} (h : Vw A T w) (hl : w.length ≤ 190) {δ : Env'} {fo fw fh : RE} {xs : List Int} (h0 : fo δ [.lst (xs.map .int)] = some (.rf 0)) (h1 : fw δ [.lst (xs.map .int)] = some (eW n A T)) (h7 : fh δ [.lst (xs.map .int)] = some (eT w)) :
    ∃ (w' : List I0) (xs' : List Int), eCallB 3 f__law_longer (eCons (ofR fo) (eCons (ofR fw) (eCons (ofR fh) (ofRA rNil)))) δ [.lst (xs.map .int)] = some (eT w', [.lst (xs'.map .int)]) ∧ Vw A T w' ∧ w'.length = w.length + 4 := by
  obtain ⟨w', xs', e, h2, h3⟩ := longer_P g h hl xs
  have ew : (eW n A T).im = true := eW_im n A T
  have et : (eT w).im = true := eT_im w
  exact ⟨w', xs', callB_of (econs_of (ofR_of h0) (econs_of (ofR_of h1) (econs_of (ofR_of h7) enil_of))) rfl (by simp [ims, ew, et]) rfl (flat_int _) e (flat_int _) (eT_im w'), h2, h3⟩
theorem jd_of (g : Good n A T) {a b : Int} (hp : Pr n a b gv) {w : List I0} (hl : w.length ≤ 200) {δ : Env'} {G : Hs} {f1 f2 f3 f4 f5 : RE} (h1 : f1 δ G = some (eW n A T)) (h2 : f2 δ G = some (.int a)) (h3 : f3 δ G = some (.int b)) (h4 : f4 δ G = some (.tup (gv.map .int))) (h5 : f5 δ G = some (eT w)) :
    rNot (rTru (rCallP 5 f__law_is_judged (rCons f1 (rCons f2 (rCons f3 (rCons f4 (rCons f5 rNil))))))) δ G = some false := by
  have ew : (eW n A T).im = true := eW_im n A T
  have et : (eT w).im = true := eT_im w
  have ig : (D.tup (gv.map .int)).im = true := by simp [D.im, ims_int]
  exact not_f (tru_of (callP_of (ds := [eW n A T, .int a, .int b, .tup (gv.map .int), eT w]) (cons_of h1 (cons_of h2 (cons_of h3 (cons_of h4 (cons_of h5 nil_of))))) (by simp [ims, ew, et, D.im, ims_int]) rfl (judged_P g hp hl)) rfl)
theorem walks_P (g : Good n A T) {a b : Int} (hp : Pr n a b gv) {w : List I0} (hk : Wk n A T w = true) (ho : Opn n A T gv w = true) (hl : w.length ≤ 41) (h0 : w[0]? = some (.v a)) (h1 : w.getLast? = some (.v b)) (xs : List Int) :
    ∃ xs' : List Int, f__law_are_walks_right [.rf 0, eW n A T, .int a, .int b, .tup (gv.map .int), eT w] [.lst (xs.map .int)] = some (.bl true, [.lst (xs'.map .int)]) := by
  have hv := vw_wk g hk
  have hvt := hv.turn
  have hlt : (turn w).length = w.length := turn_len w
  have hlp := (wk_parts hk).1
  have t0 : (turn w)[0]? = some (.v b) := by
    rw [turn_get (by omega), Nat.sub_zero, ← List.getLast?_eq_getElem?, h1]
    rfl
  have t1 : (turn w).getLast? = some (.v a) := by
    rw [List.getLast?_eq_getElem?, turn_len, turn_get (by omega), Nat.sub_self, h0]
    rfl
  have inner : ∀ (h : List I0) (p q : Int) (o8 o11 : Option D) (xs : List Int), Vw A T h → h.length ≤ 41 → h[0]? = some (.v p) → h.getLast? = some (.v q) → Pr n p q gv → ∃ (o8' o11' : Option D) (xs' : List Int), forL (setN 8) (sSeq (sAsg (eCallB 3 f__law_longer (eCons (ofR (rVar 0)) (eCons (ofR (rVar 1)) (eCons (ofR (rVar 7)) (ofRA rNil))))) (setN 11))
    (sIf (ofRT (rNot (rTru (rCallP 5 f__law_is_judged (rCons (rVar 1) (rCons (rBin ixA (rVar 7) (rC (.int 0))) (rCons (rBin ixA (rVar 7) (rNeg (rC (.int 1)))) (rCons (rVar 4) (rCons (rVar 11) rNil)))))))))
     (sRet (ofR (rC (.bl false))))
     FL.sNil)) ((List.range (4 : Int).toNat).map fun i : Nat => D.int (0 + (i : Int))) [some (.rf 0), some (eW n A T), some (.int a), some (.int b), some (.tup (gv.map .int)), some (eT w), some (eT (turn w)), some (eT h), o8, none, none, o11, none] [.lst (xs.map .int)] =
      some (.nx, [some (.rf 0), some (eW n A T), some (.int a), some (.int b), some (.tup (gv.map .int)), some (eT w), some (eT (turn w)), some (eT h), o8', none, none, o11', none], [.lst (xs'.map .int)]) := by
    intro h p q o8 o11 xs hv hl h0 h1 hp
    obtain ⟨δ1, G1, e1, o8', o11', xs', rfl, rfl⟩ := forL_fold (set := setN 8) (b := (sSeq (sAsg (eCallB 3 f__law_longer (eCons (ofR (rVar 0)) (eCons (ofR (rVar 1)) (eCons (ofR (rVar 7)) (ofRA rNil))))) (setN 11))
    (sIf (ofRT (rNot (rTru (rCallP 5 f__law_is_judged (rCons (rVar 1) (rCons (rBin ixA (rVar 7) (rC (.int 0))) (rCons (rBin ixA (rVar 7) (rNeg (rC (.int 1)))) (rCons (rVar 4) (rCons (rVar 11) rNil)))))))))
     (sRet (ofR (rC (.bl false))))
     FL.sNil))) (fun i : Nat => D.int (0 + (i : Int))) (fun (u : Unit) _ => u) (fun k u δ G => ∃ (o8 o11 : Option D) (xs : List Int), δ = [some (.rf 0), some (eW n A T), some (.int a), some (.int b), some (.tup (gv.map .int)), some (eT w), some (eT (turn w)), some (eT h), o8, none, none, o11, none] ∧ G = [.lst (xs.map .int)]) (List.range (4 : Int).toNat) () _ [.lst (xs.map .int)] ⟨o8, o11, xs, rfl, rfl⟩ fun i hi k u δ G ⟨o8, o11, xs, hδ, hG⟩ => by
        subst hδ hG
        refine ⟨_, rfl, ?_⟩
        obtain ⟨w', xs', e, hv', hl'⟩ := lg_of g hv (by omega) (δ := [some (.rf 0), some (eW n A T), some (.int a), some (.int b), some (.tup (gv.map .int)), some (eT w), some (eT (turn w)), some (eT h), some (.int (0 + (i : Int))), none, none, o11, none]) (fo := rVar 0) (fw := rVar 1) (fh := rVar 7) (xs := xs) (var_of rfl) (var_of rfl) (var_of rfl)
        exact ⟨_, _, (sq_nx (asg_of e (by show (11 : Nat) < 13; decide))).trans ((if_f (ofRT_of (jd_of g hp (w := w') (by omega) (var_of rfl) (bin_of (var_of rfl) c_of (ix_of (x := .v p) (j := 0) (by omega) h0)) (bin_of (var_of rfl) rfl (last_of (x := .v q) h1)) (var_of rfl) (var_of rfl)))).trans rfl), _, _, xs', rfl, rfl⟩
    exact ⟨o8', o11', xs', e1⟩
  obtain ⟨δ1, G1, e1, o7, o8, o11, xs1, rfl, rfl⟩ := forL_fold (set := setN 7) (b := (sSeq (sIf (ofRT (rOr (rNot (rTru (rCallP 5 f__law_is_judged (rCons (rVar 1) (rCons (rVar 2) (rCons (rVar 3) (rCons (rVar 4) (rCons (rVar 7) rNil)))))))) (rNot (rTru (rCallP 5 f__law_is_judged (rCons (rVar 1) (rCons (rVar 3) (rCons (rVar 2) (rCons (rVar 4) (rCons (rVar 7) rNil))))))))))
    (sRet (ofR (rC (.bl false))))
    FL.sNil)
   (sFor (ofRA (iRgR rng1 (rCons (rC (.int 4)) rNil))) (setN 8)
    (sSeq (sAsg (eCallB 3 f__law_longer (eCons (ofR (rVar 0)) (eCons (ofR (rVar 1)) (eCons (ofR (rVar 7)) (ofRA rNil))))) (setN 11))
    (sIf (ofRT (rNot (rTru (rCallP 5 f__law_is_judged (rCons (rVar 1) (rCons (rBin ixA (rVar 7) (rC (.int 0))) (rCons (rBin ixA (rVar 7) (rNeg (rC (.int 1)))) (rCons (rVar 4) (rCons (rVar 11) rNil)))))))))
     (sRet (ofR (rC (.bl false))))
     FL.sNil))))) eT (fun (u : Unit) _ => u) (fun k u δ G => ∃ (o7 o8 o11 : Option D) (xs : List Int), δ = [some (.rf 0), some (eW n A T), some (.int a), some (.int b), some (.tup (gv.map .int)), some (eT w), some (eT (turn w)), o7, o8, none, none, o11, none] ∧ G = [.lst (xs.map .int)]) [w, turn w] () [some (.rf 0), some (eW n A T), some (.int a), some (.int b), some (.tup (gv.map .int)), some (eT w), some (eT (turn w)), none, none, none, none, none, none] [.lst (xs.map .int)] ⟨none, none, none, xs, rfl, rfl⟩ fun h hh k u δ G ⟨o7, o8, o11, xs, hδ, hG⟩ => by
      subst hδ hG
      refine ⟨_, rfl, ?_⟩
      have hh' : ∃ p q, Vw A T h ∧ h.length ≤ 41 ∧ h[0]? = some (.v p) ∧ h.getLast? = some (.v q) ∧ Pr n p q gv := by
        simp only [List.mem_cons, List.not_mem_nil, or_false] at hh
        rcases hh with rfl | rfl
        · exact ⟨a, b, hv, hl, h0, h1, hp⟩
        · exact ⟨b, a, hvt, by omega, t0, t1, hp.swap⟩
      obtain ⟨p, q, c1, c2, c3, c4, c5⟩ := hh'
      obtain ⟨o8', o11', xs', hin⟩ := inner h p q o8 o11 xs c1 c2 c3 c4 c5
      have tj : rOr (rNot (rTru (rCallP 5 f__law_is_judged (rCons (rVar 1) (rCons (rVar 2) (rCons (rVar 3) (rCons (rVar 4) (rCons (rVar 7) rNil)))))))) (rNot (rTru (rCallP 5 f__law_is_judged (rCons (rVar 1) (rCons (rVar 3) (rCons (rVar 2) (rCons (rVar 4) (rCons (rVar 7) rNil)))))))) [some (.rf 0), some (eW n A T), some (.int a), some (.int b), some (.tup (gv.map .int)), some (eT w), some (eT (turn w)), some (eT h), o8, none, none, o11, none] [.lst (xs.map .int)] = some false :=
        or_of (b := false) (c := false) (jd_of g hp (w := h) (by omega) (var_of rfl) (var_of rfl) (var_of rfl) (var_of rfl) (var_of rfl)) fun _ => jd_of g hp.swap (w := h) (by omega) (var_of rfl) (var_of rfl) (var_of rfl) (var_of rfl) (var_of rfl)
      exact ⟨_, _, (sq_nx ((if_f (ofRT_of tj)).trans rfl)).trans ((for_nx (ofRA_of (rg1_of (j := 4) c_of (by decide) (by decide)))).trans hin), _, _, _, xs', rfl, rfl⟩
  obtain ⟨δ2, G2, e2, h2, o8', o9, o10, xs2, rfl, rfl, _⟩ := forL_fold (set := setN 8) (b := (sSeq (sAsg (eLc (ofRA (iRgR rng1 (rCons (rC (.int 5)) rNil))) (setN 12) cYesE (eCallB 3 f__law_longer (eCons (ofR (rVar 0)) (eCons (ofR (rVar 1)) (eCons (ofR (rVar 7)) (ofRA rNil))))) [12]) (setN 9))
   (sSeq (sAsg (ofR (rLc (iLstR (rVar 9)) (setN 2) (rTru (rCallP 3 f__law_is_open (rCons (rVar 1) (rCons (rVar 2) (rCons (rVar 4) rNil))))) (rVar 2) [2])) (setN 10))
   (sSeq (sAsg (ofR (rIf (rB (rBin g_ne (rVar 10) (rFl rNil))) (rBin ixA (rVar 10) (rC (.int 0))) (rIf (rB (rBin g_gtA (rVar 8) (rC (.int 19)))) (rBin ixA (rVar 9) (rC (.int 0))) (rVar 7)))) (setN 7))
   (sIf (ofRT (rNot (rTru (rCallP 5 f__law_is_judged (rCons (rVar 1) (rCons (rBin ixA (rVar 5) (rC (.int 0))) (rCons (rBin ixA (rVar 5) (rNeg (rC (.int 1)))) (rCons (rVar 4) (rCons (rVar 7) rNil)))))))))
    (sRet (ofR (rC (.bl false))))
    FL.sNil))))) (fun i : Nat => D.int (0 + (i : Int))) (fun (u : Unit) _ => u) (fun k u δ G => ∃ (h : List I0) (o8 o9 o10 : Option D) (xs : List Int), δ = [some (.rf 0), some (eW n A T), some (.int a), some (.int b), some (.tup (gv.map .int)), some (eT w), some (eT (turn w)), some (eT h), o8, o9, o10, o11, none] ∧ G = [.lst (xs.map .int)] ∧ Vw A T h ∧ h.length + 4 * k ≤ 41 + 4 * 22) (List.range (22 : Int).toNat) () [some (.rf 0), some (eW n A T), some (.int a), some (.int b), some (.tup (gv.map .int)), some (eT w), some (eT (turn w)), some (eT w), o8, none, none, o11, none] [.lst (xs1.map .int)]
    ⟨w, o8, none, none, xs1, rfl, rfl, hv, by rw [List.length_range]; show w.length + 4 * 22 ≤ _; omega⟩ fun i hi k u δ G ⟨h, o8, o9, o10, xs, hδ, hG, hvh, hlh⟩ => by
      subst hδ hG
      refine ⟨_, rfl, ?_⟩
      obtain ⟨ys, dr, ey, hy, hylen⟩ := lcE_all (set := setN 12) (elt := eCallB 3 f__law_longer (eCons (ofR (rVar 0)) (eCons (ofR (rVar 1)) (eCons (ofR (rVar 7)) (ofRA rNil))))) (δ := [some (.rf 0), some (eW n A T), some (.int a), some (.int b), some (.tup (gv.map .int)), some (eT w), some (eT (turn w)), some (eT h), some (.int (0 + (i : Int))), o9, o10, o11, none]) (fun i : Nat => D.int (0 + (i : Int))) eT (fun w' : List I0 => Vw A T w' ∧ w'.length = h.length + 4) (List.range (5 : Int).toNat) xs fun j hj => ⟨_, rfl, fun dr => by
        obtain ⟨w', xs', e, c1, c2⟩ := lg_of g hvh (by omega) (δ := [some (.rf 0), some (eW n A T), some (.int a), some (.int b), some (.tup (gv.map .int)), some (eT w), some (eT (turn w)), some (eT h), some (.int (0 + (i : Int))), o9, o10, o11, some (.int (0 + (j : Int)))]) (fo := rVar 0) (fw := rVar 1) (fh := rVar 7) (xs := dr) (var_of rfl) (var_of rfl) (var_of rfl)
        exact ⟨w', xs', ⟨c1, c2⟩, e⟩⟩
      have a1 := elc_of (vs := [12]) (δ := [some (.rf 0), some (eW n A T), some (.int a), some (.int b), some (.tup (gv.map .int)), some (eT w), some (eT (turn w)), some (eT h), some (.int (0 + (i : Int))), o9, o10, o11, none]) (ofRA_of (rg1_of (j := 5) c_of (by decide) (by decide))) (by rw [List.length_map, List.length_range]; decide) ey
      have ew : (eW n A T).im = true := eW_im n A T
      have ig : (D.tup (gv.map .int)).im = true := by simp [D.im, ims_int]
      have a2 : ∀ G, rLc (iLstR (rVar 9)) (setN 2) (rTru (rCallP 3 f__law_is_open (rCons (rVar 1) (rCons (rVar 2) (rCons (rVar 4) rNil))))) (rVar 2) [2] [some (.rf 0), some (eW n A T), some (.int a), some (.int b), some (.tup (gv.map .int)), some (eT w), some (eT (turn w)), some (eT h), some (.int (0 + (i : Int))), some (.fl (ys.map eT)), o10, o11, none] G = some (.fl ((ys.filter fun y => Opn n A T gv y).map eT)) := fun G =>
        rlc_of eT (fun y => [some (.rf 0), some (eW n A T), some (eT y), some (.int b), some (.tup (gv.map .int)), some (eT w), some (eT (turn w)), some (eT h), some (.int (0 + (i : Int))), some (.fl (ys.map eT)), o10, o11, none]) (fun y => Opn n A T gv y) eT ys (ilst_of (var_of rfl) rfl) (by rw [hylen, List.length_range]; decide) fun y hy' => by
          have et : (eT y).im = true := eT_im y
          have := (hy y hy').2
          exact ⟨rfl, tru_of (callP_of (ds := [eW n A T, eT y, .tup (gv.map .int)]) (cons_of (var_of rfl) (cons_of (var_of rfl) (cons_of (var_of rfl) nil_of))) (by simp [ims, ew, et, ig]) rfl (law_is_open_P g y gv (by omega))) rfl, fun _ => var_of rfl⟩
      have a3 : ∃ h' : List I0, (Vw A T h' ∧ h'.length ≤ h.length + 4) ∧ ∀ G, rIf (rB (rBin g_ne (rVar 10) (rFl rNil))) (rBin ixA (rVar 10) (rC (.int 0))) (rIf (rB (rBin g_gtA (rVar 8) (rC (.int 19)))) (rBin ixA (rVar 9) (rC (.int 0))) (rVar 7)) [some (.rf 0), some (eW n A T), some (.int a), some (.int b), some (.tup (gv.map .int)), some (eT w), some (eT (turn w)), some (eT h), some (.int (0 + (i : Int))), some (.fl (ys.map eT)), some (.fl ((ys.filter fun y => Opn n A T gv y).map eT)), o11, none] G = some (eT h') := by
        have tn : ∀ G, rB (rBin g_ne (rVar 10) (rFl rNil)) [some (.rf 0), some (eW n A T), some (.int a), some (.int b), some (.tup (gv.map .int)), some (eT w), some (eT (turn w)), some (eT h), some (.int (0 + (i : Int))), some (.fl (ys.map eT)), some (.fl ((ys.filter fun y => Opn n A T gv y).map eT)), o11, none] G = some (!(ys.filter fun y => Opn n A T gv y).isEmpty) := fun G => b_of (bin_of (var_of rfl) (fl_of nil_of (by simp)) (ne_nil _))
        have hm : ∀ y, y ∈ (ys.filter fun y => Opn n A T gv y) → Vw A T y ∧ y.length = h.length + 4 := fun y hy' => hy y (List.mem_filter.mp hy').1
        revert tn hm
        generalize (ys.filter fun y => Opn n A T gv y) = gs
        intro tn hm
        cases gs with
        | cons y gs =>
          have := hm y List.mem_cons_self
          exact ⟨y, ⟨this.1, by omega⟩, fun G => (rif_t (tn G)).trans (bin_of (var_of rfl) c_of ((ixA_fl _ _).trans (at_0 _ _)))⟩
        | nil =>
          have tg : ∀ G, rB (rBin g_gtA (rVar 8) (rC (.int 19))) [some (.rf 0), some (eW n A T), some (.int a), some (.int b), some (.tup (gv.map .int)), some (eT w), some (eT (turn w)), some (eT h), some (.int (0 + (i : Int))), some (.fl (ys.map eT)), some (.fl (([] : List (List I0)).map eT)), o11, none] G = some (decide ((19 : Int) < 0 + (i : Int))) := fun G => b_of (bin_of (var_of rfl) c_of (gt_ii _ _))
          by_cases h19 : (19 : Int) < 0 + (i : Int)
          · rw [decide_eq_true h19] at tg
            cases ys with
            | nil => rw [List.length_range] at hylen; simp at hylen
            | cons y ys =>
              have := hy y List.mem_cons_self
              exact ⟨y, ⟨this.1, by omega⟩, fun G => (rif_f (tn G)).trans ((rif_t (tg G)).trans (bin_of (var_of rfl) c_of ((ixA_fl _ _).trans (at_0 _ _))))⟩
          · rw [decide_eq_false h19] at tg
            exact ⟨h, ⟨hvh, by omega⟩, fun G => (rif_f (tn G)).trans ((rif_f (tg G)).trans (var_of rfl))⟩
      obtain ⟨h', ⟨c1, c2⟩, a3⟩ := a3
      exact ⟨_, _, (sq_nx (asg_of a1 (by show (9 : Nat) < 13; decide))).trans ((sq_nx (asg_of (ofR_of (a2 _)) (by show (10 : Nat) < 13; decide))).trans ((sq_nx (asg_of (ofR_of (a3 _)) (by show (7 : Nat) < 13; decide))).trans ((if_f (ofRT_of (jd_of g hp (w := h') (by omega) (var_of rfl) (bin_of (var_of rfl) c_of (ix_of (x := .v a) (j := 0) (by omega) h0)) (bin_of (var_of rfl) rfl (last_of (x := .v b) h1)) (var_of rfl) (var_of rfl)))).trans rfl))), h', _, _, _, dr, rfl, rfl, c1, by omega⟩
  have ew : (eW n A T).im = true := eW_im n A T
  have et : (eT (turn w)).im = true := eT_im _
  have ig : (D.tup (gv.map .int)).im = true := by simp [D.im, ims_int]
  refine ⟨xs2, ?_⟩
  have hb : b__law_are_walks_right (slots 13 [.rf 0, eW n A T, .int a, .int b, .tup (gv.map .int), eT w]) [.lst (xs.map .int)] = some (.rt (.bl true), _, [.lst (xs2.map .int)]) :=
    (sq_nx (asg_of (ofR_of (callP_of (ds := [eT w]) (cons_of (var_of rfl) nil_of) (by simp [ims]; exact eT_im w) rfl (turned_P hv.alt (by omega)))) (by show (6 : Nat) < 13; decide))).trans
    ((sq_nx ((for_nx (ofRA_of (itup_of (xs := [w, turn w].map eT) (tup_of (cons_of (var_of rfl) (cons_of (var_of rfl) nil_of)) (by simp))))).trans e1)).trans
    ((sq_nx (asg_of (ofR_of (var_of rfl)) (by show (7 : Nat) < 13; decide))).trans
    ((sq_nx ((for_nx (ofRA_of (rg1_of (j := 22) c_of (by decide) (by decide)))).trans e2)).trans
    (ret_of (ofR_of (callP_of (ds := [eW n A T, eT (turn w), .tup (gv.map .int)]) (cons_of (var_of rfl) (cons_of (var_of rfl) (cons_of (var_of rfl) nil_of))) (by simp [ims, ew, et, ig]) rfl ((law_is_open_P g (turn w) gv (by omega)).trans (by rw [turn_opn gv hk, ho]))))))))
  show ((b__law_are_walks_right (slots 13 [.rf 0, eW n A T, .int a, .int b, .tup (gv.map .int), eT w]) [.lst (xs.map .int)]).bind _) = _
  rw [hb]
  show gcD 1 (.bl true) _ = _
  unfold gcD
  simp [D.im, GO.flat, ims_int]
end
end K30
namespace FL
open PySem PySem.Spec PyProof.Rows L2
theorem lcE_sub {α : Type} {set : Sets} {cond : ET} {elt : EE} {δ : Env'} {tl : Hs} (e : α → D) : ∀ (xs : List α) (dr : List Int),
    (∀ x ∈ xs, ∃ δ1, set (e x) δ = some δ1 ∧ ∀ dr : List Int, ∃ (c : Bool) (dr1 : List Int), cond δ1 (.lst (dr.map .int) :: tl) = some (c, (.lst (dr1.map .int) :: tl)) ∧ elt δ1 (.lst (dr1.map .int) :: tl) = some (e x, (.lst (dr1.map .int) :: tl))) →
    ∃ (ys : List α) (dr' : List Int), lcE set cond elt (xs.map e) δ (.lst (dr.map .int) :: tl) = some (ys.map e, (.lst (dr'.map .int) :: tl)) ∧ ys.Sublist xs
  | [], dr, _ => ⟨[], dr, rfl, List.Sublist.refl _⟩
  | x :: xs, dr, h => by
    obtain ⟨δ1, h1, h2⟩ := h x List.mem_cons_self
    obtain ⟨c, dr1, h3, h4⟩ := h2 dr
    obtain ⟨ys, dr', h7, h8⟩ := lcE_sub e xs dr1 fun z hz => h z (List.mem_cons_of_mem _ hz)
    cases c with
    | true =>
      refine ⟨x :: ys, dr', ?_, h8.cons_cons x⟩
      rw [List.map_cons, lcE, h1, Option.bind_some, h3, Option.bind_some, if_pos rfl, h4, Option.bind_some, h7]
      rfl
    | false =>
      refine ⟨ys, dr', ?_, h8.cons x⟩
      rw [List.map_cons, lcE, h1, Option.bind_some, h3, Option.bind_some, if_neg (by simp)]
      exact h7
end FL
namespace K30
open PySem PySem.Spec PyProof.Rows L2 FL
def leI (a b : Int) : Bool := decide (a ≤ b)
theorem sort_I {G : Hs} {d : D} {L : List Int} (h : lstG G d = some (L.map .int)) (hl : L.length ≤ 1000000) : gSortedA G [d] = some (.fl ((L.mergeSort leI).map .int)) := by
  have so : sortable (L.map D.int) = true := by
    unfold sortable
    simp only [List.all_map, Bool.and_eq_true, List.all_eq_true, Function.comp_apply, Bool.or_eq_true, decide_eq_true_eq, List.length_map]
    exact ⟨⟨⟨fun x _ y _ => rfl, fun x _ => ⟨rfl, Nat.zero_le _⟩⟩, by omega⟩, .inr fun x _ => trivial⟩
  have e2 : gSorted G [d] = some (.fl ((L.mergeSort leI).map .int)) := by
    unfold gSorted
    simp only [h, Option.bind_some]
    rw [if_pos so]
    unfold srtd
    rw [← List.map_mergeSort]
    intro x _ y _
    show leI x y = !(PyProof.Rows.lexLt PyProof.Rows.itemOrd [.inl y] [.inl x])
    rw [PyProof.Rows.lex_cons]
    show decide (x ≤ y) = !(decide (y < x) || (!decide (x < y) && false))
    rw [Bool.and_false, Bool.or_false, ← decide_not]
    exact decide_eq_decide.mpr (by omega)
  show (match gSorted G [d] with | some d => some d | none => gSortedN G [d]) = _
  rw [e2]
theorem sortI_perm (L : List Int) : (L.mergeSort leI).Perm L := List.mergeSort_perm L leI
theorem sortI_lt {L : List Int} (nd : L.Nodup) : (L.mergeSort leI).Pairwise (· < ·) := by
  have h1 : (L.mergeSort leI).Pairwise fun a b => leI a b = true := List.pairwise_mergeSort (le := leI) (fun a b c h1 h2 => by
    simp only [leI, decide_eq_true_eq] at h1 h2 ⊢
    omega) (fun a b => by
    simp only [leI, Bool.or_eq_true, decide_eq_true_eq]
    omega) L
  have h2 : (L.mergeSort leI).Nodup := (sortI_perm L).nodup_iff.mpr nd
  exact (List.pairwise_and_iff.mpr ⟨h1, h2⟩).imp fun {a b} h => by
    have := h.1
    simp only [leI, decide_eq_true_eq] at this
    omega
theorem good_gen {m : Nat} (h2 : 2 ≤ m) (hm : m ≤ 6) {ord : List Int} (ho : ord.Perm (upto m)) {IA IT : List (Nat × Nat)} (pos0 : Nat → Nat) (memA : ∀ p ∈ IA, p.1 < m ∧ p.2 < m ∧ pos0 p.1 < pos0 p.2) (memT : ∀ p ∈ IT, p.1 < p.2 ∧ p.2 < m) (nA : IA.Nodup) (nT : IT.Nodup) (lA : IA.length ≤ 15) (lT : IT.length ≤ 6) : Good m ((IA.map (fA ord)).mergeSort leP) ((IT.map (fT ord)).mergeSort leP) := by
  have ol : ord.length = m := by rw [ho.length_eq, upto_len]
  have ond : ord.Nodup := ho.nodup_iff.mpr (upto_nd m)
  have og_eq : ∀ i (h : i < m), og ord i = ord[i]'(by omega) := fun i h => by
    unfold og
    rw [List.getD_eq_getElem?_getD, List.getElem?_eq_getElem (by omega)]
    rfl
  have og_rg : ∀ i < m, 0 ≤ og ord i ∧ og ord i < m := fun i h => by
    rw [og_eq i h]
    exact mem_upto.mp (ho.mem_iff.mp (List.getElem_mem _))
  have og_inj : ∀ i < m, ∀ j < m, og ord i = og ord j → i = j := fun i hi j hj e => by
    rw [og_eq i hi, og_eq j hj] at e
    exact (List.getElem_inj ond).mp e
  have ndA : (IA.map (fA ord)).Nodup := nodup_map (fun x hx y hy e => by
    have h1 := memA x hx
    have h2 := memA y hy
    simp only [fA, Prod.mk.injEq] at e
    exact Prod.ext (og_inj _ (by omega) _ (by omega) e.1) (og_inj _ (by omega) _ (by omega) e.2)) nA
  have ndT : (IT.map (fT ord)).Nodup := nodup_map (fun x hx y hy e => by
    have h1 := memT x hx
    have h2 := memT y hy
    have i1 := og_inj x.1 (by omega) y.1 (by omega)
    have i2 := og_inj x.2 (by omega) y.2 (by omega)
    have i3 := og_inj x.1 (by omega) y.2 (by omega)
    have i4 := og_inj x.2 (by omega) y.1 (by omega)
    simp only [fT, Prod.mk.injEq, mn, mx] at e
    have key : (og ord x.1 = og ord y.1 ∧ og ord x.2 = og ord y.2) ∨ (og ord x.1 = og ord y.2 ∧ og ord x.2 = og ord y.1) := by
      revert e
      generalize og ord x.1 = a
      generalize og ord x.2 = b
      generalize og ord y.1 = c
      generalize og ord y.2 = d
      intro e
      omega
    rcases key with ⟨k1, k2⟩ | ⟨k1, k2⟩
    · exact Prod.ext (i1 k1) (i2 k2)
    · have := i3 k1
      have := i4 k2
      omega) nT
  refine ⟨h2, hm, sort_lt ndA, sort_lt ndT, fun p hp => ?_, fun p hp => ?_, ?_, ?_, ?_⟩
  · obtain ⟨q, hq, rfl⟩ := List.mem_map.mp ((sort_perm _).mem_iff.mp hp)
    have h1 := memA q hq
    have r1 := og_rg q.1 (by omega)
    have r2 := og_rg q.2 (by omega)
    exact ⟨r1.1, r1.2, r2.1, r2.2, fun e => by have := og_inj _ (by omega) _ (by omega) e; rw [this] at h1; omega⟩
  · obtain ⟨q, hq, rfl⟩ := List.mem_map.mp ((sort_perm _).mem_iff.mp hp)
    have h1 := memT q hq
    have r1 := og_rg q.1 (by omega)
    have r2 := og_rg q.2 (by omega)
    have ne : og ord q.1 ≠ og ord q.2 := fun e => by have := og_inj _ (by omega) _ (by omega) e; omega
    simp only [fT, mn, mx]
    revert r1 r2 ne
    generalize og ord q.1 = a
    generalize og ord q.2 = b
    intro r1 r2 ne
    omega
  · rw [List.length_mergeSort, List.length_map]
    exact lA
  · rw [List.length_mergeSort, List.length_map]
    exact lT
  · refine ⟨fun v => pos0 (List.idxOf v ord), fun p hp => ?_⟩
    obtain ⟨q, hq, rfl⟩ := List.mem_map.mp ((sort_perm _).mem_iff.mp hp)
    have h1 := memA q hq
    simp only [fA]
    rw [og_eq q.1 (by omega), og_eq q.2 (by omega), ond.idxOf_getElem, ond.idxOf_getElem]
    exact h1.2.2
def nP (p : Nat × Nat) : Int × Int := (p.1, p.2)
theorem og_ix {G : Hs} {ord : List Int} {i : Nat} (hi : i < ord.length) : ixA G (.fl (ord.map .int)) (.int (i : Int)) = some (.int (og ord i)) := by
  rw [ixA_fl, at_nat, List.getElem?_map, List.getElem?_eq_getElem hi]
  unfold og
  rw [List.getD_eq_getElem?_getD, List.getElem?_eq_getElem hi]
  rfl
theorem renamed_P {m : Nat} {ord : List Int} (hl : ord.length = m) {IA IT : List (Nat × Nat)} (memA : ∀ p ∈ IA, p.1 < m ∧ p.2 < m) (memT : ∀ p ∈ IT, p.1 < m ∧ p.2 < m) (lA : IA.length ≤ 15) (lT : IT.length ≤ 6) :
    f__law_renamed [.tup [.int m, .fl (IA.map fun p => eP (nP p)), .fl (IT.map fun p => eP (nP p))], .fl (ord.map .int)] = some (eW m ((IA.map (fA ord)).mergeSort leP) ((IT.map (fT ord)).mergeSort leP)) := by
  have h1 : rLc (iLstR (rBin ixA (rVar 0) (rC (.int 1)))) (setTup [(setN 4), (setN 5)]) cYes (rTup (rCons (rBin ixA (rVar 1) (rVar 4)) (rCons (rBin ixA (rVar 1) (rVar 5)) rNil))) [4, 5] (slots 6 [.tup [.int m, .fl (IA.map fun p => eP (nP p)), .fl (IT.map fun p => eP (nP p))], .fl (ord.map .int)]) [] = some (.fl ((IA.map (fA ord)).map eP)) := by
    refine (rlc_of (fun p => eP (nP p)) (fun p => [some (.tup [.int m, .fl (IA.map fun p => eP (nP p)), .fl (IT.map fun p => eP (nP p))]), some (.fl (ord.map .int)), none, none, some (.int (p.1 : Nat)), some (.int (p.2 : Nat))]) (fun _ => true) (fun p => eP (fA ord p)) IA (ilst_of (bin_of (var_of rfl) c_of ((ixA_tup _ _).trans (at_1 _ _ _))) rfl) (by omega) fun p hp => ⟨rfl, rfl, fun _ => ?_⟩).trans ?_
    · have := memA p hp
      exact tup_of (cons_of (bin_of (var_of rfl) (var_of rfl) (og_ix (by omega))) (cons_of (bin_of (var_of rfl) (var_of rfl) (og_ix (by omega))) nil_of)) (by simp)
    · rw [List.filter_eq_self.mpr (fun _ _ => rfl), List.map_map]
      rfl
  have h2 : rLc (iLstR (rBin ixA (rVar 0) (rC (.int 2)))) (setTup [(setN 4), (setN 5)]) cYes (rTup (rCons (rCal gMin2 (rCons (rBin ixA (rVar 1) (rVar 4)) (rCons (rBin ixA (rVar 1) (rVar 5)) rNil))) (rCons (rCal gMax2 (rCons (rBin ixA (rVar 1) (rVar 4)) (rCons (rBin ixA (rVar 1) (rVar 5)) rNil))) rNil))) [4, 5] [some (.tup [.int m, .fl (IA.map fun p => eP (nP p)), .fl (IT.map fun p => eP (nP p))]), some (.fl (ord.map .int)), some (.fl (((IA.map (fA ord)).mergeSort leP).map eP)), none, none, none] [] = some (.fl ((IT.map (fT ord)).map eP)) := by
    refine (rlc_of (fun p => eP (nP p)) (fun p => [some (.tup [.int m, .fl (IA.map fun p => eP (nP p)), .fl (IT.map fun p => eP (nP p))]), some (.fl (ord.map .int)), some (.fl (((IA.map (fA ord)).mergeSort leP).map eP)), none, some (.int (p.1 : Nat)), some (.int (p.2 : Nat))]) (fun _ => true) (fun p => eP (fT ord p)) IT (ilst_of (bin_of (var_of rfl) c_of ((ixA_tup _ _).trans (at_2 _ _ _ _))) rfl) (by omega) fun p hp => ⟨rfl, rfl, fun _ => ?_⟩).trans ?_
    · have := memT p hp
      exact tup_of (cons_of (cal2_of (bin_of (var_of rfl) (var_of rfl) (og_ix (by omega))) (bin_of (var_of rfl) (var_of rfl) (og_ix (by omega))) rfl) (cons_of (cal2_of (bin_of (var_of rfl) (var_of rfl) (og_ix (by omega))) (bin_of (var_of rfl) (var_of rfl) (og_ix (by omega))) rfl) nil_of)) (by simp)
    · rw [List.filter_eq_self.mpr (fun _ _ => rfl), List.map_map]
      rfl
  exact fnP_of ((sq_nx (asg_of (ofR_of (cal1_of h1 (sort_P (L := IA.map (fA ord)) rfl (by rw [List.length_map]; omega)))) (by show (2 : Nat) < 6; decide))).trans ((sq_nx (asg_of (ofR_of (cal1_of h2 (sort_P (L := IT.map (fT ord)) rfl (by rw [List.length_map]; omega)))) (by show (3 : Nat) < 6; decide))).trans
    (ret_of (ofR_of (tup_of (cons_of (bin_of (var_of rfl) c_of ((ixA_tup _ _).trans (at_0 _ _))) (cons_of (cal1_of (var_of rfl) (gtup_fl _)) (cons_of (cal1_of (var_of rfl) (gtup_fl _)) nil_of))) (by simp)))))) (eW_im _ _ _)
/-- the written forms: variables, arrows, ties, what is given, places -/
structure Fm where
  m : Nat
  a : List (Nat × Nat)
  t : List (Nat × Nat)
  g : List Nat
  pos : List Nat
def FORMS : List Fm :=
  [⟨4, [(0, 2), (1, 2), (2, 3)], [], [3], [0, 1, 2, 3, 4, 5]⟩, ⟨5, [(0, 2), (1, 2), (2, 3), (3, 4)], [], [4], [0, 1, 2, 3, 4, 5]⟩, ⟨6, [(0, 2), (1, 2), (2, 3), (3, 4), (4, 5)], [], [5], [0, 1, 2, 3, 4, 5]⟩,
   ⟨6, [(0, 2), (3, 2), (3, 4), (1, 4), (2, 5), (4, 5)], [], [5], [0, 1, 3, 2, 4, 5]⟩, ⟨6, [(0, 2), (2, 4), (3, 5)], [(1, 3), (2, 3)], [4, 5], [0, 1, 2, 3, 4, 5]⟩, ⟨5, [(0, 2), (2, 3)], [(1, 2), (3, 4)], [3], [0, 1, 2, 3, 4, 5]⟩, ⟨6, [(2, 3), (4, 5)], [(0, 2), (2, 4), (1, 4)], [3, 5], [0, 1, 2, 3, 4, 5]⟩]
def Fm.ok (f : Fm) : Bool := decide (2 ≤ f.m ∧ f.m ≤ 6) && (f.a.all fun p => decide (p.1 < f.m ∧ p.2 < f.m ∧ f.pos.getD p.1 0 < f.pos.getD p.2 0)) && (f.t.all fun p => decide (p.1 < p.2 ∧ p.2 < f.m)) && decide (f.a.Nodup ∧ f.t.Nodup ∧ f.g.Nodup) && decide (f.a.length ≤ 15 ∧ f.t.length ≤ 6) && (f.g.all fun v => decide (2 ≤ v ∧ v < f.m))
def eF (f : Fm) : D := .tup [.tup [.int f.m, .fl (f.a.map fun p => eP (nP p)), .fl (f.t.map fun p => eP (nP p))], .fl (f.g.map fun v => .int (v : Nat))]
theorem forms_ok : FORMS.all Fm.ok = true := by decide +kernel
theorem forms_P : f__law_forms [] = some (.fl (FORMS.map eF)) := by
  rfl
end K30
namespace K30
open PySem PySem.Spec PyProof.Rows L2 FL
theorem cut2 (ord : List Int) : FL.cutD (ord.map D.int) (some 2) none = (ord.drop 2).map .int := by
  unfold FL.cutD
  rw [HT.sIx_none, show (2 : Int) = ((2 : Nat) : Int) from rfl, HT.sIx_nat, List.length_map, ← List.map_drop, ← List.map_take]
  congr 1
  by_cases h : 2 ≤ ord.length
  · rw [Nat.min_eq_left h]
    exact List.take_of_length_le (by rw [List.length_drop]; omega)
  · rw [Nat.min_eq_right (by omega), List.drop_eq_nil_of_le (Nat.le_refl _), List.drop_eq_nil_of_le (by omega)]
    simp
theorem case_P (xs : List Int) : ∃ (n : Nat) (A T : List (Int × Int)) (a b : Int) (gv xs' : List Int), f__law_case [.rf 0] [.lst (xs.map .int)] = some (.tup [eW n A T, .int a, .int b, .tup (gv.map .int)], [.lst (xs'.map .int)]) ∧ Good n A T ∧ Pr n a b gv := by
  obtain ⟨r, xs1, e1, r0, r1⟩ := tk_of (δ := slots 7 [.rf 0]) (G := [.lst (xs.map .int)]) (k := 0) (fo := rVar 0) (fm := rC (.int 10)) (xs := xs) (m := 10) (var_of rfl) rfl c_of (by decide)
  have t : rB (rBin g_gtA (rVar 1) (rC (.int 6))) [some (.rf 0), some (.int r), none, none, none, none, none] [.lst (xs1.map .int)] = some (decide (6 < r)) := b_of (bin_of (var_of rfl) c_of (gt_ii _ _))
  have fin : ∀ (n : Nat) (A T : List (Int × Int)) (a b : Int) (gv xs' : List Int) (δ : Env') (tl : Hs), b__law_case (slots 7 [.rf 0]) [.lst (xs.map .int)] = some (.rt (.tup [eW n A T, .int a, .int b, .tup (gv.map .int)]), δ, .lst (xs'.map .int) :: tl) → f__law_case [.rf 0] [.lst (xs.map .int)] = some (.tup [eW n A T, .int a, .int b, .tup (gv.map .int)], [.lst (xs'.map .int)]) := fun n A T a b gv xs' δ tl h => by
    show ((b__law_case (slots 7 [.rf 0]) [.lst (xs.map .int)]).bind _) = _
    rw [h]
    show gcD 1 (.tup [eW n A T, .int a, .int b, .tup (gv.map .int)]) _ = _
    have ew : (eW n A T).im = true := eW_im n A T
    unfold gcD
    simp [D.im, ims, ew, GO.flat, ims_int]
  by_cases hr : 6 < r
  · -- a drawn web
    rw [decide_eq_true hr] at t
    obtain ⟨q, xs2, e2, q0, q1⟩ := tk_of (δ := [some (.rf 0), some (.int r), none, none, none, none, none]) (G := [.lst (xs1.map .int)]) (k := 0) (fo := rVar 0) (fm := rC (.int 4)) (xs := xs1) (m := 4) (var_of rfl) rfl c_of (by decide)
    obtain ⟨m, hm⟩ : ∃ m : Nat, 3 + q = (m : Int) := ⟨(3 + q).toNat, by omega⟩
    have e3 : eBin g_addA (ofR (rC (.int 3))) (eCallB 2 f__law_take (eCons (ofR (rVar 0)) (eCons (ofR (rC (.int 4))) (ofRA rNil)))) [some (.rf 0), some (.int r), none, none, none, none, none] [.lst (xs1.map .int)] = some (.int m, [.lst (xs2.map .int)]) := ebin_of (ofR_of c_of) e2 ((add_ii _ _).trans (by rw [hm]))
    obtain ⟨th, xs3, e4, _, _⟩ := tk_of (δ := [some (.rf 0), some (.int r), none, some (.int m), none, none, none]) (G := [.lst (xs2.map .int)]) (k := 0) (fo := rVar 0) (fm := rC (.int 5)) (xs := xs2) (m := 5) (var_of rfl) rfl c_of (by decide)
    obtain ⟨ti, xs4, e5, _, _⟩ := tk_of (δ := [some (.rf 0), some (.int r), none, some (.int m), none, none, none]) (G := [.lst (xs3.map .int)]) (k := 0) (fo := rVar 0) (fm := rC (.int 4)) (xs := xs3) (m := 4) (var_of rfl) rfl c_of (by decide)
    obtain ⟨A, T, xs5, e6, g⟩ := lweb_P (m := m) (by omega) (by omega) (1 + th) ti xs4
    obtain ⟨ord, xs6, e7, hp⟩ := order_P m (by omega) xs5
    have ol : ord.length = m := by rw [hp.length_eq, upto_len]
    have ond : ord.Nodup := hp.nodup_iff.mpr (upto_nd m)
    have e8 : eCallB 4 f__law_web (eCons (ofR (rVar 0)) (eCons (ofR (rVar 3)) (eCons (eBin g_addA (ofR (rC (.int 1))) (eCallB 2 f__law_take (eCons (ofR (rVar 0)) (eCons (ofR (rC (.int 5))) (ofRA rNil))))) (eCons (eCallB 2 f__law_take (eCons (ofR (rVar 0)) (eCons (ofR (rC (.int 4))) (ofRA rNil)))) (ofRA rNil))))) [some (.rf 0), some (.int r), none, some (.int m), none, none, none] [.lst (xs2.map .int)] = some (eW m A T, [.lst (xs5.map .int)]) :=
      callB_of (k := 0) (o := .lst (xs4.map .int)) (econs_of (ofR_of (var_of rfl)) (econs_of (ofR_of (var_of rfl)) (econs_of (ebin_of (ofR_of c_of) e4 (add_ii _ _)) (econs_of e5 enil_of)))) rfl rfl rfl (flat_int _) e6 (flat_int _) (eW_im _ _ _)
    have e9 : eCallB 2 f__law_order (eCons (ofR (rVar 0)) (eCons (ofR (rVar 3)) (ofRA rNil))) [some (.rf 0), some (.int r), none, some (.int m), none, none, none] [.lst (xs5.map .int)] = some (.rf 1, [.lst (xs6.map .int), .lst (ord.map .int)]) :=
      callB_new (k := 0) (o := .lst (xs5.map .int)) (econs_of (ofR_of (var_of rfl)) (econs_of (ofR_of (var_of rfl)) enil_of)) rfl rfl rfl (flat_int _) e7 (flat_int _) (flat_int _)
    have e10 := frz_of (i := 2) (k := 1) (ds := ord.map .int) (asgT_of (i := 5) (j := 2) (etup_of (econs_of e8 (econs_of e9 enil_of)) (by simp)) (by show (5 : Nat) < 7; decide) (by show (2 : Nat) < 7; decide)) rfl rfl
    obtain ⟨gs, xs7, e11, hsub⟩ := lcE_sub (set := setN 6) (cond := eB (eBin g_eq (eCallB 2 f__law_take (eCons (ofR (rVar 0)) (eCons (ofR (rC (.int 2))) (ofRA rNil)))) (ofR (rC (.int 0))))) (elt := ofR (rVar 6)) (δ := [some (.rf 0), some (.int r), some (.fl (ord.map .int)), some (.int m), none, some (eW m A T), none]) (tl := [.dead]) D.int (ord.drop 2) xs6 fun x hx => ⟨_, rfl, fun dr => by
      obtain ⟨q, dr1, e, _, _⟩ := tk_of (δ := [some (.rf 0), some (.int r), some (.fl (ord.map .int)), some (.int m), none, some (eW m A T), some (.int x)]) (G := .lst (dr.map .int) :: [.dead]) (k := 0) (fo := rVar 0) (fm := rC (.int 2)) (xs := dr) (m := 2) (var_of rfl) rfl c_of (by decide)
      exact ⟨_, dr1, eb_of (ebin_of e (ofR_of c_of) (eq_ii _ _)), ofR_of (var_of rfl)⟩⟩
    have hsl : iFlE (ofR (FL.rSlL (rVar 2) (partD (some (rC (.int 2)))) (partD none))) [some (.rf 0), some (.int r), some (.fl (ord.map .int)), some (.int m), none, some (eW m A T), none] [.lst (xs6.map .int), .dead] = some ((ord.drop 2).map .int, [.lst (xs6.map .int), .dead]) := by
      have : FL.rSlL (rVar 2) (partD (some (rC (.int 2)))) (partD none) [some (.rf 0), some (.int r), some (.fl (ord.map .int)), some (.int m), none, some (eW m A T), none] [.lst (xs6.map .int), .dead] = some (.fl ((ord.drop 2).map .int)) := by
        rw [← cut2]
        rfl
      unfold iFlE ofR
      rw [this]
      rfl
    have e12 := elc_of (vs := [6]) (δ := [some (.rf 0), some (.int r), some (.fl (ord.map .int)), some (.int m), none, some (eW m A T), none]) hsl (by rw [List.length_map, List.length_drop]; omega) e11
    have g0 : og ord 0 = ord[0]'(by omega) := by unfold og; rw [List.getD_eq_getElem?_getD, List.getElem?_eq_getElem (by omega)]; rfl
    have g1 : og ord 1 = ord[1]'(by omega) := by unfold og; rw [List.getD_eq_getElem?_getD, List.getElem?_eq_getElem (by omega)]; rfl
    refine ⟨m, A, T, og ord 0, og ord 1, gs.mergeSort leI, xs7, fin _ _ _ _ _ _ _ _ [.dead] ((sq_nx (asg_of e1 (by show (1 : Nat) < 7; decide))).trans (sq_rt ((if_t (ofRT_of t)).trans ((sq_nx (asg_of e3 (by show (3 : Nat) < 7; decide))).trans ((sq_nx e10).trans ((sq_nx (asg_of e12 (by show (4 : Nat) < 7; decide))).trans (ret_of (ofR_of (tup_of (cons_of (var_of rfl) (cons_of (bin_of (var_of rfl) c_of (og_ix (i := 0) (by omega))) (cons_of (bin_of (var_of rfl) c_of (og_ix (i := 1) (by omega))) (cons_of (cal1_of (cal1_of (var_of rfl) (sort_I (L := gs) rfl (by have := hsub.length_le; rw [List.length_drop] at this; omega))) (gtup_fl _)) nil_of)))) (by simp)))))))))), g, ?_⟩
    have hdec : ord = ord[0]'(by omega) :: ord[1]'(by omega) :: ord.drop 2 := by
      match ord, ol with
      | [], h => simp at h; omega
      | [_], h => simp at h; omega
      | x :: y :: l, _ => rfl
    rw [hdec] at ond
    have n1 := List.nodup_cons.mp ond
    have n2 := List.nodup_cons.mp n1.2
    have rg : ∀ x ∈ ord, 0 ≤ x ∧ x < m := fun x hx => mem_upto.mp (hp.mem_iff.mp hx)
    have gsm : ∀ x ∈ gs.mergeSort leI, x ∈ ord.drop 2 := fun x hx => hsub.subset ((sortI_perm gs).mem_iff.mp hx)
    exact ⟨sortI_lt (n2.2.sublist hsub), by rw [g0]; exact rg _ (List.getElem_mem _), by rw [g1]; exact rg _ (List.getElem_mem _), fun x hx => rg x (List.mem_of_mem_drop (gsm x hx)), by rw [g0, g1]; exact fun z => n1.1 (by rw [z]; exact List.mem_cons_self), by rw [g0]; exact fun z => n1.1 (List.mem_cons_of_mem _ (gsm _ z)), by rw [g1]; exact fun z => n2.1 (gsm _ z)⟩
  · -- a written form
    rw [decide_eq_false hr] at t
    obtain ⟨f, hf, hix⟩ : ∃ f ∈ FORMS, ∀ G, ixA G (.fl (FORMS.map eF)) (.int r) = some (eF f) := by
      have hl : r.toNat < FORMS.length := by show r.toNat < 7; omega
      exact ⟨FORMS[r.toNat], List.getElem_mem _, fun G => (ixA_fl _ _).trans (by rw [at_int _ r0, List.getElem?_map, List.getElem?_eq_getElem hl]; rfl)⟩
    have ok := List.all_eq_true.mp forms_ok f hf
    unfold Fm.ok at ok
    simp only [Bool.and_eq_true, decide_eq_true_eq, List.all_eq_true] at ok
    obtain ⟨⟨⟨⟨⟨hm, oA⟩, oT⟩, oN⟩, oL⟩, oG⟩ := ok
    obtain ⟨ord, xs2, e7, hp⟩ := order_P f.m (by omega) xs1
    have ol : ord.length = f.m := by rw [hp.length_eq, upto_len]
    have ond : ord.Nodup := hp.nodup_iff.mpr (upto_nd f.m)
    have og_eq : ∀ i (h : i < f.m), og ord i = ord[i]'(by omega) := fun i h => by
      unfold og
      rw [List.getD_eq_getElem?_getD, List.getElem?_eq_getElem (by omega)]
      rfl
    have og_rg : ∀ i < f.m, 0 ≤ og ord i ∧ og ord i < f.m := fun i h => by
      rw [og_eq i h]
      exact mem_upto.mp (hp.mem_iff.mp (List.getElem_mem _))
    have og_inj : ∀ i < f.m, ∀ j < f.m, og ord i = og ord j → i = j := fun i hi j hj e => by
      rw [og_eq i hi, og_eq j hj] at e
      exact (List.getElem_inj ond).mp e
    have fim : ims (FORMS.map eF) = true := by decide +kernel
    have ef : ∀ G, rBin ixA (rCallP 0 f__law_forms rNil) (rVar 1) [some (.rf 0), some (.int r), none, none, none, none, none] G = some (eF f) := fun G =>
      bin_of (callP_of (ds := []) nil_of rfl rfl forms_P) (var_of rfl) (hix _)
    have e8 : sAsg (eCallB 2 f__law_order (eCons (ofR (rVar 0)) (eCons (ofR (rBin ixA (rVar 5) (rC (.int 0)))) (ofRA rNil)))) (setN 2) [some (.rf 0), some (.int r), none, none, some (.fl (f.g.map fun v => .int (v : Nat))), some (.tup [.int f.m, .fl (f.a.map fun p => eP (nP p)), .fl (f.t.map fun p => eP (nP p))]), none] [.lst (xs1.map .int)] = _ :=
      asg_of (callB_new (k := 0) (o := .lst (xs1.map .int)) (econs_of (ofR_of (var_of rfl)) (econs_of (ofR_of (bin_of (var_of rfl) c_of ((ixA_tup _ _).trans (at_0 _ _)))) enil_of)) rfl rfl rfl (flat_int _) e7 (flat_int _) (flat_int _)) (by show (2 : Nat) < 7; decide)
    have e9 := frz_of (i := 2) (k := 1) (ds := ord.map .int) e8 rfl rfl
    have elc : ∀ G, rLc (iLstR (rVar 4)) (setN 6) cYes (rBin ixA (rVar 2) (rVar 6)) [6] [some (.rf 0), some (.int r), some (.fl (ord.map .int)), none, some (.fl (f.g.map fun v => .int (v : Nat))), some (.tup [.int f.m, .fl (f.a.map fun p => eP (nP p)), .fl (f.t.map fun p => eP (nP p))]), none] G = some (.fl ((f.g.map (og ord)).map .int)) := fun G => by
      have gl : f.g.length ≤ 10000000 := by
        have : ∀ f ∈ FORMS, f.g.length ≤ 10000000 := by decide +kernel
        exact this f hf
      refine (rlc_of (fun v : Nat => D.int (v : Nat)) (fun v => [some (.rf 0), some (.int r), some (.fl (ord.map .int)), none, some (.fl (f.g.map fun v => .int (v : Nat))), some (.tup [.int f.m, .fl (f.a.map fun p => eP (nP p)), .fl (f.t.map fun p => eP (nP p))]), some (.int (v : Nat))]) (fun _ => true) (fun v => .int (og ord v)) f.g (ilst_of (var_of rfl) rfl) gl fun v hv => ⟨rfl, rfl, fun _ => bin_of (var_of rfl) (var_of rfl) (og_ix (by have := oG v hv; omega))⟩).trans ?_
      rw [List.filter_eq_self.mpr (fun _ _ => rfl), List.map_map]
      rfl
    have iA : ims (f.a.map fun p => eP (nP p)) = true := ims_map (e := fun p => eP (nP p)) (fun _ => rfl) _
    have iT : ims (f.t.map fun p => eP (nP p)) = true := ims_map (e := fun p => eP (nP p)) (fun _ => rfl) _
    refine ⟨f.m, (f.a.map (fA ord)).mergeSort leP, (f.t.map (fT ord)).mergeSort leP, og ord 0, og ord 1, (f.g.map (og ord)).mergeSort leI, xs2, fin _ _ _ _ _ _ _ _ [.dead] ((sq_nx (asg_of e1 (by show (1 : Nat) < 7; decide))).trans ((sq_nx ((if_f (ofRT_of t)).trans rfl)).trans ((sq_nx (asgT_of (i := 5) (j := 4) (ofR_of (ef _)) (by show (5 : Nat) < 7; decide) (by show (4 : Nat) < 7; decide))).trans ((sq_nx e9).trans (ret_of (ofR_of (tup_of (cons_of (callP_of (ds := [.tup [.int f.m, .fl (f.a.map fun p => eP (nP p)), .fl (f.t.map fun p => eP (nP p))], .fl (ord.map .int)]) (cons_of (var_of rfl) (cons_of (var_of rfl) nil_of)) (by simp [ims, D.im, iA, iT, ims_int]) rfl (renamed_P ol (fun p hp => ⟨(oA p hp).1, (oA p hp).2.1⟩) (fun p hp => ⟨by have := oT p hp; omega, (oT p hp).2⟩) oL.1 oL.2)) (cons_of (bin_of (var_of rfl) c_of (og_ix (i := 0) (by omega))) (cons_of (bin_of (var_of rfl) c_of (og_ix (i := 1) (by omega))) (cons_of (cal1_of (cal1_of (elc _) (sort_I (L := f.g.map (og ord)) rfl ?_)) (gtup_fl _)) nil_of)))) (by simp)))))))), good_gen hm.1 hm.2 hp (fun i => f.pos.getD i 0) oA oT oN.1 oN.2.1 oL.1 oL.2, ?_⟩
    · rw [List.length_map]
      have : ∀ f ∈ FORMS, f.g.length ≤ 1000000 := by decide +kernel
      exact this f hf
    · have gsm : ∀ x ∈ (f.g.map (og ord)).mergeSort leI, ∃ v ∈ f.g, x = og ord v := fun x hx => by
        obtain ⟨v, hv, rfl⟩ := List.mem_map.mp ((sortI_perm _).mem_iff.mp hx)
        exact ⟨v, hv, rfl⟩
      refine ⟨sortI_lt (nodup_map (fun x hx y hy e => og_inj x (oG x hx).2 y (oG y hy).2 e) oN.2.2), og_rg 0 (by omega), og_rg 1 (by omega), fun x hx => ?_, fun z => ?_, fun z => ?_, fun z => ?_⟩
      · obtain ⟨v, hv, rfl⟩ := gsm x hx
        exact og_rg v (oG v hv).2
      · have := og_inj 0 (by omega) 1 (by omega) z
        omega
      · obtain ⟨v, hv, e⟩ := gsm _ z
        have h1 := oG v hv
        have := og_inj 0 (by omega) v h1.2 e
        omega
      · obtain ⟨v, hv, e⟩ := gsm _ z
        have h1 := oG v hv
        have := og_inj 1 (by omega) v h1.2 e
        omega
end K30
namespace K30
open PySem PySem.Spec PyProof.Rows L2 FL
section
variable {n : Nat} {A T : List (Int × Int)} {gv : List Int} {a b : Int}
theorem clos_P (g : Good n A T) (hp : Pr n a b gv) (h : ∀ x ∈ closC n A T gv [a], x.1.1 ∉ [b]) : Clos n A T gv [a] [b] (((closC n A T gv [a]).map (·.1)).mergeSort leS) := by
  have hl := hp.lots
  have inv := closC_inv (gv := gv) g (pw_nd hl.s1) hl.r1
  have hlen := inv.len
  rw [univ_len] at hlen
  have hn := g.n2
  have mem : ∀ s, s ∈ ((closC n A T gv [a]).map (·.1)).mergeSort leS ↔ Open A T gv [a] s := fun s => by
    rw [List.mem_mergeSort]
    exact mem_closC g (pw_nd hl.s1) hl.r1 s
  refine ⟨fun s hs => ?_, sortS_lt inv.nd, by rw [List.length_mergeSort, List.length_map]; omega, fun v hv => (mem _).mpr (.base ⟨hv, rfl⟩), fun s hs => ?_, fun s hs t ht => (mem t).mpr (.step ((mem s).mp hs) ht)⟩
  · rw [List.mem_mergeSort] at hs
    obtain ⟨x, hx, rfl⟩ := List.mem_map.mp hs
    exact mem_univ.mp (inv.un x hx)
  · rw [List.mem_mergeSort] at hs
    obtain ⟨x, hx, rfl⟩ := List.mem_map.mp hs
    exact h x hx
theorem way_walk (g : Good n A T) (hp : Pr n a b gv) {C : List En} {j : Nat} {s : St} {w : List I0} (hj : j < 12) (hs : s.1 ∈ [b]) (h : Way n A T gv [a] C j s w) : Wk n A T w = true ∧ Opn n A T gv w = true ∧ w.length ≤ 41 ∧ w[0]? = some (.v a) ∧ w.getLast? = some (.v b) := by
  obtain ⟨⟨v, k, hv, hw, hk, hst, hgd⟩, _⟩ := h
  have hv : v = a := by simpa using hv
  have hs : s.1 = b := by simpa using hs
  subst hv
  have he : endV w = b := (congrArg Prod.fst hst).trans hs
  have hlast := hw.last
  rw [he] at hlast
  cases k with
  | zero =>
    have h1 := hw.len
    have h2 := hw.fst
    rw [List.getLast?_eq_getElem?, h1] at hlast
    rw [show 2 * 0 + 1 - 1 = 0 from rfl, h2] at hlast
    have : v = b := by simpa using hlast
    exact absurd this hp.ne
  | succ k =>
    refine ⟨hw.wk (by omega), ?_, by have := hw.len; omega, hw.fst, hlast⟩
    rw [opn_gd hw (by omega), hgd, he, decide_eq_false hp.nb]
    rfl
end
set_option maxHeartbeats 4000000 in
theorem plain : ∀ ns : List Int, ns.length ≤ 63 → f_law [.scr ns] = some (.bl true) := by
  intro ns _
  obtain ⟨xs0, h0⟩ := draws_P ns
  have e0 : eCallB 2 f__law_draws (eCons (ofR (rVar 0)) (eCons (ofR (rC (.int 420))) (ofRA rNil))) (slots 10 [.scr ns]) [] = some (.rf 0, [.lst (xs0.map .int)]) := callB_new0 (econs_of (ofR_of (var_of rfl)) (econs_of (ofR_of c_of) enil_of)) rfl rfl h0 (flat_int _)
  obtain ⟨n, A, T, a, b, gv, xs1, h1, g, hp⟩ := case_P xs0
  have ew : (eW n A T).im = true := eW_im n A T
  have em : (eM n A T).im = true := eM_im n A T
  have ig : (D.tup (gv.map .int)).im = true := by simp [D.im, ims_int]
  have e1 : sAsg (eCallB 1 f__law_case (eCons (ofR (rVar 1)) (ofRA rNil))) (setTup [(setN 4), (setN 5), (setN 6), (setN 7)]) [some (.scr ns), some (.rf 0), none, none, none, none, none, none, none, none] [.lst (xs0.map .int)] =
      some (.nx, [some (.scr ns), some (.rf 0), none, none, some (eW n A T), some (.int a), some (.int b), some (.tup (gv.map .int)), none, none], [.lst (xs1.map .int)]) :=
    asg4_of (callB_of (k := 0) (o := .lst (xs0.map .int)) (econs_of (ofR_of (var_of rfl)) enil_of) rfl rfl rfl (flat_int _) h1 (flat_int _) (by simp [D.im, ims, ew, ims_int])) (by show (4 : Nat) < 10; decide) (by show (5 : Nat) < 10; decide) (by show (6 : Nat) < 10; decide) (by show (7 : Nat) < 10; decide)
  have hlots := hp.lots
  have t1 : ∀ (δ : Env') (G : Hs) (i : Nat) (v : Int), δ[i]? = some (some (.int v)) → rTup (rCons (rVar i) rNil) δ G = some (.tup ([v].map .int)) := fun δ G i v h => tup_of (cons_of (var_of h) nil_of) (by simp)
  have e2 : sPar 8 9 (eCons (ofR (rCallP 1 f__law_made (rCons (rVar 4) rNil))) (eCons (ofR (rCallP 4 f__law_are_apart (rCons (rVar 4) (rCons (rTup (rCons (rVar 5) rNil)) (rCons (rTup (rCons (rVar 6) rNil)) (rCons (rVar 7) rNil)))))) (ofRA rNil))) [some (.scr ns), some (.rf 0), none, none, some (eW n A T), some (.int a), some (.int b), some (.tup (gv.map .int)), none, none] [.lst (xs1.map .int)] =
      some (.nx, [some (.scr ns), some (.rf 0), none, none, some (eW n A T), some (.int a), some (.int b), some (.tup (gv.map .int)), some (eM n A T), some (.bl (!(closL n A T gv [a]).any fun s => decide (s.1 ∈ [b])))], [.lst (xs1.map .int)]) :=
    par_of (econs_of (ofR_of (callP_of (ds := [eW n A T]) (cons_of (var_of rfl) nil_of) (by simp [ims, ew]) rfl (made_P g))) (econs_of (ofR_of (callP_of (ds := [eW n A T, .tup ([a].map .int), .tup ([b].map .int), .tup (gv.map .int)]) (cons_of (var_of rfl) (cons_of (t1 _ _ _ _ rfl) (cons_of (t1 _ _ _ _ rfl) (cons_of (var_of rfl) nil_of)))) (by simp [ims, D.im, ew, ims_int]) rfl (law_apart_P g (by simp)))) enil_of)) ⟨by show (8 : Nat) < 10; decide, by show (9 : Nat) < 10; decide⟩
  have key := apart_iff (gv := gv) (other := [b]) g (pw_nd hlots.s1) hlots.r1
  have go : ∃ (δ : Env') (G : Hs), b_law (slots 10 [.scr ns]) [] = some (.rt (.bl true), δ, G) := by
    rcases found_P g hlots with ⟨j, x, w, hj, hx, hj12, hway, hf⟩ | ⟨hno, hf⟩
    · -- an open walk
      have hy : ((closL n A T gv [a]).any fun s => decide (s.1 ∈ [b])) = true := key.mpr ⟨x, List.mem_of_getElem? hj, hx⟩
      rw [hy] at e2
      obtain ⟨hk, ho, hl, w0, w1⟩ := way_walk g hp hj12 hx hway
      have et : (eT w).im = true := eT_im w
      have ha := apart_P g hlots (by simp [D.im, ims, et]) hf
      have e3 : sAsg (ofR (rCallP 4 f_apart (rCons (rVar 8) (rCons (rTup (rCons (rVar 5) rNil)) (rCons (rTup (rCons (rVar 6) rNil)) (rCons (rVar 7) rNil)))))) (setN 2) [some (.scr ns), some (.rf 0), none, none, some (eW n A T), some (.int a), some (.int b), some (.tup (gv.map .int)), some (eM n A T), some (.bl false)] [.lst (xs1.map .int)] = some (.nx, [some (.scr ns), some (.rf 0), some (.tup [.str "open", eT w]), none, some (eW n A T), some (.int a), some (.int b), some (.tup (gv.map .int)), some (eM n A T), some (.bl false)], [.lst (xs1.map .int)]) :=
        asg_of (ofR_of (callP_of (ds := [eM n A T, .tup ([a].map .int), .tup ([b].map .int), .tup (gv.map .int)]) (cons_of (var_of rfl) (cons_of (t1 _ _ _ _ rfl) (cons_of (t1 _ _ _ _ rfl) (cons_of (var_of rfl) nil_of)))) (by simp [ims, D.im, em, ims_int]) rfl ha)) (by show (2 : Nat) < 10; decide)
      have c1 : rOr (rNot (rTru (rIsT (isTy "tuple") (rVar 2)))) (rOr (rB (rBin g_ne (rCal gLen (rCons (rVar 2) rNil)) (rC (.int 2)))) (rB (rBin g_ne (rBin ixA (rVar 2) (rC (.int 0))) (rIf (rTru (rVar 9)) (rC (.str "apart")) (rC (.str "open")))))) [some (.scr ns), some (.rf 0), some (.tup [.str "open", eT w]), none, some (eW n A T), some (.int a), some (.int b), some (.tup (gv.map .int)), some (eM n A T), some (.bl false)] [.lst (xs1.map .int)] = some false :=
        or_of (b := false) (c := false) (not_f (tru_of (isT_of (var_of rfl) rfl) rfl)) fun _ => or_of (b := false) (c := false) (b_of (bin_of (cal1_of (var_of rfl) (len_tup _)) c_of (ne_ii _ _))) fun _ => b_of (bin_of (bin_of (var_of rfl) c_of ((ixA_tup _ _).trans (at_0 _ _))) ((rif_f (tru_of (var_of rfl) rfl)).trans c_of) ((s_ne "open" "open" (by decide +kernel)).trans (by rw [decide_eq_true rfl]; rfl)))
      have c2 : rOr (rNot (rTru (rCallP 3 f__law_is_open (rCons (rVar 4) (rCons (rVar 3) (rCons (rVar 7) rNil)))))) (rB (rBin g_ne (rTup (rCons (rBin ixA (rVar 3) (rC (.int 0))) (rCons (rBin ixA (rVar 3) (rNeg (rC (.int 1)))) rNil))) (rTup (rCons (rVar 5) (rCons (rVar 6) rNil))))) [some (.scr ns), some (.rf 0), some (.tup [.str "open", eT w]), some (eT w), some (eW n A T), some (.int a), some (.int b), some (.tup (gv.map .int)), some (eM n A T), some (.bl false)] [.lst (xs1.map .int)] = some false := by
        refine or_of (b := false) (c := false) (not_f (tru_of (callP_of (ds := [eW n A T, eT w, .tup (gv.map .int)]) (cons_of (var_of rfl) (cons_of (var_of rfl) (cons_of (var_of rfl) nil_of))) (by simp [ims, ew, et, ig]) rfl ((law_is_open_P g w gv (by omega)).trans (by rw [ho]))) rfl)) fun _ => b_of (bin_of (tup_of (cons_of (bin_of (var_of rfl) c_of (ix_of (x := .v a) (j := 0) (by omega) w0)) (cons_of (bin_of (var_of rfl) rfl (last_of (x := .v b) w1)) nil_of)) (by simp)) (tup_of (cons_of (var_of rfl) (cons_of (var_of rfl) nil_of)) (by simp)) ?_)
        show g_ne _ (.tup [.int a, .int b]) (.tup [.int a, .int b]) = _
        rw [ne_of' (by rfl) (by rfl) (by show (1 : Nat) ≤ 60; decide) (by show (1 : Nat) ≤ 60; decide), eqb_2, decide_eq_true rfl]
        rfl
      obtain ⟨xs2, h2⟩ := walks_P g hp hk ho hl w0 w1 xs1
      refine ⟨_, _, (sq_nx (asg_of e0 (by show (1 : Nat) < 10; decide))).trans ((sq_nx e1).trans ((sq_nx e2).trans ((sq_nx e3).trans ((sq_nx ((if_f (ofRT_of c1)).trans rfl)).trans ((sq_nx ((if_f (ofRT_of (tru_of (var_of rfl) rfl))).trans rfl)).trans ((sq_nx (asg_of (ofR_of (bin_of (var_of rfl) c_of ((ixA_tup _ _).trans (at_1 _ _ _)))) (by show (3 : Nat) < 10; decide))).trans ((sq_nx ((if_f (ofRT_of c2)).trans rfl)).trans
        (ret_of (callB_of (k := 0) (o := .lst (xs1.map .int)) (econs_of (ofR_of (var_of rfl)) (econs_of (ofR_of (var_of rfl)) (econs_of (ofR_of (var_of rfl)) (econs_of (ofR_of (var_of rfl)) (econs_of (ofR_of (var_of rfl)) (econs_of (ofR_of (var_of rfl)) enil_of)))))) rfl (by simp [ims, ew, et, D.im, ims_int]) rfl (flat_int _) h2 (flat_int _) rfl)))))))))⟩
    · -- no open walk
      have hy : ((closL n A T gv [a]).any fun s => decide (s.1 ∈ [b])) = false := by
        cases e : (closL n A T gv [a]).any fun s => decide (s.1 ∈ [b]) with
        | false => rfl
        | true =>
          obtain ⟨x, hx, h⟩ := key.mp e
          exact absurd h (hno x hx)
      rw [hy] at e2
      have iL : ims ((((closC n A T gv [a]).map (·.1)).mergeSort leS).map eSt) = true := ims_map eSt_im _
      have ha := apart_P g hlots (by simp [D.im, ims, iL]) hf
      have hA := is_apart_A g hlots (clos_P g hp hno)
      revert ha hA iL
      generalize (((closC n A T gv [a]).map (·.1)).mergeSort leS).map eSt = ss
      intro iL ha hA
      have e3 : sAsg (ofR (rCallP 4 f_apart (rCons (rVar 8) (rCons (rTup (rCons (rVar 5) rNil)) (rCons (rTup (rCons (rVar 6) rNil)) (rCons (rVar 7) rNil)))))) (setN 2) [some (.scr ns), some (.rf 0), none, none, some (eW n A T), some (.int a), some (.int b), some (.tup (gv.map .int)), some (eM n A T), some (.bl true)] [.lst (xs1.map .int)] = some (.nx, [some (.scr ns), some (.rf 0), some (.tup [.str "apart", .tup ss]), none, some (eW n A T), some (.int a), some (.int b), some (.tup (gv.map .int)), some (eM n A T), some (.bl true)], [.lst (xs1.map .int)]) :=
        asg_of (ofR_of (callP_of (ds := [eM n A T, .tup ([a].map .int), .tup ([b].map .int), .tup (gv.map .int)]) (cons_of (var_of rfl) (cons_of (t1 _ _ _ _ rfl) (cons_of (t1 _ _ _ _ rfl) (cons_of (var_of rfl) nil_of)))) (by simp [ims, D.im, em, ims_int]) rfl ha)) (by show (2 : Nat) < 10; decide)
      have c1 : rOr (rNot (rTru (rIsT (isTy "tuple") (rVar 2)))) (rOr (rB (rBin g_ne (rCal gLen (rCons (rVar 2) rNil)) (rC (.int 2)))) (rB (rBin g_ne (rBin ixA (rVar 2) (rC (.int 0))) (rIf (rTru (rVar 9)) (rC (.str "apart")) (rC (.str "open")))))) [some (.scr ns), some (.rf 0), some (.tup [.str "apart", .tup ss]), none, some (eW n A T), some (.int a), some (.int b), some (.tup (gv.map .int)), some (eM n A T), some (.bl true)] [.lst (xs1.map .int)] = some false :=
        or_of (b := false) (c := false) (not_f (tru_of (isT_of (var_of rfl) rfl) rfl)) fun _ => or_of (b := false) (c := false) (b_of (bin_of (cal1_of (var_of rfl) (len_tup _)) c_of (ne_ii _ _))) fun _ => b_of (bin_of (bin_of (var_of rfl) c_of ((ixA_tup _ _).trans (at_0 _ _))) ((rif_t (tru_of (var_of rfl) rfl)).trans c_of) ((s_ne "apart" "apart" (by decide +kernel)).trans (by rw [decide_eq_true rfl]; rfl)))
      refine ⟨_, _, (sq_nx (asg_of e0 (by show (1 : Nat) < 10; decide))).trans ((sq_nx e1).trans ((sq_nx e2).trans ((sq_nx e3).trans ((sq_nx ((if_f (ofRT_of c1)).trans rfl)).trans (sq_rt ((if_t (ofRT_of (tru_of (var_of rfl) rfl))).trans (ret_of (ofR_of (bin_of (callP_of (ds := [eM n A T, .tup ([a].map .int), .tup ([b].map .int), .tup (gv.map .int), .tup [.str "apart", .tup ss]]) (cons_of (var_of rfl) (cons_of (t1 _ _ _ _ rfl) (cons_of (t1 _ _ _ _ rfl) (cons_of (var_of rfl) (cons_of (var_of rfl) nil_of))))) (by simp [ims, D.im, em, ims_int, iL]) rfl hA) c_of rfl)))))))))⟩
  obtain ⟨δ, G, hb⟩ := go
  exact fnP_of hb rfl
end K30
namespace K30
open PySem PySem.Spec PyProof.Rows L2 FL

def fn : List He.FnD := ([fnD "is_integer" (topS 5), fnD "is_between" (topS 6), fnD "is_under" (topS 7), fnD "are_rising" (topS 8), fnD "is_lot" (topS 9), fnD "is_arrow" (topS 13), fnD "are_pairs" (topS 14), fnD "ordered" (topS 15), fnD "is_variable" (topS 17), fnD "check_lots" (topS 21), fnD "edge_fits" (topS 22), fnD "near_end" (topS 23), fnD "far_end" (topS 24), fnD "is_walk" (topS 25), fnD "is_meeting" (topS 26), fnD "is_open" (topS 27), fnD "steps_from" (topS 28), fnD "is_let" (topS 29), fnD "found_parting" (topS 31), fnD "apart" (topS 32), fnD "are_states" (topS 33), fnD "is_closed" (topS 34), fnD "is_apart" (topS 35), fnD "_law_draws" (topS 37), fnD "_law_take" (topS 38), fnD "_law_order" (topS 39), fnD "_law_web" (topS 40), fnD "_law_renamed" (topS 41), fnD "_law_sides" (topS 42), fnD "_law_states" (topS 43)] : List He.FnD) ++ (([fnD "_law_are_apart" (topS 44), fnD "_law_is_walk" (topS 45), fnD "_law_is_open" (topS 46), fnD "_law_made" (topS 47), fnD "_law_forms" (topS 48), fnD "_law_case" (topS 49), fnD "_law_back" (topS 50), fnD "_law_turned" (topS 51), fnD "_law_longer" (topS 52), fnD "_law_is_judged" (topS 53), fnD "_law_are_walks_right" (topS 54), fnD "law" (topS 55), inD "Web" (initS 16 0) "Web.__init__", meD "Search" "__init__" (initS 30 0) "Search.__init__", meD "Search" "note" (initS 30 1) "Search.note", meD "Search" "go_on" (initS 30 2) "Search.go_on", meD "Search" "walk_to" (initS 30 3) "Search.walk_to"] : List He.FnD))
def fa : List He.Fa := ([.glo "is_integer", .keep "is_integer", .glo "is_between", .keep "is_between", .glo "is_under", .keep "is_under", .glo "are_rising", .keep "are_rising", .glo "is_lot", .keep "is_lot", .glo "is_arrow", .keep "is_arrow", .glo "are_pairs", .keep "are_pairs", .glo "ordered", .keep "ordered", .glo "is_variable", .keep "is_variable", .glo "check_lots", .keep "check_lots", .glo "edge_fits", .keep "edge_fits", .glo "near_end", .keep "near_end", .glo "far_end", .keep "far_end", .glo "is_walk", .keep "is_walk", .glo "is_meeting", .keep "is_meeting"] : List He.Fa) ++ (([.glo "is_open", .keep "is_open", .glo "steps_from", .keep "steps_from", .glo "is_let", .keep "is_let", .glo "found_parting", .keep "found_parting", .glo "apart", .keep "apart", .glo "are_states", .keep "are_states", .glo "is_closed", .keep "is_closed", .glo "is_apart", .keep "is_apart", .glo "_law_draws", .keep "_law_draws", .glo "_law_take", .keep "_law_take", .glo "_law_order", .keep "_law_order", .glo "_law_web", .keep "_law_web", .glo "_law_renamed", .keep "_law_renamed", .glo "_law_sides", .keep "_law_sides", .glo "_law_states", .keep "_law_states"] : List He.Fa) ++ (([.glo "_law_are_apart", .keep "_law_are_apart", .glo "_law_is_walk", .keep "_law_is_walk", .glo "_law_is_open", .keep "_law_is_open", .glo "_law_made", .keep "_law_made", .glo "_law_forms", .keep "_law_forms", .glo "_law_case", .keep "_law_case", .glo "_law_back", .keep "_law_back", .glo "_law_turned", .keep "_law_turned", .glo "_law_longer", .keep "_law_longer", .glo "_law_is_judged", .keep "_law_is_judged", .glo "_law_are_walks_right", .keep "_law_are_walks_right", .glo "law", .keep "law", .free "ValueError", .free "abs", .free "all", .free "any", .free "bool", .free "enumerate"] : List He.Fa) ++ (([.free "int", .free "isinstance", .free "len", .free "list", .free "max", .free "min", .free "range", .free "repr", .free "sorted", .free "str", .free "tuple", .noat "Web" "many", .noat "Web" "arrows", .noat "Web" "ties", .glo "Web", .cls "Web", .mkr "Web", .noat "Search" "web", .noat "Search" "given", .noat "Search" "came", .noat "Search" "order", .glo "Search", .cls "Search", .mkr "Search", .meth "Search" "note", .meth "Search" "go_on", .meth "Search" "walk_to"] : List He.Fa))))
def cs : List (Str × D) := [("MOST_VARIABLES", c_MOST_VARIABLES), ("MOST_TIES", c_MOST_TIES), ("MOST_STEPS", c_MOST_STEPS), ("KINDS", c_KINDS)]
set_option maxHeartbeats 4000000 in
theorem ev {K : PySem.W.Frag} {h : Heap} {mg : Str → Option Value} (X : K.In h) (G : h.Ns mainGlobals mg) (c : SaysF fa fn cs K) {w : World} : Ev ⟨K, w⟩ mg where
  d_is_integer := def_of X G c 0 rfl (List.mem_of_getElem? (i := 0) rfl) (List.mem_of_getElem? (i := 1) rfl) fun _ _ _ _ _ _ us hl => match us, hl with | [_], _ => rfl
  d_is_between := def_of X G c 1 rfl (List.mem_of_getElem? (i := 2) rfl) (List.mem_of_getElem? (i := 3) rfl) fun _ _ _ _ _ _ us hl => match us, hl with | [_, _, _], _ => rfl
  d_is_under := def_of X G c 2 rfl (List.mem_of_getElem? (i := 4) rfl) (List.mem_of_getElem? (i := 5) rfl) fun _ _ _ _ _ _ us hl => match us, hl with | [_, _], _ => rfl
  d_are_rising := def_of X G c 3 rfl (List.mem_of_getElem? (i := 6) rfl) (List.mem_of_getElem? (i := 7) rfl) fun _ _ _ _ _ _ us hl => match us, hl with | [_], _ => rfl
  d_is_lot := def_of X G c 4 rfl (List.mem_of_getElem? (i := 8) rfl) (List.mem_of_getElem? (i := 9) rfl) fun _ _ _ _ _ _ us hl => match us, hl with | [_, _], _ => rfl
  d_is_arrow := def_of X G c 5 rfl (List.mem_of_getElem? (i := 10) rfl) (List.mem_of_getElem? (i := 11) rfl) fun _ _ _ _ _ _ us hl => match us, hl with | [_, _], _ => rfl
  d_are_pairs := def_of X G c 6 rfl (List.mem_of_getElem? (i := 12) rfl) (List.mem_of_getElem? (i := 13) rfl) fun _ _ _ _ _ _ us hl => match us, hl with | [_, _], _ => rfl
  d_ordered := def_of X G c 7 rfl (List.mem_of_getElem? (i := 14) rfl) (List.mem_of_getElem? (i := 15) rfl) fun _ _ _ _ _ _ us hl => match us, hl with | [_, _], _ => rfl
  d_is_variable := def_of X G c 8 rfl (List.mem_of_getElem? (i := 16) rfl) (List.mem_of_getElem? (i := 17) rfl) fun _ _ _ _ _ _ us hl => match us, hl with | [_, _], _ => rfl
  d_check_lots := def_of X G c 9 rfl (List.mem_of_getElem? (i := 18) rfl) (List.mem_of_getElem? (i := 19) rfl) fun _ _ _ _ _ _ us hl => match us, hl with | [_, _, _, _], _ => rfl
  d_edge_fits := def_of X G c 10 rfl (List.mem_of_getElem? (i := 20) rfl) (List.mem_of_getElem? (i := 21) rfl) fun _ _ _ _ _ _ us hl => match us, hl with | [_, _, _, _], _ => rfl
  d_near_end := def_of X G c 11 rfl (List.mem_of_getElem? (i := 22) rfl) (List.mem_of_getElem? (i := 23) rfl) fun _ _ _ _ _ _ us hl => match us, hl with | [_], _ => rfl
  d_far_end := def_of X G c 12 rfl (List.mem_of_getElem? (i := 24) rfl) (List.mem_of_getElem? (i := 25) rfl) fun _ _ _ _ _ _ us hl => match us, hl with | [_], _ => rfl
  d_is_walk := def_of X G c 13 rfl (List.mem_of_getElem? (i := 26) rfl) (List.mem_of_getElem? (i := 27) rfl) fun _ _ _ _ _ _ us hl => match us, hl with | [_, _], _ => rfl
  d_is_meeting := def_of X G c 14 rfl (List.mem_of_getElem? (i := 28) rfl) (List.mem_of_getElem? (i := 29) rfl) fun _ _ _ _ _ _ us hl => match us, hl with | [_, _], _ => rfl
  d_is_open := def_of X G c 15 rfl (List.mem_of_getElem? (i := 30) rfl) (List.mem_of_getElem? (i := 31) rfl) fun _ _ _ _ _ _ us hl => match us, hl with | [_, _, _], _ => rfl
  d_steps_from := def_of X G c 16 rfl (List.mem_of_getElem? (i := 32) rfl) (List.mem_of_getElem? (i := 33) rfl) fun _ _ _ _ _ _ us hl => match us, hl with | [_, _], _ => rfl
  d_is_let := def_of X G c 17 rfl (List.mem_of_getElem? (i := 34) rfl) (List.mem_of_getElem? (i := 35) rfl) fun _ _ _ _ _ _ us hl => match us, hl with | [_, _, _], _ => rfl
  d_found_parting := def_of X G c 18 rfl (List.mem_of_getElem? (i := 36) rfl) (List.mem_of_getElem? (i := 37) rfl) fun _ _ _ _ _ _ us hl => match us, hl with | [_, _, _, _], _ => rfl
  d_apart := def_of X G c 19 rfl (List.mem_of_getElem? (i := 38) rfl) (List.mem_of_getElem? (i := 39) rfl) fun _ _ _ _ _ _ us hl => match us, hl with | [_, _, _, _], _ => rfl
  d_are_states := def_of X G c 20 rfl (List.mem_of_getElem? (i := 40) rfl) (List.mem_of_getElem? (i := 41) rfl) fun _ _ _ _ _ _ us hl => match us, hl with | [_, _], _ => rfl
  d_is_closed := def_of X G c 21 rfl (List.mem_of_getElem? (i := 42) rfl) (List.mem_of_getElem? (i := 43) rfl) fun _ _ _ _ _ _ us hl => match us, hl with | [_, _, _, _, _], _ => rfl
  d_is_apart := def_of X G c 22 rfl (List.mem_of_getElem? (i := 44) rfl) (List.mem_of_getElem? (i := 45) rfl) fun _ _ _ _ _ _ us hl => match us, hl with | [_, _, _, _, _], _ => rfl
  d__law_draws := def_of X G c 23 rfl (List.mem_of_getElem? (i := 46) rfl) (List.mem_of_getElem? (i := 47) rfl) fun _ _ _ _ _ _ us hl => match us, hl with | [_, _], _ => rfl
  d__law_take := def_of X G c 24 rfl (List.mem_of_getElem? (i := 48) rfl) (List.mem_of_getElem? (i := 49) rfl) fun _ _ _ _ _ _ us hl => match us, hl with | [_, _], _ => rfl
  d__law_order := def_of X G c 25 rfl (List.mem_of_getElem? (i := 50) rfl) (List.mem_of_getElem? (i := 51) rfl) fun _ _ _ _ _ _ us hl => match us, hl with | [_, _], _ => rfl
  d__law_web := def_of X G c 26 rfl (List.mem_of_getElem? (i := 52) rfl) (List.mem_of_getElem? (i := 53) rfl) fun _ _ _ _ _ _ us hl => match us, hl with | [_, _, _, _], _ => rfl
  d__law_renamed := def_of X G c 27 rfl (List.mem_of_getElem? (i := 54) rfl) (List.mem_of_getElem? (i := 55) rfl) fun _ _ _ _ _ _ us hl => match us, hl with | [_, _], _ => rfl
  d__law_sides := def_of X G c 28 rfl (List.mem_of_getElem? (i := 56) rfl) (List.mem_of_getElem? (i := 57) rfl) fun _ _ _ _ _ _ us hl => match us, hl with | [_, _], _ => rfl
  d__law_states := def_of X G c 29 rfl (List.mem_of_getElem? (i := 58) rfl) (List.mem_of_getElem? (i := 59) rfl) fun _ _ _ _ _ _ us hl => match us, hl with | [_, _, _], _ => rfl
  d__law_are_apart := def_of X G c 30 rfl (List.mem_of_getElem? (i := 60) rfl) (List.mem_of_getElem? (i := 61) rfl) fun _ _ _ _ _ _ us hl => match us, hl with | [_, _, _, _], _ => rfl
  d__law_is_walk := def_of X G c 31 rfl (List.mem_of_getElem? (i := 62) rfl) (List.mem_of_getElem? (i := 63) rfl) fun _ _ _ _ _ _ us hl => match us, hl with | [_, _], _ => rfl
  d__law_is_open := def_of X G c 32 rfl (List.mem_of_getElem? (i := 64) rfl) (List.mem_of_getElem? (i := 65) rfl) fun _ _ _ _ _ _ us hl => match us, hl with | [_, _, _], _ => rfl
  d__law_made := def_of X G c 33 rfl (List.mem_of_getElem? (i := 66) rfl) (List.mem_of_getElem? (i := 67) rfl) fun _ _ _ _ _ _ us hl => match us, hl with | [_], _ => rfl
  d__law_forms := def_of X G c 34 rfl (List.mem_of_getElem? (i := 68) rfl) (List.mem_of_getElem? (i := 69) rfl) fun _ _ _ _ _ _ us hl => match us, hl with | [], _ => rfl
  d__law_case := def_of X G c 35 rfl (List.mem_of_getElem? (i := 70) rfl) (List.mem_of_getElem? (i := 71) rfl) fun _ _ _ _ _ _ us hl => match us, hl with | [_], _ => rfl
  d__law_back := def_of X G c 36 rfl (List.mem_of_getElem? (i := 72) rfl) (List.mem_of_getElem? (i := 73) rfl) fun _ _ _ _ _ _ us hl => match us, hl with | [_], _ => rfl
  d__law_turned := def_of X G c 37 rfl (List.mem_of_getElem? (i := 74) rfl) (List.mem_of_getElem? (i := 75) rfl) fun _ _ _ _ _ _ us hl => match us, hl with | [_], _ => rfl
  d__law_longer := def_of X G c 38 rfl (List.mem_of_getElem? (i := 76) rfl) (List.mem_of_getElem? (i := 77) rfl) fun _ _ _ _ _ _ us hl => match us, hl with | [_, _, _], _ => rfl
  d__law_is_judged := def_of X G c 39 rfl (List.mem_of_getElem? (i := 78) rfl) (List.mem_of_getElem? (i := 79) rfl) fun _ _ _ _ _ _ us hl => match us, hl with | [_, _, _, _, _], _ => rfl
  d__law_are_walks_right := def_of X G c 40 rfl (List.mem_of_getElem? (i := 80) rfl) (List.mem_of_getElem? (i := 81) rfl) fun _ _ _ _ _ _ us hl => match us, hl with | [_, _, _, _, _, _], _ => rfl
  d_law := def_of X G c 41 rfl (List.mem_of_getElem? (i := 82) rfl) (List.mem_of_getElem? (i := 83) rfl) fun _ _ _ _ _ _ us hl => match us, hl with | [_], _ => rfl
  n_ValueError := He.free_ok X G (c.fact (List.mem_of_getElem? (i := 84) rfl))
  n_abs := He.free_ok X G (c.fact (List.mem_of_getElem? (i := 85) rfl))
  n_all := He.free_ok X G (c.fact (List.mem_of_getElem? (i := 86) rfl))
  n_any := He.free_ok X G (c.fact (List.mem_of_getElem? (i := 87) rfl))
  n_bool := He.free_ok X G (c.fact (List.mem_of_getElem? (i := 88) rfl))
  n_enumerate := He.free_ok X G (c.fact (List.mem_of_getElem? (i := 89) rfl))
  n_int := He.free_ok X G (c.fact (List.mem_of_getElem? (i := 90) rfl))
  n_isinstance := He.free_ok X G (c.fact (List.mem_of_getElem? (i := 91) rfl))
  n_len := He.free_ok X G (c.fact (List.mem_of_getElem? (i := 92) rfl))
  n_list := He.free_ok X G (c.fact (List.mem_of_getElem? (i := 93) rfl))
  n_max := He.free_ok X G (c.fact (List.mem_of_getElem? (i := 94) rfl))
  n_min := He.free_ok X G (c.fact (List.mem_of_getElem? (i := 95) rfl))
  n_range := He.free_ok X G (c.fact (List.mem_of_getElem? (i := 96) rfl))
  n_repr := He.free_ok X G (c.fact (List.mem_of_getElem? (i := 97) rfl))
  n_sorted := He.free_ok X G (c.fact (List.mem_of_getElem? (i := 98) rfl))
  n_str := He.free_ok X G (c.fact (List.mem_of_getElem? (i := 99) rfl))
  n_tuple := He.free_ok X G (c.fact (List.mem_of_getElem? (i := 100) rfl))
  k_MOST_VARIABLES := cst_ok X G (c.cst (List.mem_of_getElem? (i := 0) rfl))
  k_MOST_TIES := cst_ok X G (c.cst (List.mem_of_getElem? (i := 1) rfl))
  k_MOST_STEPS := cst_ok X G (c.cst (List.mem_of_getElem? (i := 2) rfl))
  k_KINDS := cst_ok X G (c.cst (List.mem_of_getElem? (i := 3) rfl))
  cls_Web := cls_of X G c (List.mem_of_getElem? (i := 104) rfl) (List.mem_of_getElem? (i := 105) rfl) (fun f hf => by
    simp only [List.mem_cons, List.mem_nil_iff, or_false] at hf
    rcases hf with rfl | rfl | rfl
    · exact (List.mem_of_getElem? (i := 101) rfl)
    · exact (List.mem_of_getElem? (i := 102) rfl)
    · exact (List.mem_of_getElem? (i := 103) rfl)) (by simp)
  mk_Web := mk_of c (List.mem_of_getElem? (i := 106) rfl)
  i_Web := init_of c 42 rfl fun _ _ _ _ _ _ us hl => match us, hl with | [_, _, _, _], _ => rfl
  cls_Search := clsI_of X G c (List.mem_of_getElem? (i := 111) rfl) (List.mem_of_getElem? (i := 112) rfl) (fun f hf => by
    simp only [List.mem_cons, List.mem_nil_iff, or_false] at hf
    rcases hf with rfl | rfl | rfl | rfl
    · exact (List.mem_of_getElem? (i := 107) rfl)
    · exact (List.mem_of_getElem? (i := 108) rfl)
    · exact (List.mem_of_getElem? (i := 109) rfl)
    · exact (List.mem_of_getElem? (i := 110) rfl))
  mk_Search := mk_of c (List.mem_of_getElem? (i := 113) rfl)
  i_Search___init__ := meth_of c 43 rfl fun _ _ _ _ _ _ us hl => match us, hl with | [_, _, _, _], _ => rfl
  i_Search_note := ⟨He.meth_ok (c.fact (List.mem_of_getElem? (i := 114) rfl)), meth_of c 44 rfl fun _ _ _ _ _ _ us hl => match us, hl with | [_, _, _], _ => rfl⟩
  i_Search_go_on := ⟨He.meth_ok (c.fact (List.mem_of_getElem? (i := 115) rfl)), meth_of c 45 rfl fun _ _ _ _ _ _ us hl => match us, hl with | [_, _], _ => rfl⟩
  i_Search_walk_to := ⟨He.meth_ok (c.fact (List.mem_of_getElem? (i := 116) rfl)), meth_of c 46 rfl fun _ _ _ _ _ _ us hl => match us, hl with | [_, _], _ => rfl⟩
abbrev Rw : PySem.W.OpenRow := PySem.W.OpenLaw.row PySem.Challenge.rw_setnotseen_k30_whole_walks_turned_about
abbrev hk : PySem.W.Hook := hookF 5 fa fn cs
def ob (s : PySem.W.SharedT) : He.Al := obsFG 5 fa fn cs (HandSHeadRun.getT s)
theorem ob_eq (s : PySem.W.SharedT) : ob s = hk.obs s.abs := obsFG_eq (HandSHeadRun.getT_eq s)
def loose : List Str := (["ShareError", "BadWeb", "NoLots", "is_integer", "is_between", "is_under", "are_rising", "is_lot", "MOST_VARIABLES", "MOST_TIES", "is_arrow", "are_pairs", "ordered", "Web", "is_variable", "MOST_STEPS", "KINDS", "check_lots", "edge_fits", "near_end", "far_end", "is_walk", "is_meeting", "is_open", "steps_from", "is_let", "Search", "found_parting", "apart", "are_states"] : List Str) ++ ((["is_closed", "is_apart", "_law_draws", "_law_take", "_law_order", "_law_web", "_law_renamed", "_law_sides", "_law_states", "_law_are_apart", "_law_is_walk", "_law_is_open", "_law_made", "_law_forms", "_law_case", "_law_back", "_law_turned", "_law_longer", "_law_is_judged", "_law_are_walks_right"] : List Str))
set_option maxHeartbeats 0 in
theorem run (w : World) : HandSHeadRun.RunEq Rw (PySem.W.view Rw.prog [55]) hk ob 6000 loose w := by
  intro os
  kernel_rfl
/-- the end, from the plain law -/
theorem facts (plain : ∀ ns : List Int, ns.length ≤ 63 → f_law [.scr ns] = some (.bl true)) {P : Program} {w : World} {K : PySem.W.Frag} {h : Heap} {mg : Str → Option Value} {f : Addr} (X : K.In h) (G : h.Ns mainGlobals mg) (hfa : mg ("law" : Str) = some (.ref f)) (c : SaysF fa fn cs K) :
    ∃ fd : FuncData, (∀ (s : Shared) (v : Value), BindsTo s fd ⟨[v], []⟩ [("script", v)]) ∧ (∀ (H : Hp) (a : Addr) (ns : List Int), ns.length ≤ 63 → Only H → SqL K H a (ns.map V.int) → spP ⟨K, w⟩ 1 f_law [.ref a] H (fun v _ => v = .bl true) fun _ _ _ => False) ∧
      ∀ base : Heap, K.In base → base.Ns mainGlobals mg → FnG P w K mg base C8.CX0 10 f fd ["script"] (spP ⟨K, w⟩ 1 f_law) := by
  obtain ⟨oc, od, osl, kV, doc, pm, an, cdv, ct, e1, e2⟩ := c.def_ 41 (d := fnD "law" (topS 55)) rfl
  have e := hfa.symm.trans (He.glo_ok X G (c.fact (List.mem_of_getElem? (i := 82) rfl)))
  cases e
  refine ⟨_, fun s v => .of_eq rfl, fun H a ns hl hO hS => ?_, fun base _ _ => k_law (ev X G c) ⟨⟨oc, od, .none, kV, doc, pm, an, cdv, ct, osl, rfl, e1, e2⟩, hfa, He.keep_ok (c.fact (List.mem_of_getElem? (i := 83) rfl))⟩⟩
  refine ⟨rfl, [.scr ns], .bl true, Rs.cons ?_ Rs.nil, plain ns hl, fun v H' _ r => ?_⟩
  · simp only [R]
    refine ⟨a, rfl, ?_⟩
    rcases hS with (hS | hS) | hS
    · rcases hO a with z | ⟨o, xs, z⟩
      · rw [z] at hS
        cases hS
      · rw [z] at hS
        cases hS
    · exact .inl hS
    · exact .inr hS
  · rcases r with r | ⟨ds, p, vs, e, _⟩
    · simpa only [R] using r
    · cases e
end K30
open PySem PySem.W PySem.Calls PyProof.Rows
set_option maxHeartbeats 0 in
theorem PySem.Challenge.cw_setnotseen_k30_whole_walks_turned_about_holds : PySem.Challenge.rw_setnotseen_k30_whole_walks_turned_about.Holds := by
  w_on; o_law
  refine HandSHeadRun.head_any (r := OpenLaw.row PySem.Challenge.rw_setnotseen_k30_whole_walks_turned_about) (q := view (OpenLaw.row PySem.Challenge.rw_setnotseen_k30_whole_walks_turned_about).prog [55]) (H := K30.hk) (ob := K30.ob) (M := 6000) (loose := K30.loose) (d := HandSHeadRun.topDef (OpenLaw.row PySem.Challenge.rw_setnotseen_k30_whole_walks_turned_about).prog 55) (kwd := []) K30.ob_eq
    (by kernel_rfl) (fun s => by kernel_rfl) K30.run (by kernel_rfl) (by kernel_rfl) (by kernel_rfl) (by rfl) (by first | assumption | decide +kernel) (by decide +kernel) ⟨rfl, rfl, rfl, rfl, rfl, by decide +kernel⟩ ?hw ?hc
  case hw => w_witness2
  case hc =>
    refine L2.walk_ofEG (l := PySem.Challenge.rw_setnotseen_k30_whole_walks_turned_about) (n := 63) (k := 10) (x := "script") (CX := C8.CX0) rfl (by decide) (by kernel_rfl) ⟨rfl, by decide, by decide⟩ ?F (fun _ _ _ _ z => z)
    intro w mg fa h Y G hmg0
    obtain ⟨K, KX, c⟩ := Y
    have hmg : mg ("law" : PySem.Str) = some (.ref fa) := by
      have e : (HandSHeadRun.topDef (OpenLaw.row PySem.Challenge.rw_setnotseen_k30_whole_walks_turned_about).prog 55).name = ("law" : PySem.Str) := by kernel_rfl
      rw [← e]
      exact hmg0
    obtain ⟨fd, hb, hs, hF⟩ := K30.facts K30.plain (P := (PySem.Challenge.rw_setnotseen_k30_whole_walks_turned_about).prog) (w := w) KX G hmg c
    exact ⟨K, fd, _, KX, hb, hs, hF⟩
