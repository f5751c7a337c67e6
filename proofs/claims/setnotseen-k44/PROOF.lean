import PyProof.Rows.All
import HandS.ForMost
import HandS.Wide
import HandS.Codes
import HandS.Conv
import KE.KDictKeyed
import KE.KDictDisplayH
import KE.SortData
import KE.DataCmp
import PyProof.Rows.SortWalk
import HandS.TupAny
import HandS.TupLe
import HandS.Deep
import HandS.IsInst
import HandS.Style
import PyProof.Rows.ReprR
import KE.GoesEnum
import HandS.Head0
import HandS.Head1
import HandS.Head2
import HandS.HeadEnd
import HandS.HeadHook1
import HandS.HeadHook2
import KE.KTops
import HandS.DictComp
import KE.DatumOrd
import PySem.Challenge.RW_setnotseen_k44_whole_steps_of_reasons_on
set_option Elab.async false
set_option linter.all false
set_option maxRecDepth 100000
/-! FL0: what a def promises where no repr is under way (for repr of lists and tuples) -/
namespace L2
open PySem PySem.Spec PyProof.Rows
structure RoomG (k : Nat) (A : Around) : Prop extends Room k A where
  gd : A.guards = some []
theorem RoomG.mono {j k : Nat} {A : Around} (r : RoomG k A) (h : j ≤ k) : RoomG j A := ⟨r.toRoom.mono h, r.gd⟩
theorem make_guards {A : Around} {C : Addr} {us : List Value} {kw : List (Str × Value)} : (A.under (.builtin "type.__call__" ⟨.ref C :: us, kw⟩)).guards = A.guards := by
  cases h : A.guards <;> simp [Around.under, Code.isGuard, guardIds, pushGuards, Code.guards, h]
theorem deeper_guards (A : Around) (env : Env) : (A.deeper env).guards = A.guards := by
  first | rfl | simp [Around.deeper]
structure FnG (P : Program) (w : World) (K : PySem.W.Frag) (mg : Str → Option Value) (base : Heap) (CX : CXT) (k : Nat) (f : Addr) (fd : FuncData) (ps : List Str) (sp : Sp) : Prop where
  len : ∀ vs H Q E, sp vs H Q E → vs.length = ps.length
  run : ∀ (A : Around) (outer : List Env) (s : Shared) (H : Hp) (args : Args) (us : List Value) (vs : List V) (Q : VK) (E : XK), Room k A → A.guards = some [] → Env0 P w K mg base A outer s H → BindsTo s fd args (ps.zip us) → Vals vs us → sp vs H Q E →
    codeAny (model P w) A (.call (.ref f) args) (CR CX outer P w H s Q E) s
theorem FnG.imp {P : Program} {w : World} {K : PySem.W.Frag} {mg : Str → Option Value} {base : Heap} {CX : CXT} {k : Nat} {f : Addr} {fd : FuncData} {ps : List Str} {sp sp' : Sp} (F : FnG P w K mg base CX k f fd ps sp)
    (h : ∀ vs H Q E, sp' vs H Q E → sp vs H Q E) : FnG P w K mg base CX k f fd ps sp' :=
  ⟨fun vs H Q E q => F.len vs H Q E (h _ _ _ _ q), fun A outer s H args us vs Q E hr hg he hb hv hs => F.run A outer s H args us vs Q E hr hg he hb hv (h _ _ _ _ hs)⟩
section
variable {X : Cx} {CX : CXT} {k : Nat} {f C : Addr} {fd : FuncData} {ps : List Str} {sp : Sp} {dvs : List V} {ds : List Value} {E : XK} {x m : Str} {p pos apos : Pos} {e o : Expr} {es : List Expr} {ta : TE} {t : TA}
theorem run_fnG {pins : List (Addr × Obj)} {σ : St} {H : Hp} {s : Shared} {Q : VK} {us : List Value} {vs : List V} (F : FnG X.prog X.w X.K X.mg X.base CX k f fd ps sp) (hr : RoomG k X.A) (hb : Binds X.K fd ps ds) (hd : Vals dvs ds) (hx : Passes CX X E)
    (I : Inv X pins σ H s) (r : Vals vs us) (h : sp (vs ++ dvs) H Q E) : wpAny (model X.prog X.w) X.A (call (.ref f) us) (EP X pins σ Q) X.xe s := by
  have r2 : Vals (vs ++ dvs) (us ++ ds) := r.append hd
  have hl : (us ++ ds).length = ps.length := by rw [← r2.length]; exact F.len _ _ _ _ h
  refine wpAny_call (codeAny_mono (F.run X.A X.stack s H ⟨us, []⟩ (us ++ ds) (vs ++ dvs) Q E hr.toRoom hr.gd I.env0 (hb s us I.kIn hl) r2 h) fun r s' hq => ?_)
  cases r with
  | error e => exact hx pins σ H s e s' I hq
  | ok fl =>
    cases fl with
    | ret u => exact I.after hq
    | next => exact False.elim hq
    | brk => exact False.elim hq
    | cont => exact False.elim hq
theorem pe_callG (F : FnG X.prog X.w X.K X.mg X.base CX k f fd ps sp) (hr : RoomG k X.A) (hg : Gl X x) (hm : X.mg x = some (.ref f)) (hk : PySem.W.keepIn X.K (.ref f) = true) (hb : Binds X.K fd ps ds) (hd : Vals dvs ds) (hx : Passes CX X E)
    (ha : PA X (e :: es) t) (hdb : (x == ("__debug__" : Str)) = false := by decide) (he : starEach (e :: es) X.env = (false, eval e X.env) :: starEach es X.env := by rfl) (hpl : (backTo pos (starEach es X.env)).any (·.1) = false := by rfl) :
    PE X (.Call (.Name x p) (e :: es) [] pos) (tCall sp dvs E t) := by
  refine ⟨fun pins s σ H Q I h => ?_⟩
  refine wpAny_Call_Name_kw (ld_glob I hg hm ?_ hdb)
  refine PySem.W.callWith_K (h₀ := X.base) I.ok.mod.kin hk (thn (ha.run pos pins s σ H _ I h) fun us s1 ⟨vs, H1, I1, r, q⟩ => ⟨I1.kIn, ?_⟩) he hpl
  exact run_fnG F hr hb hd hx I1 r q
theorem run_makeG {pins : List (Addr × Obj)} {σ : St} {H : Hp} {s : Shared} {Q : VK} {us : List Value} {vs : List V} (M : Mk X.K C f) (F : FnG X.prog X.w X.K X.mg X.base CX k f fd ps sp) (hr : RoomG (k + 1) X.A) (hb : Binds X.K fd ps ds) (hd : Vals dvs ds)
    (hx : Passes CX X E) (I : Inv X pins σ H s) (r : Vals vs us)
    (h : ∀ x dx, H x = none → H dx = none → dx ≠ x → sp (.ref x :: (vs ++ dvs)) (upd (upd H dx (.own x)) x (.ins C dx [])) (fun v H2 => v = .non ∧ Q (.ref x) H2) E) :
    wpAny (model X.prog X.w) X.A (call (.ref C) us) (EP X pins σ Q) X.xe s := by
  have hq := h (s.heap.objs.size + 1) s.heap.objs.size (I.hok.fresh (Nat.le_succ _)) (I.hok.fresh (Nat.le_refl _)) (Nat.ne_of_lt (Nat.lt_succ_self _))
  have I2 := Inv.made (C := C) I
  have r2 : Vals (V.ref (s.heap.objs.size + 1) :: (vs ++ dvs)) (Value.ref (s.heap.objs.size + 1) :: (us ++ ds)) := .cons rfl (r.append hd)
  have hl : (Value.ref (s.heap.objs.size + 1) :: us ++ ds).length = ps.length := by
    have e := r2.length
    rw [F.len _ _ _ _ hq] at e
    exact e.symm
  refine wpAny_call (make_map (f := f) I.kIn M.makes M.init (beq_iff_eq.mp M.fn) (codeAny_mono (F.run _ X.stack _ _ ⟨Value.ref (s.heap.objs.size + 1) :: us, []⟩ (Value.ref (s.heap.objs.size + 1) :: (us ++ ds)) _ _ E (hr.toRoom.make C us []) (make_guards.trans hr.gd)
    (I2.env0.make C us []) (hb _ (Value.ref (s.heap.objs.size + 1) :: us) I2.kIn hl) r2 hq) fun r s' hq' => ?_))
  cases r with
  | error e => exact hx pins σ _ _ e s' I2 hq'
  | ok fl =>
    cases fl with
    | ret u =>
      obtain ⟨v, H', I3, rv, ev, q3⟩ := I2.after hq'
      subst ev
      exact ⟨rv, ⟨V.ref (s.heap.objs.size + 1), H', I3, rfl, q3⟩⟩
    | next => exact False.elim hq'
    | brk => exact False.elim hq'
    | cont => exact False.elim hq'
theorem pe_makeG (M : Mk X.K C f) (F : FnG X.prog X.w X.K X.mg X.base CX k f fd ps sp) (hr : RoomG (k + 1) X.A) (hg : Gl X x) (hm : X.mg x = some (.ref C)) (hb : Binds X.K fd ps ds) (hd : Vals dvs ds) (hx : Passes CX X E)
    (ha : PA X (e :: es) t) (hdb : (x == ("__debug__" : Str)) = false := by decide) (he : starEach (e :: es) X.env = (false, eval e X.env) :: starEach es X.env := by rfl) (hpl : (backTo pos (starEach es X.env)).any (·.1) = false := by rfl) :
    PE X (.Call (.Name x p) (e :: es) [] pos) (tMake C sp dvs E t) := by
  refine ⟨fun pins s σ H Q I h => ?_⟩
  refine wpAny_Call_Name_kw (ld_glob I hg hm ?_ hdb)
  refine PySem.W.callWith_K (h₀ := X.base) I.ok.mod.kin M.kp (thn (ha.run pos pins s σ H _ I h) fun us s1 ⟨vs, H1, I1, r, q⟩ => ⟨I1.kIn, ?_⟩) he hpl
  exact run_makeG M F hr hb hd hx I1 r q
end
theorem fn_ofG {CX : CXT} {P : Program} {w : World} {K : PySem.W.Frag} {mg : Str → Option Value} {base : Heap} {k : Nat} {f : Addr} {name qual : Str} {params : Arguments} {body : List Stmt} {scope : Scope} {dV kV doc pm cdv ct oc : Value} {an od : Option Addr}
    {osl : Array (Option Value)} {N ps : List Str} {sp : Sp} (lk : K.lookup f = some ⟨oc, od, .func (PySem.W.fnOf name qual params body scope dV kV doc pm an cdv ct), osl⟩) (hcd : PySem.W.codeIn K cdv qual = true) (S : FnScope N ps scope)
    (len : ∀ vs H Q E, sp vs H Q E → vs.length = ps.length)
    (hbody : ∀ (A : Around) (outer : List Env) (s : Shared) (H : Hp) (vs : List V) (Q : VK) (E : XK), RoomG k (A.deeper (envOfC qual scope s.heap.objs.size f cdv)) → sp vs H Q E →
      ∃ t, PSs (cxOf CX P w K mg base N qual scope f cdv A outer s H E) body t ∧ t { nx := fun _ H' => Q .non H', rt := Q } (start N vs) H) :
    FnG P w K mg base CX (k + 1) f (PySem.W.fnOf name qual params body scope dV kV doc pm an cdv ct) ps sp := by
  refine ⟨len, fun A outer s H args us vs Q E hr hgd e0 hb r hsp => ?_⟩
  have hl := len _ _ _ _ hsp
  have KX : K.In s.heap := e0.mod.kin.keeps fun b o e => (e0.bs b o e).1
  have lim : s.heap.NoLimit := e0.mod.nolimit.keeps fun b o e => (e0.bs b o e).1
  have hkind : ∀ y ∈ ps.zip us, scope.names.lookup y.1 = some .local ∨ (scope.names.lookup y.1 = some .cell ∧ ((cellsFrom (s.heap.objs.size + 1) scope.names []).lookup y.1).isSome = true) := fun ⟨n, v⟩ hy => by
    rcases S.par n (List.of_mem_zip hy).1 with q | q
    · exact .inl q
    · exact .inr ⟨q, PySem.W.cellsFrom_some _ _ _ (.inl q)⟩
  refine codeAny_call_function hr.depth (KX _ _ lk) rfl S.co S.gen rfl (PySem.W.codeRec_of KX hcd) (hb _ _ _ _ ?_)
  refine wpAny_newFunctionEnv_cells S.kind hkind fun env he s1 x => ?_
  subst he
  refine ⟨lim.keeps x.toInCall.keep, codeAny_func ?_⟩
  obtain ⟨t, ht, hq⟩ := hbody A outer s H vs Q E ⟨hr.deeper _, (deeper_guards _ _).trans hgd⟩ hsp
  have I : Inv (cxOf CX P w K mg base N qual scope f cdv A outer s H E) [] (start N vs) H s1 := inv_start S hr.hd e0 hl r x
  refine wpAny_mono (ht.run [] s1 (start N vs) H _ I hq) (fun fl s' hs => ?_) fun e s' hs => hs
  have fin : ∀ {σ' : St} {H' : Hp} {v : V} {u : Value}, Inv (cxOf CX P w K mg base N qual scope f cdv A outer s H E) [] σ' H' s' → RelV v u → Q v H' → CE outer P w H s Q u s' :=
    fun {σ' H' v u} J rv q => ⟨v, H', J.os, J.bare, J.base, J.hok, rv, q⟩
  cases fl with
  | ret u =>
    obtain ⟨v, σ', H', J, rv, q⟩ := hs
    exact fin J rv q
  | next =>
    obtain ⟨σ', H', J, q⟩ := hs
    exact fin (v := V.non) (u := Value.none) J rfl q
  | brk =>
    obtain ⟨_, _, _, q⟩ := hs
    exact False.elim q
  | cont =>
    obtain ⟨_, _, _, q⟩ := hs
    exact False.elim q
theorem law_callG {P : Program} {w : World} {K : PySem.W.Frag} {mg mb : Str → Option Value} {CX : CXT} {k : Nat} {fa a : Addr} {fd : FuncData} {x : Str} {sp : Sp} {s₁ : Shared} {vs : List Value} {ns : List Int}
    (KX : K.In s₁.heap) (hns : s₁.heap.Ns mainGlobals mg) (hb : s₁.heap.Ns builtinsNs mb) (hbb : ∀ x : Str, x ≠ "__name__" → mb x = bootBuiltins x) (hlim : s₁.heap.NoLimit) (hg : s₁.gens = #[])
    (ha : s₁.heap.get? a = some { cls := .type "list", data := .seq vs.toArray }) (hi : IntsAre vs ns) (hl : ns.length ≤ sizeLine) (hr : Room k callerA)
    (F : ∀ base : Heap, K.In base → base.Ns mainGlobals mg → FnG P w K mg base CX k fa fd [x] sp) (hbind : ∀ (s : Shared) (u : Value), BindsTo s fd ⟨[u], []⟩ [(x, u)])
    (hsp : ∀ H : Hp, Only H → SqL K H a (ns.map V.int) → sp [.ref a] H (fun v _ => v = .bl true) fun _ _ _ => False)
    (hCX : ∀ H e s', CX [] H s₁ (fun _ _ _ => False) e s' → False) :
    codeAny (model P w) callerA (.call (.ref fa) ⟨[.ref a], []⟩) (fun r s' => r = .ok (.ret (.bool true)) ∧ OldK s₁.heap s'.heap ∧ s'.os = s₁.os ∧ AllBare s'.gens) s₁ := by
  have rv := vals_ints hi
  have lenV := hi.length
  -- from an abstract heap in which nothing but the script may be tracked
  have core : ∀ H : Hp, Only H → SqL K H a (ns.map V.int) → HOk P w H s₁.heap → (∀ b, H b ≠ none → b = a) → (H a ≠ none → K.lookup a = none) →
      codeAny (model P w) callerA (.call (.ref fa) ⟨[.ref a], []⟩) (fun r s' => r = .ok (.ret (.bool true)) ∧ OldK s₁.heap s'.heap ∧ s'.os = s₁.os ∧ AllBare s'.gens) s₁ := by
    intro H hO hS hok hA hK
    have base_of : ∀ {b : Addr} {o : Obj}, s₁.heap.get? b = some o → H b = none → (hidT s₁.heap H).get? b = some o := fun e n => hidT_get e n
    have noA : ∀ {b : Addr} {o : Obj} {es : Array DictEntry} {ep : Nat}, s₁.heap.get? b = some o → o.data = .dict es ep → H b = none := fun {b o es ep} e d => by
      cases q : H b with
      | none => rfl
      | some u =>
        have e' : b = a := hA b (by rw [q]; simp)
        subst e'
        rw [ha] at e; cases e
        have d' : Data.seq vs.toArray _ = Data.dict es ep := d
        cases d'
    have nsK : ∀ {b : Addr} {m : Str → Option Value}, s₁.heap.Ns b m → (hidT s₁.heap H).Ns b m := fun {b m} ⟨o, es, ep, e, d, r⟩ => ⟨o, es, ep, base_of e (noA e d), d, r⟩
    have hKb : K.In (hidT s₁.heap H) := fun b o e => base_of (KX b o e) (by
      cases q : H b with
      | none => rfl
      | some u =>
        have e' : b = a := hA b (by rw [q]; simp)
        subst e'
        rw [hK (by rw [q]; simp)] at e; cases e)
    have hM : Mod K mg (hidT s₁.heap H) := ⟨hKb, nsK hns, ⟨mb, nsK hb, hbb⟩, let ⟨mc, h1, h2⟩ := hlim; ⟨mc, nsK h1, h2⟩⟩
    have e0 : Env0 P w K mg (hidT s₁.heap H) callerA [] s₁ H := ⟨rfl, hM, fun b o e => of_hidT e, Nat.le_of_eq (hidT_size _ _), trivial, fun b hb => absurd (show b ∈ ([] : List Addr) from hb) (by simp), hok, .of_eq hg⟩
    refine codeAny_mono ((F _ hKb (nsK hns)).run callerA [] s₁ H ⟨[.ref a], []⟩ [.ref a] [.ref a] _ _ hr rfl e0 (hbind s₁ (.ref a)) (.cons rfl .nil) (hsp H hO hS)) fun r s' h => ?_
    cases r with
    | error e => exact (hCX H e s' h).elim
    | ok fl =>
      cases fl with
      | next => exact False.elim h
      | brk => exact False.elim h
      | cont => exact False.elim h
      | ret u =>
        obtain ⟨v, H', os, bare, un, hok', r', q⟩ := h
        have q' : v = .bl true := q
        subst q'
        obtain rfl : u = Value.bool true := r'
        refine ⟨rfl, OldK.of_keep fun b o e => ?_, os, bare⟩
        cases q : H b with
        | none => exact un.keep b o e q (by intro z; exact absurd (show b ∈ ([] : List Addr) from z) (by simp)) (by simp)
        | some u =>
          rcases hO b with z | ⟨ob, xs, z⟩
          · rw [q] at z; cases z
          · have z2 := un.frzs b ob _ z
            obtain ⟨e1, _⟩ := hok b _ z
            obtain ⟨e2, _⟩ := hok' b _ z2
            rw [e] at e1; cases e1
            exact e2
  cases hk : K.lookup a with
  | some o =>
    -- the script is one of the module's own objects
    have e := KX a o hk
    rw [ha] at e
    cases e
    refine core (fun _ => none) (fun _ => .inl rfl) (.inr ⟨_, vs.toArray, _, hk, rfl, rfl, rfl, by rw [List.size_toArray, lenV]; exact hl, by simpa using rv⟩) (fun b u z => by have z' : (none : Option HO) = some u := z; cases z') (fun b z => absurd rfl z) fun z => absurd rfl z
  | none =>
    refine core (fun b => if b = a then some (.frz { cls := .type "list", data := .seq vs.toArray } (.lst (ns.map V.int))) else none) (fun b => ?_) (.inl (.inr ⟨{ cls := .type "list", data := .seq vs.toArray }, if_pos rfl⟩)) (fun b u z => ?_) (fun b z => ?_) fun _ => hk
    · by_cases hb : b = a
      · exact .inr ⟨_, _, if_pos hb⟩
      · exact .inl (if_neg hb)
    · by_cases hb : b = a
      · have z' := (if_pos hb).symm.trans z
        cases z'
        subst hb
        exact ⟨ha, by rw [List.length_map]; exact hl, vs, _, rv, ha⟩
      · have z' := (if_neg hb).symm.trans z
        cases z'
    · by_cases hb : b = a
      · exact hb
      · exact absurd (if_neg hb) z
theorem walk_ofG {l : PySem.W.OpenLaw} {n k : Nat} {q : Program} {loose : List Str} {XP : (Str → Option Value) → Heap → Prop} {YP : World → Heap → Prop} {d : DefRec} {K : Params → PySem.W.Frag} {CX : World → CXT} {sp : World → Sp} {x : Str}
    (hn : l.most = some n) (hn2 : n ≤ sizeLine) (hdf : d.params.defaults = []) (hr : Room k callerA)
    (hY : ∀ (w : World) (h : Heap), YP w h → (K w.params).In h)
    (F : ∀ (w : World) (mg : Str → Option Value) (fa : Addr) (h : Heap), (K w.params).In h → h.Ns mainGlobals mg → mg d.name = some (.ref fa) →
      ∃ fd : FuncData, (∀ (s : Shared) (u : Value), BindsTo s fd ⟨[u], []⟩ [(x, u)]) ∧
        ∀ base : Heap, (K w.params).In base → base.Ns mainGlobals mg → FnG l.prog w (K w.params) mg base (CX w) k fa fd [x] (sp w))
    (hsp : ∀ (w : World) (H : Hp) (a : Addr) (ns : List Int), ns.length ≤ n → Only H → SqL (K w.params) H a (ns.map V.int) → sp w [.ref a] H (fun v _ => v = .bl true) fun _ _ _ => False)
    (hCX : ∀ (w : World) (H : Hp) (s : Shared) (e : Value) (s' : Shared), CX w [] H s (fun _ _ _ => False) e s' → False) :
    PySem.W.WalkO q loose XP YP l.row.toRowW d [] (fun f vs => PySem.call f vs) := by
  refine Att.attach_call hn hdf fun w s₀ s₁ mg mb fa o pm cd doc a vs ns G Y ho hd hcd hmg hobj hints hlen hg => ?_
  have KX := hY w _ Y
  obtain ⟨fd, hb, hF⟩ := F w mg fa _ KX G.T.g hmg
  exact law_callG KX G.T.g G.T.b G.T.builtins G.T.nolimit hg hobj hints (Nat.le_trans hlen hn2) hr hF hb (fun H hO hS => hsp w H a ns hlen hO hS) fun H e s' => hCX w H s₁ e s'
end L2
namespace C8
open PySem PySem.Spec PyProof.Rows L2 SX
section
variable {P : Program} {w : World} {K : PySem.W.Frag} {mg : Str → Option Value} {base : Heap}
theorem fnG0 {x qual : Str} {st : Stmt} {f : Addr} {fd : FuncData} {N ps : List Str} {k : Nat} {sp : Sp} (F : Fun K x qual st f fd) (S : FnScope N ps (fnScope st)) (len : ∀ vs H Q E, sp vs H Q E → vs.length = ps.length)
    (hbody : ∀ (cdv : Value) (A : Around) (outer : List Env) (s : Shared) (H : Hp) (vs : List V) (Q : VK) (E : XK), RoomG k (A.deeper (envOfC qual (fnScope st) s.heap.objs.size f cdv)) → sp vs H Q E →
      ∃ t, PSs (cxOf CX0 P w K mg base N qual (fnScope st) f cdv A outer s H E).nox (fnBody st) t ∧ t { nx := fun _ H' => Q .non H', rt := Q } (start N vs) H) : FnG P w K mg base CX0 (k + 1) f fd ps sp := by
  obtain ⟨oc, od, dV, kV, doc, pm, an, cdv, ct, osl, rfl, lk, hcd⟩ := F.ex
  refine fn_ofG lk hcd S len fun A outer s H vs Q E hr hsp => ?_
  obtain ⟨t, h, q⟩ := hbody cdv A outer s H vs Q E hr hsp
  exact ⟨t, h.nox, q⟩
/-- a def that may be called by its name -/
structure CalG (P : Program) (w : World) (K : PySem.W.Frag) (mg : Str → Option Value) (base : Heap) (k : Nat) (x : Str) (sp : Sp) (dvs : List V) : Prop where
  ex : ∃ (f : Addr) (fd : FuncData) (ps : List Str) (ds : List Value), FnG P w K mg base CX0 k f fd ps sp ∧ mg x = some (.ref f) ∧ PySem.W.keepIn K (.ref f) = true ∧ Binds K fd ps ds ∧ Vals dvs ds
theorem calG {x : Str} {st : Stmt} {f : Addr} {fd : FuncData} {N ps : List Str} {ds : List Value} {dvs : List V} {k : Nat} {sp : Sp} (F : Def K mg x st f fd) (b : Binds K fd ps ds) (d : Vals dvs ds) (S : FnScope N ps (fnScope st)) (len : ∀ vs H Q E, sp vs H Q E → vs.length = ps.length)
    (hbody : ∀ (cdv : Value) (A : Around) (outer : List Env) (s : Shared) (H : Hp) (vs : List V) (Q : VK) (E : XK), RoomG k (A.deeper (envOfC x (fnScope st) s.heap.objs.size f cdv)) → sp vs H Q E →
      ∃ t, PSs (cxOf CX0 P w K mg base N x (fnScope st) f cdv A outer s H E).nox (fnBody st) t ∧ t { nx := fun _ H' => Q .non H', rt := Q } (start N vs) H) : CalG P w K mg base (k + 1) x sp dvs :=
  ⟨f, fd, ps, ds, fnG0 F.fn S len hbody, F.mgf, F.kp, b, d⟩
/-- a class that may be made by its name; sp: its __init__ -/
structure MakG (P : Program) (w : World) (K : PySem.W.Frag) (mg : Str → Option Value) (base : Heap) (k : Nat) (x : Str) (C : Addr) (sp : Sp) (dvs : List V) : Prop where
  ex : ∃ (f : Addr) (fd : FuncData) (ps : List Str) (ds : List Value), Mk K C f ∧ FnG P w K mg base CX0 k f fd ps sp ∧ mg x = some (.ref C) ∧ Binds K fd ps ds ∧ Vals dvs ds
theorem makG {x qual : Str} {C : Addr} {st : Stmt} {f : Addr} {fd : FuncData} {N ps : List Str} {ds : List Value} {dvs : List V} {k : Nat} {sp : Sp} (M : Mk K C f) (hm : mg x = some (.ref C)) (F : Fun K "__init__" qual st f fd) (b : Binds K fd ps ds) (d : Vals dvs ds) (S : FnScope N ps (fnScope st)) (len : ∀ vs H Q E, sp vs H Q E → vs.length = ps.length)
    (hbody : ∀ (cdv : Value) (A : Around) (outer : List Env) (s : Shared) (H : Hp) (vs : List V) (Q : VK) (E : XK), RoomG k (A.deeper (envOfC qual (fnScope st) s.heap.objs.size f cdv)) → sp vs H Q E →
      ∃ t, PSs (cxOf CX0 P w K mg base N qual (fnScope st) f cdv A outer s H E).nox (fnBody st) t ∧ t { nx := fun _ H' => Q .non H', rt := Q } (start N vs) H) : MakG P w K mg base (k + 1) x C sp dvs :=
  ⟨f, fd, ps, ds, M, fnG0 F S len hbody, hm, b, d⟩
end
section
variable {X : Cx} {k j : Nat} {C : Addr} {x m : Str} {sp : Sp} {dvs : List V} {p pos apos : Pos} {e o : Expr} {es : List Expr} {ta : TE} {t : TA}
theorem pe_cG (c : CalG X.prog X.w X.K X.mg X.base k x sp dvs) (hr : RoomG j X.A) (hk : k ≤ j) (hg : Gl X x) (ha : PA X (e :: es) t)
    (hdb : (x == ("__debug__" : Str)) = false := by decide) (he : starEach (e :: es) X.env = (false, eval e X.env) :: starEach es X.env := by rfl) (hpl : (backTo pos (starEach es X.env)).any (·.1) = false := by rfl) :
    PE X (.Call (.Name x p) (e :: es) [] pos) (tCall sp dvs E0 t) := by
  obtain ⟨f, fd, ps, ds, F, hm, kp, b, d⟩ := c.ex
  exact pe_callG F (hr.mono hk) hg hm kp b d pass0 ha hdb he hpl
theorem pe_mkG (c : MakG X.prog X.w X.K X.mg X.base k x C sp dvs) (hr : RoomG j X.A) (hk : k + 1 ≤ j) (hg : Gl X x) (ha : PA X (e :: es) t)
    (hdb : (x == ("__debug__" : Str)) = false := by decide) (he : starEach (e :: es) X.env = (false, eval e X.env) :: starEach es X.env := by rfl) (hpl : (backTo pos (starEach es X.env)).any (·.1) = false := by rfl) :
    PE X (.Call (.Name x p) (e :: es) [] pos) (tMake C sp dvs E0 t) := by
  obtain ⟨f, fd, ps, ds, M, F, hm, b, d⟩ := c.ex
  exact pe_makeG M F (hr.mono hk) hg hm b d pass0 ha hdb he hpl
end
end C8
/-! FL: deep data over HandS -/
namespace FL
open PySem PySem.Spec PyProof.Rows L2

/-- the written part of the heap, and the world (for hashes of texts) -/
structure FK where
  fr : PySem.W.Frag
  wd : World
instance : Coe FK PySem.W.Frag := ⟨FK.fr⟩
abbrev _root_.L2.Cx.F (X : Cx) : FK := ⟨X.K, X.w⟩

/-- a value: data to any depth; rf k: the k-th root (a list or dict that may change) -/
inductive D where
  | non | bl (b : Bool) | int (i : Int) | str (x : Str)
  | tup (ds : List D) | fl (ds : List D)
  | obj (x : Str) (ns : List Str) (ds : List D)
  | fd (ks : List L2.Key) (ds : List D)
  | scr (ns : List Int)
  | rf (k : Nat)

mutual
/-- no root within -/
def D.im : D → Bool
  | .tup ds => ims ds
  | .fl ds => ims ds
  | .obj _ _ ds => ims ds
  | .fd _ ds => ims ds
  | .rf _ => false
  | _ => true
def ims : List D → Bool
  | [] => true
  | d :: ds => d.im && ims ds
end

/-- what stands at a root -/
inductive GO where
  | lst (ds : List D)
  | dct (kvs : List (D × D))
  | ins (x : Str) (ns : List Str) (ds : List D)
  | dead

def GO.flat : GO → Bool
  | .lst ds => ims ds
  | .dct kvs => ims (kvs.map (·.1)) && ims (kvs.map (·.2))
  | .ins _ _ ds => ims ds
  | .dead => true

abbrev Env' := List (Option D)
abbrev Hs := List GO

/-- the attributes of classes whose instances never change once they are made -/
def immNames : List (List Str) := [["many", "arrows", "ties"], ["web", "worths", "hidden", "tables"], ["worths", "shares"], ["web", "weights", "spreads", "shared"], ["web", "worths", "hidden", "own", "ways"], ["states", "arrows", "ties"]]
def immN (ns : List Str) : Bool := immNames.contains ns
/-- a thing that never changes -/
def Imm : HO → Bool
  | .tup _ => true
  | .frz _ _ => true
  | .ins _ _ fs => immN (fs.map (·.1))
  | .own _ => true
  | _ => false

def SqF (H : Hp) (a : Addr) (vs : List V) : Prop := ∃ o, H a = some (.frz o (.lst vs))

/-- a list that is known to the object (the script) -/
def SqS (K : FK) (H : Hp) (a : Addr) (vs : List V) : Prop := (∃ o, H a = some (.frz o (.lst vs))) ∨
  ∃ (o : Obj) (its : Array Value) (n : Nat), K.fr.lookup a = some o ∧ o.cls = .type "list" ∧ o.dict = none ∧ o.data = .seq its n ∧ its.size ≤ sizeLine ∧ Vals vs its.toList
theorem SqS.sq {K : FK} {H : Hp} {a : Addr} {vs : List V} (h : SqS K H a vs) : SqL K H a vs := by
  rcases h with ⟨o, h⟩ | h
  · exact .inl (.inr ⟨o, h⟩)
  · exact .inr h
/-- a class of one's own (the module's name x), whose instances bear these attributes -/
def ObjI (K : FK) (x : Str) (C : Addr) (ns : List Str) : Prop := PySem.W.nsIn K mainGlobals x = some (some (.ref C)) ∧ Cls K C ∧ (∀ f ∈ ns, NoAttr K C f)
def ObjC (K : FK) (x : Str) (C : Addr) (ns : List Str) : Prop := PySem.W.nsIn K mainGlobals x = some (some (.ref C)) ∧ Cls K C ∧ (∀ f ∈ ns, NoAttr K C f) ∧ ns ≠ []
mutual
def R (K : FK) (γ : List Addr) (H : Hp) : D → V → Prop
  | .non, v => v = .non
  | .bl b, v => v = .bl b
  | .int i, v => v = .int i
  | .str x, v => v = .str x
  | .tup ds, v => ∃ a vs, v = .ref a ∧ SqT K H a vs ∧ Rs K γ H ds vs
  | .fl ds, v => ∃ a vs, v = .ref a ∧ SqF H a vs ∧ Rs K γ H ds vs
  | .obj x ns ds, v => ∃ a dx vs C, v = .ref a ∧ H a = some (.ins C dx (ns.zip vs)) ∧ (ObjC K x C ns ∧ ns.length = ds.length ∧ immN ns = true) ∧ Rs K γ H ds vs
  | .fd ks ds, v => ∃ a o vs, v = .ref a ∧ H a = some (.frz o (.dK (ks.zip vs))) ∧ ks.length = ds.length ∧ Rs K γ H ds vs
  | .scr ns, v => ∃ a, v = .ref a ∧ SqS K H a (ns.map V.int)
  | .rf k, v => ∃ a, v = .ref a ∧ γ[k]? = some a
def Rs (K : FK) (γ : List Addr) (H : Hp) : List D → List V → Prop
  | [], vs => vs = []
  | d :: ds, vs => ∃ v r, vs = v :: r ∧ R K γ H d v ∧ Rs K γ H ds r
end

section
variable {K : FK} {γ γ' γ2 : List Addr} {H H' H2 : Hp}
theorem Rs.length : ∀ {ds : List D} {vs : List V}, Rs K γ H ds vs → ds.length = vs.length
  | [], vs, h => by
    have e : vs = [] := by simpa [Rs] using h
    rw [e]
    rfl
  | d :: ds, vs, h => by
    simp only [Rs] at h
    obtain ⟨v, r, rfl, _, h⟩ := h
    simp [Rs.length h]
theorem Rs.cons {d : D} {ds : List D} {v : V} {vs : List V} (h : R K γ H d v) (hs : Rs K γ H ds vs) : Rs K γ H (d :: ds) (v :: vs) := by
  simp only [Rs]
  exact ⟨v, vs, rfl, h, hs⟩
theorem Rs.nil : Rs K γ H [] [] := by simp only [Rs]
theorem Rs.uncons {d : D} {ds : List D} {v : V} {vs : List V} (h : Rs K γ H (d :: ds) (v :: vs)) : R K γ H d v ∧ Rs K γ H ds vs := by
  simp only [Rs] at h
  obtain ⟨v', r, e, h1, h2⟩ := h
  cases e
  exact ⟨h1, h2⟩
theorem Rs.of_nil {vs : List V} (h : Rs K γ H [] vs) : vs = [] := by simpa [Rs] using h
theorem Rs.of_cons {d : D} {ds : List D} {vs : List V} (h : Rs K γ H (d :: ds) vs) : ∃ v r, vs = v :: r ∧ R K γ H d v ∧ Rs K γ H ds r := by
  simpa only [Rs] using h
theorem Rs.get : ∀ {ds : List D} {vs : List V} {i : Nat} {d : D}, Rs K γ H ds vs → ds[i]? = some d → ∃ v, vs[i]? = some v ∧ R K γ H d v
  | [], _, _, _, _, e => by simp at e
  | d :: ds, vs, 0, d', h, e => by
    obtain ⟨v, r, rfl, h1, h2⟩ := h.of_cons
    have e' : d = d' := by simpa using e
    subst e'
    exact ⟨v, rfl, h1⟩
  | d :: ds, vs, i + 1, d', h, e => by
    obtain ⟨v, r, rfl, h1, h2⟩ := h.of_cons
    obtain ⟨v', a, b⟩ := Rs.get (i := i) h2 (by simpa using e)
    exact ⟨v', by simpa using a, b⟩
theorem Rs.get' {ds : List D} {vs : List V} {i : Nat} {v : V} (h : Rs K γ H ds vs) (e : vs[i]? = some v) : ∃ d, ds[i]? = some d ∧ R K γ H d v := by
  have hl := h.length
  have hi := (List.getElem?_eq_some_iff.mp e).1
  have e2 : ds[i]? = some ds[i] := List.getElem?_eq_getElem (by omega)
  obtain ⟨v', a, b⟩ := h.get e2
  rw [e] at a
  cases a
  exact ⟨_, e2, b⟩
theorem Rs.append : ∀ {ds es : List D} {vs us : List V}, Rs K γ H ds vs → Rs K γ H es us → Rs K γ H (ds ++ es) (vs ++ us)
  | [], _, _, _, h, k => by
    rw [h.of_nil]
    exact k
  | d :: ds, es, vs, us, h, k => by
    obtain ⟨v, r, rfl, h1, h2⟩ := h.of_cons
    exact Rs.cons h1 (Rs.append h2 k)
theorem Rs.take : ∀ {ds : List D} {vs : List V} (n : Nat), Rs K γ H ds vs → Rs K γ H (ds.take n) (vs.take n)
  | _, _, 0, _ => Rs.nil
  | [], _, n + 1, h => by
    rw [h.of_nil]
    exact Rs.nil
  | d :: ds, vs, n + 1, h => by
    obtain ⟨v, r, rfl, h1, h2⟩ := h.of_cons
    exact Rs.cons h1 (Rs.take n h2)
theorem Rs.drop : ∀ {ds : List D} {vs : List V} (n : Nat), Rs K γ H ds vs → Rs K γ H (ds.drop n) (vs.drop n)
  | _, _, 0, h => h
  | [], _, n + 1, h => by
    rw [h.of_nil]
    exact Rs.nil
  | d :: ds, vs, n + 1, h => by
    obtain ⟨v, r, rfl, h1, h2⟩ := h.of_cons
    exact Rs.drop n h2
theorem Rs.reverse : ∀ {ds : List D} {vs : List V}, Rs K γ H ds vs → Rs K γ H ds.reverse vs.reverse
  | [], _, h => by
    rw [h.of_nil]
    exact Rs.nil
  | d :: ds, vs, h => by
    obtain ⟨v, r, rfl, h1, h2⟩ := h.of_cons
    rw [List.reverse_cons, List.reverse_cons]
    exact Rs.append (Rs.reverse h2) (Rs.cons h1 Rs.nil)
theorem Rs.set : ∀ {ds : List D} {vs : List V} {d : D} {v : V}, Rs K γ H ds vs → R K γ H d v → ∀ i : Nat, Rs K γ H (ds.set i d) (vs.set i v)
  | [], _, _, _, h, _, _ => by
    rw [h.of_nil]
    exact Rs.nil
  | d :: ds, vs, d', v', h, k, 0 => by
    obtain ⟨v, r, rfl, h1, h2⟩ := h.of_cons
    exact Rs.cons k h2
  | d :: ds, vs, d', v', h, k, i + 1 => by
    obtain ⟨v, r, rfl, h1, h2⟩ := h.of_cons
    exact Rs.cons h1 (Rs.set h2 k i)
/-- by places -/
theorem Rs.mk : ∀ {ds : List D} {vs : List V}, ds.length = vs.length → (∀ (i : Nat) d v, ds[i]? = some d → vs[i]? = some v → R K γ H d v) → Rs K γ H ds vs
  | [], [], _, _ => Rs.nil
  | [], _ :: _, e, _ => by simp at e
  | _ :: _, [], e, _ => by simp at e
  | d :: ds, v :: vs, e, h => Rs.cons (h 0 d v rfl rfl) (Rs.mk (by simpa using e) fun i d' v' a b => h (i + 1) d' v' (by simpa using a) (by simpa using b))

/-- what never changes is kept -/
def Kp (H H' : Hp) : Prop := ∀ b o, H b = some o → Imm o = true → H' b = some o
theorem Kp.refl : Kp H H := fun _ _ h _ => h
theorem Kp.trans {H1 H2 H3 : Hp} (a : Kp H1 H2) (b : Kp H2 H3) : Kp H1 H3 := fun c o h i => b c o (a c o h i) i
theorem Kp.of_same (h : Same H H') : Kp H H' := fun b o e _ => h b o e
def Pre (γ γ' : List Addr) : Prop := ∀ (k : Nat) a, γ[k]? = some a → γ'[k]? = some a
theorem Pre.refl : Pre γ γ := fun _ _ h => h
theorem Pre.app : Pre γ (γ ++ γ') := fun k a h => by
  rw [List.getElem?_append_left (List.getElem?_eq_some_iff.mp h).1]
  exact h
theorem Pre.trans (a : Pre γ γ') (b : Pre γ' γ2) : Pre γ γ2 := fun k c h => b k c (a k c h)
theorem Kp.sqT {K : PySem.W.Frag} {a : Addr} {vs : List V} (k : Kp H H') (h : SqT K H a vs) : SqT K H' a vs := by
  rcases h with (h | ⟨o, h⟩) | h
  · exact .inl (.inl (k _ _ h rfl))
  · exact .inl (.inr ⟨o, k _ _ h rfl⟩)
  · exact .inr h
theorem Kp.sqF {a : Addr} {vs : List V} (k : Kp H H') (h : SqF H a vs) : SqF H' a vs := by
  obtain ⟨o, h⟩ := h
  exact ⟨o, k _ _ h rfl⟩
theorem SqF.sq {K : PySem.W.Frag} {a : Addr} {vs : List V} (h : SqF H a vs) : SqL K H a vs := by
  obtain ⟨o, h⟩ := h
  exact .inl (.inr ⟨o, h⟩)
theorem imm_ins {C dx : Addr} {ns : List Str} {ds : List D} {vs : List V} (h : ns.length = ds.length) (hi : immN ns = b) (hl : ds.length = vs.length) : Imm (.ins C dx (ns.zip vs)) = b := by
  show immN ((ns.zip vs).map (·.1)) = b
  rw [List.map_fst_zip (by omega), hi]
mutual
theorem R.mono (k : Kp H H') (p : Pre γ γ') : ∀ (d : D) (v : V), R K γ H d v → R K γ' H' d v
  | .non, v, h => by simpa only [R] using h
  | .bl b, v, h => by simpa only [R] using h
  | .int i, v, h => by simpa only [R] using h
  | .str x, v, h => by simpa only [R] using h
  | .tup ds, v, h => by
    simp only [R] at h ⊢
    obtain ⟨a, vs, e, h1, h2⟩ := h
    exact ⟨a, vs, e, k.sqT h1, Rs.mono k p ds vs h2⟩
  | .fl ds, v, h => by
    simp only [R] at h ⊢
    obtain ⟨a, vs, e, h1, h2⟩ := h
    exact ⟨a, vs, e, k.sqF h1, Rs.mono k p ds vs h2⟩
  | .obj x ns ds, v, h => by
    simp only [R] at h ⊢
    obtain ⟨a, dx, vs, C, e, h1, hc, h2⟩ := h
    exact ⟨a, dx, vs, C, e, k _ _ h1 (imm_ins hc.2.1 hc.2.2 h2.length), hc, Rs.mono k p ds vs h2⟩
  | .fd ks ds, v, h => by
    simp only [R] at h ⊢
    obtain ⟨a, o, vs, e, h1, hl, h2⟩ := h
    exact ⟨a, o, vs, e, k _ _ h1 rfl, hl, Rs.mono k p ds vs h2⟩
  | .scr ns, v, h => by
    simp only [R] at h ⊢
    obtain ⟨a, e, h1⟩ := h
    refine ⟨a, e, h1.imp (fun ⟨o, h1⟩ => ⟨o, k _ _ h1 rfl⟩) id⟩
  | .rf n, v, h => by
    simp only [R] at h ⊢
    obtain ⟨a, e, h1⟩ := h
    exact ⟨a, e, p _ _ h1⟩
theorem Rs.mono (k : Kp H H') (p : Pre γ γ') : ∀ (ds : List D) (vs : List V), Rs K γ H ds vs → Rs K γ' H' ds vs
  | [], vs, h => by
    rw [h.of_nil]
    exact Rs.nil
  | d :: ds, vs, h => by
    obtain ⟨v, r, rfl, h1, h2⟩ := h.of_cons
    exact Rs.cons (R.mono k p d v h1) (Rs.mono k p ds r h2)
end
mutual
/-- data without roots -/
theorem R.im : ∀ (d : D) (v : V), d.im = true → R K γ H d v → R K γ' H d v
  | .non, v, _, h => by simpa only [R] using h
  | .bl b, v, _, h => by simpa only [R] using h
  | .int i, v, _, h => by simpa only [R] using h
  | .str x, v, _, h => by simpa only [R] using h
  | .tup ds, v, i, h => by
    simp only [R] at h ⊢
    obtain ⟨a, vs, e, h1, h2⟩ := h
    exact ⟨a, vs, e, h1, Rs.im ds vs (by simpa only [D.im] using i) h2⟩
  | .fl ds, v, i, h => by
    simp only [R] at h ⊢
    obtain ⟨a, vs, e, h1, h2⟩ := h
    exact ⟨a, vs, e, h1, Rs.im ds vs (by simpa only [D.im] using i) h2⟩
  | .obj x ns ds, v, i, h => by
    simp only [R] at h ⊢
    obtain ⟨a, dx, vs, C, e, h1, hc, h2⟩ := h
    exact ⟨a, dx, vs, C, e, h1, hc, Rs.im ds vs (by simpa only [D.im] using i) h2⟩
  | .fd ks ds, v, i, h => by
    simp only [R] at h ⊢
    obtain ⟨a, o, vs, e, h1, hl, h2⟩ := h
    exact ⟨a, o, vs, e, h1, hl, Rs.im ds vs (by simpa only [D.im] using i) h2⟩
  | .scr ns, v, i, h => by simpa only [R] using h
  | .rf n, v, i, h => by simp [D.im] at i
theorem Rs.im : ∀ (ds : List D) (vs : List V), ims ds = true → Rs K γ H ds vs → Rs K γ' H ds vs
  | [], vs, _, h => by
    rw [h.of_nil]
    exact Rs.nil
  | d :: ds, vs, i, h => by
    simp only [ims, Bool.and_eq_true] at i
    obtain ⟨v, r, rfl, h1, h2⟩ := h.of_cons
    exact Rs.cons (R.im d v i.1 h1) (Rs.im ds r i.2 h2)
end
end

/-! ### dicts whose keys are tuples of ints, bools, texts, None .. -/
mutual
def nk : D → Option NestedKey
  | .non => some .none
  | .bl b => some (.num (if b = true then 1 else 0))
  | .int i => some (.num i)
  | .str x => some (.text x)
  | .tup ds => (nks ds).map .tup
  | _ => none
def nks : List D → Option (List NestedKey)
  | [] => some []
  | d :: ds => (nk d).bind fun k => (nks ds).bind fun ks => some (k :: ks)
end
def ent0 (K : FK) (x : NestedKey × Addr × Value) : DictEntry := ⟨x.1.hash K.wd, .ref x.2.1, x.2.2⟩
def dctO (K : FK) (a : Addr) (xs : List (NestedKey × Addr × Value)) (ep : Nat) : HO := .ext fun h => (a == sysModules) = false ∧ xs.length ≤ sizeLine ∧ ∃ o es, h.get? a = some o ∧ o.ExactDict ∧ o.data = .dict es ep ∧ es.toList = xs.map (ent0 K)
def DK (K : FK) (γ : List Addr) (H : Hp) : List (D × D) → List (NestedKey × Addr × Value) → Prop
  | [], xs => xs = []
  | (k, d) :: r, xs => ∃ q b u t v, xs = (q, b, u) :: t ∧ (nk k = some q ∧ q.depth ≤ 8 ∧ ∃ ts, k = .tup ts) ∧ R K γ H k (.ref b) ∧ RelV v u ∧ R K γ H d v ∧ DK K γ H r t
theorem DK.mono {K : FK} {γ γ' : List Addr} {H H' : Hp} (k : Kp H H') (p : Pre γ γ') : ∀ {kvs : List (D × D)} {xs : List (NestedKey × Addr × Value)}, DK K γ H kvs xs → DK K γ' H' kvs xs
  | [], _, h => h
  | (c, d) :: r, xs, h => by
    obtain ⟨q, b, u, t, v, e, h1, h2, h3, h4, h5⟩ := h
    exact ⟨q, b, u, t, v, e, h1, R.mono k p _ _ h2, h3, R.mono k p _ _ h4, DK.mono k p h5⟩
theorem DK.im {K : FK} {γ γ' : List Addr} {H : Hp} : ∀ {kvs : List (D × D)} {xs : List (NestedKey × Addr × Value)}, ims (kvs.map (·.1)) = true → ims (kvs.map (·.2)) = true → DK K γ H kvs xs → DK K γ' H kvs xs
  | [], _, _, _, h => h
  | (c, d) :: r, xs, i1, i2, h => by
    simp only [List.map_cons, ims, Bool.and_eq_true] at i1 i2
    obtain ⟨q, b, u, t, v, e, h1, h2, h3, h4, h5⟩ := h
    exact ⟨q, b, u, t, v, e, h1, R.im _ _ i1.1 h2, h3, R.im _ _ i2.1 h4, DK.im i1.2 i2.2 h5⟩

/-- a root's content -/
def RG (K : FK) (γ : List Addr) (H : Hp) : GO → Addr → Prop
  | .lst ds, a => ∃ vs, H a = some (.lst vs) ∧ Rs K γ H ds vs
  | .dct kvs, a => ∃ xs ep, H a = some (dctO K a xs ep) ∧ (xs.map (·.1)).Nodup ∧ DK K γ H kvs xs
  | .ins x ns ds, a => ∃ C dx vs, H a = some (.ins C dx (ns.zip vs)) ∧ (ObjI K x C ns ∧ ns.length = ds.length ∧ immN ns = false) ∧ Rs K γ H ds vs
  | .dead, _ => True

/-- the roots -/
structure Ro (K : FK) (H : Hp) (G : Hs) (γ : List Addr) : Prop where
  len : G.length = γ.length
  nd : γ.Nodup
  ex : ∀ a ∈ γ, H a ≠ none
  rt : ∀ (k : Nat) o a, G[k]? = some o → γ[k]? = some a → RG K γ H o a
/-- slots and roots -/
structure Sx (K : FK) (H : Hp) (δ : Env') (G : Hs) (σ : L2.St) (γ : List Addr) : Prop extends Ro K H G γ where
  dl : δ.length = σ.length
  sl : ∀ (i : Nat) d, δ[i]? = some (some d) → ∃ v, σ[i]? = some (some v) ∧ R K γ H d v
/-- behind a step: what is no root or never changes is kept; new roots are new -/
structure Aft (γ : List Addr) (H : Hp) (γ' : List Addr) (H' : Hp) : Prop where
  tr : ∀ b o, H b = some o → (b ∉ γ ∨ Imm o = true) → H' b = some o
  ex : ∀ b, H b ≠ none → H' b ≠ none
  pre : γ <+: γ'
  fr : ∀ a ∈ γ', a ∈ γ ∨ H a = none

section
variable {K : FK} {γ γ' γ2 : List Addr} {H H' H2 : Hp} {δ : Env'} {G : Hs} {σ : L2.St}
theorem Aft.kp (a : Aft γ H γ' H') : Kp H H' := fun b o h i => a.tr b o h (.inr i)
theorem Pre.of (a : γ <+: γ') : Pre γ γ' := fun k c h => by
  obtain ⟨t, rfl⟩ := a
  exact Pre.app k c h
theorem Aft.pr (a : Aft γ H γ' H') : Pre γ γ' := Pre.of a.pre
theorem Aft.refl : Aft γ H γ H := ⟨fun _ _ h _ => h, fun _ h => h, List.prefix_rfl, fun a h => .inl h⟩
theorem Same.none' {b : Addr} (h : Same H H') (e : H b ≠ none) : H' b ≠ none := fun z => by
  cases q : H b with
  | none => exact e q
  | some o =>
    rw [h b o q] at z
    cases z
theorem Aft.of_same (h : Same H H') : Aft γ H γ H' := ⟨fun b o e _ => h b o e, fun b e => Same.none' h e, List.prefix_rfl, fun a h => .inl h⟩
theorem Aft.trans (a : Aft γ H γ' H') (b : Aft γ' H' γ2 H2) : Aft γ H γ2 H2 where
  tr := fun c o h i => b.tr c o (a.tr c o h i) (i.imp (fun n z => by
    rcases a.fr c z with z | z
    · exact n z
    · rw [z] at h; cases h) id)
  ex := fun c h => b.ex c (a.ex c h)
  pre := a.pre.trans b.pre
  fr := fun c z => by
    rcases b.fr c z with z | z
    · exact a.fr c z
    · cases q : H c with
      | none => exact .inr rfl
      | some o => exact absurd z (a.ex c (by rw [q]; simp))
theorem R.aft {d : D} {v : V} (a : Aft γ H γ' H') (h : R K γ H d v) : R K γ' H' d v := R.mono a.kp a.pr d v h
theorem Rs.aft {d : List D} {v : List V} (a : Aft γ H γ' H') (h : Rs K γ H d v) : Rs K γ' H' d v := Rs.mono a.kp a.pr d v h
theorem R.same {d : D} {v : V} (a : Same H H') (h : R K γ H d v) : R K γ H' d v := R.mono (Kp.of_same a) Pre.refl d v h
theorem Rs.same {d : List D} {v : List V} (a : Same H H') (h : Rs K γ H d v) : Rs K γ H' d v := Rs.mono (Kp.of_same a) Pre.refl d v h
theorem Ro.same (r : Ro K H G γ) (s : Same H H') : Ro K H' G γ where
  len := r.len
  nd := r.nd
  ex := fun a h => Same.none' s (r.ex a h)
  rt := fun k o a e1 e2 => by
    have h := r.rt k o a e1 e2
    cases o with
    | lst ds =>
      obtain ⟨vs, h1, h2⟩ := h
      exact ⟨vs, s _ _ h1, Rs.same s h2⟩
    | dct kvs =>
      obtain ⟨xs, ep, h1, hn, h2⟩ := h
      exact ⟨xs, ep, s _ _ h1, hn, h2.mono (Kp.of_same s) Pre.refl⟩
    | ins x ns ds =>
      obtain ⟨C, dx, vs, h1, hc, h2⟩ := h
      exact ⟨C, dx, vs, s _ _ h1, hc, Rs.same s h2⟩
    | dead => trivial
theorem Sx.same (r : Sx K H δ G σ γ) (s : Same H H') : Sx K H' δ G σ γ :=
  { r.toRo.same s with
    dl := r.dl
    sl := fun i d e => by
      obtain ⟨v, h1, h2⟩ := r.sl i d e
      exact ⟨v, h1, R.same s h2⟩ }
theorem same_upd {p : Addr} {o : HO} (h : H p = none) : Same H (upd H p o) := fun b x e => by
  rw [upd_ne (ne_of_none e h)]
  exact e
end
end FL
namespace FL
open PySem PySem.Spec PyProof.Rows L2

inductive Ctl where
  | nx | rt (d : D) | bk | ct
abbrev RE := Env' → Hs → Option D
abbrev EE := Env' → Hs → Option (D × Hs)
abbrev RT := Env' → Hs → Option Bool
abbrev ET := Env' → Hs → Option (Bool × Hs)
abbrev RA := Env' → Hs → Option (List D)
abbrev EA := Env' → Hs → Option (List D × Hs)
abbrev SS := Env' → Hs → Option (Ctl × Env' × Hs)

section
variable (K : FK)
def lR (f : RE) : TE := fun σ H Q => ∃ δ G γ d, Sx K H δ G σ γ ∧ f δ G = some d ∧ ∀ v H', Same H H' → R K γ H' d v → Q v H'
def lE (f : EE) : TE := fun σ H Q => ∃ δ G γ d G', Sx K H δ G σ γ ∧ f δ G = some (d, G') ∧ ∀ v H' γ', Aft γ H γ' H' → Sx K H' δ G' σ γ' → R K γ' H' d v → Q v H'
def lRT (f : RT) : TT := fun σ H Q => ∃ δ G γ b, Sx K H δ G σ γ ∧ f δ G = some b ∧ ∀ H', Same H H' → Q b H'
def lET (f : ET) : TT := fun σ H Q => ∃ δ G γ b G', Sx K H δ G σ γ ∧ f δ G = some (b, G') ∧ ∀ H' γ', Aft γ H γ' H' → Sx K H' δ G' σ γ' → Q b H'
def lRA (f : RA) : TA := fun σ H Q => ∃ δ G γ ds, Sx K H δ G σ γ ∧ f δ G = some ds ∧ ∀ vs H', Same H H' → Rs K γ H' ds vs → Q vs H'
def lEA (f : EA) : TA := fun σ H Q => ∃ δ G γ ds G', Sx K H δ G σ γ ∧ f δ G = some (ds, G') ∧ ∀ vs H' γ', Aft γ H γ' H' → Sx K H' δ G' σ γ' → Rs K γ' H' ds vs → Q vs H'
end
def ofR (f : RE) : EE := fun δ G => (f δ G).bind fun d => some (d, G)
def ofRT (f : RT) : ET := fun δ G => (f δ G).bind fun d => some (d, G)
def ofRA (f : RA) : EA := fun δ G => (f δ G).bind fun d => some (d, G)

theorem PE.imp {X : Cx} {e : Expr} {t t' : TE} (h : PE X e t) (i : ∀ σ H Q, t' σ H Q → t σ H Q) : PE X e t' := ⟨fun pins s σ H Q I q => h.run pins s σ H Q I (i σ H Q q)⟩
theorem PT.imp {X : Cx} {e : Expr} {t t' : TT} (h : PT X e t) (i : ∀ σ H Q, t' σ H Q → t σ H Q) : PT X e t' := ⟨fun pins s σ H Q I q => h.run pins s σ H Q I (i σ H Q q)⟩
theorem PW.imp {X : Cx} {e : Expr} {t t' : TT} (h : PW X e t) (i : ∀ σ H Q, t' σ H Q → t σ H Q) : PW X e t' := ⟨fun wh pins s σ H Q I q => h.run wh pins s σ H Q I (i σ H Q q)⟩
theorem PA.imp {X : Cx} {e : List Expr} {t t' : TA} (h : PA X e t) (i : ∀ σ H Q, t' σ H Q → t σ H Q) : PA X e t' := ⟨fun p pins s σ H Q I q => h.run p pins s σ H Q I (i σ H Q q)⟩
theorem PS.imp {X : Cx} {e : Stmt} {t t' : TS} (h : PS X e t) (i : ∀ D σ H, t' D σ H → t D σ H) : PS X e t' := ⟨fun pins s σ H D I q => h.run pins s σ H D I (i D σ H q)⟩
theorem PSs.imp {X : Cx} {e : List Stmt} {t t' : TS} (h : PSs X e t) (i : ∀ D σ H, t' D σ H → t D σ H) : PSs X e t' := ⟨fun pins s σ H D I q => h.run pins s σ H D I (i D σ H q)⟩

abbrev DR (X : Cx) (e : Expr) (f : RE) : Prop := PE X e (lR X.F f)
abbrev DE (X : Cx) (e : Expr) (f : EE) : Prop := PE X e (lE X.F f)
abbrev DRT (X : Cx) (e : Expr) (f : RT) : Prop := PT X e (lRT X.F f)
abbrev DET (X : Cx) (e : Expr) (f : ET) : Prop := PT X e (lET X.F f)
abbrev DRW (X : Cx) (e : Expr) (f : RT) : Prop := PW X e (lRT X.F f)
abbrev DEW (X : Cx) (e : Expr) (f : ET) : Prop := PW X e (lET X.F f)
abbrev DRA (X : Cx) (e : List Expr) (f : RA) : Prop := PA X e (lRA X.F f)
abbrev DEA (X : Cx) (e : List Expr) (f : EA) : Prop := PA X e (lEA X.F f)

section
variable {X : Cx} {a b c e : Expr} {es rest : List Expr} {pos : Pos} {fa fb fc : RE} {ga gb gc : EE} {ta tb : RT} {ua ub : ET} {fs : RA} {gs : EA}

theorem de_of (h : DR X e fa) : DE X e (ofR fa) := PE.imp h fun σ H Q ⟨δ, G, γ, d, G', S, ef, q⟩ => by
  simp only [ofR, Option.bind_eq_some_iff, Option.some.injEq, Prod.mk.injEq] at ef
  obtain ⟨d', e1, e2, e3⟩ := ef
  subst e2 e3
  exact ⟨δ, G, γ, d', S, e1, fun v H' s r => q v H' γ (Aft.of_same s) (S.same s) r⟩
theorem det_of (h : DRT X e ta) : DET X e (ofRT ta) := PT.imp h fun σ H Q ⟨δ, G, γ, d, G', S, ef, q⟩ => by
  simp only [ofRT, Option.bind_eq_some_iff, Option.some.injEq, Prod.mk.injEq] at ef
  obtain ⟨d', e1, e2, e3⟩ := ef
  subst e2 e3
  exact ⟨δ, G, γ, d', S, e1, fun H' s => q H' γ (Aft.of_same s) (S.same s)⟩
theorem dew_of (h : DRW X e ta) : DEW X e (ofRT ta) := PW.imp h fun σ H Q ⟨δ, G, γ, d, G', S, ef, q⟩ => by
  simp only [ofRT, Option.bind_eq_some_iff, Option.some.injEq, Prod.mk.injEq] at ef
  obtain ⟨d', e1, e2, e3⟩ := ef
  subst e2 e3
  exact ⟨δ, G, γ, d', S, e1, fun H' s => q H' γ (Aft.of_same s) (S.same s)⟩

/-! names and constants -/
def rVar (i : Nat) : RE := fun δ _ => match δ[i]? with
  | some (some d) => some d
  | _ => none
def rC (d : D) : RE := fun _ _ => some d
theorem dr_var (i : Nat) {x : Str} (hN : X.N[i]? = some x := by rfl) (hv : Vis X.env.scope x := by first | exact Or.inl rfl | exact Or.inr (Or.inl rfl) | exact Or.inr (Or.inr rfl)) (hd : (x == ("__debug__" : Str)) = false := by decide)
    (hcd : (x == ("__classdict__" : Str)) = false := by decide) : DR X (.Name x pos) (rVar i) := PE.imp (pe_var hN hv hd hcd) fun σ H Q ⟨δ, G, γ, d, S, ef, q⟩ => by
  unfold rVar at ef
  split at ef
  · rename_i d' e1
    cases ef
    obtain ⟨v, h1, h2⟩ := S.sl i _ e1
    exact ⟨v, h1, q v H (Same.refl H) h2⟩
  · cases ef
theorem dr_c {d : D} {v : V} (h : PE X e (tC v)) (r : ∀ γ H, R X.F γ H d v) : DR X e (rC d) := PE.imp h fun σ H Q ⟨δ, G, γ, d', S, ef, q⟩ => by
  cases ef
  exact q v H (Same.refl H) (r γ H)
theorem dr_int {i j} : DR X (.Constant (.int i) j pos) (rC (.int i)) := dr_c pe_int fun _ _ => by simp only [R]
theorem dr_bl {i j} : DR X (.Constant (.bool i) j pos) (rC (.bl i)) := dr_c pe_bl fun _ _ => by simp only [R]
theorem dr_non {j} : DR X (.Constant .none j pos) (rC .non) := dr_c pe_non fun _ _ => by simp only [R]
theorem dr_str {i j} : DR X (.Constant (.str i) j pos) (rC (.str i)) := dr_c pe_str fun _ _ => by simp only [R]
/-- a module's constant -/
def CstOk (K : FK) (mg : Str → Option Value) (x : Str) (d : D) : Prop := ∃ u v, mg x = some u ∧ RelV v u ∧ ∀ γ H, R K γ H d v
theorem dr_g {x : Str} {d : D} (h : CstOk X.F X.mg x d) (hg : Gl X x := by rfl) (hd : (x == ("__debug__" : Str)) = false := by decide) : DR X (.Name x pos) (rC d) := by
  obtain ⟨u, v, hm, r, hr⟩ := h
  exact dr_c (pe_glob hg hm r hd) hr

/-! operators by values -/
def OpG (K : FK) (r : R2) (g : Hs → D → D → Option D) : Prop :=
  ∀ G γ H dx dy d v u Q, Ro K H G γ → R K γ H dx v → R K γ H dy u → g G dx dy = some d → (∀ v' H', Same H H' → R K γ H' d v' → Q v' H') → r v u H Q
def rBin (g : Hs → D → D → Option D) (fa fb : RE) : RE := fun δ G => (fa δ G).bind fun x => (fb δ G).bind fun y => g G x y
def eBin (g : Hs → D → D → Option D) (fa fb : EE) : EE := fun δ G => (fa δ G).bind fun x => (fb δ x.2).bind fun y => (g y.2 x.1 y.1).bind fun d => some (d, y.2)
theorem bin_r {r : R2} {g : Hs → D → D → Option D} (hr : OpG X.F r g) (σ : L2.St) (H : Hp) (Q : VK) (h : lR X.F (rBin g fa fb) σ H Q) : tOp r (lR X.F fa) (lR X.F fb) σ H Q := by
  obtain ⟨δ, G, γ, d, S, ef, q⟩ := h
  simp only [rBin, Option.bind_eq_some_iff] at ef
  obtain ⟨x, ex, y, ey, eg⟩ := ef
  refine ⟨δ, G, γ, x, S, ex, fun v H1 s1 r1 => ⟨δ, G, γ, y, S.same s1, ey, fun u H2 s2 r2 => ?_⟩⟩
  exact hr G γ H2 x y d v u Q ((S.same s1).same s2).toRo (R.same s2 r1) r2 eg fun v' H3 s3 r3 => q v' H3 (s1.trans (s2.trans s3)) r3
theorem bin_e {r : R2} {g : Hs → D → D → Option D} (hr : OpG X.F r g) (σ : L2.St) (H : Hp) (Q : VK) (h : lE X.F (eBin g ga gb) σ H Q) : tOp r (lE X.F ga) (lE X.F gb) σ H Q := by
  obtain ⟨δ, G, γ, d, G', S, ef, q⟩ := h
  simp only [eBin, Option.bind_eq_some_iff, Option.some.injEq, Prod.mk.injEq] at ef
  obtain ⟨⟨x, G1⟩, ex, ⟨y, G2⟩, ey, d', eg, rfl, rfl⟩ := ef
  refine ⟨δ, G, γ, x, G1, S, ex, fun v H1 γ1 a1 S1 r1 => ⟨δ, G1, γ1, y, G2, S1, ey, fun u H2 γ2 a2 S2 r2 => ?_⟩⟩
  exact hr G2 γ2 H2 x y d' v u Q S2.toRo (R.aft a2 r1) r2 eg fun v' H3 s3 r3 => q v' H3 γ2 (a1.trans (a2.trans (Aft.of_same s3))) (S2.same s3) r3
theorem dr_op {op : Operator} {r : R2} {g : Hs → D → D → Option D} (ho : OpR X (binaryOp op) r) (hr : OpG X.F r g) (ha : DR X a fa) (hb : DR X b fb) : DR X (.BinOp a op b pos) (rBin g fa fb) := PE.imp (pe_op ho ha hb) (bin_r hr)
theorem de_op {op : Operator} {r : R2} {g : Hs → D → D → Option D} (ho : OpR X (binaryOp op) r) (hr : OpG X.F r g) (ha : DE X a ga) (hb : DE X b gb) : DE X (.BinOp a op b pos) (eBin g ga gb) := PE.imp (pe_op ho ha hb) (bin_e hr)
theorem dr_cmp {op : CmpOp} {r : R2} {g : Hs → D → D → Option D} (ho : OpR X (compareOp op) r) (hr : OpG X.F r g) (ha : DR X a fa) (hb : DR X b fb) (hm : behindInMarks op b = false) : DR X (.Compare a [op] [b] pos) (rBin g fa fb) := PE.imp (pe_cmpR ho ha hb hm) (bin_r hr)
theorem de_cmp {op : CmpOp} {r : R2} {g : Hs → D → D → Option D} (ho : OpR X (compareOp op) r) (hr : OpG X.F r g) (ha : DE X a ga) (hb : DE X b gb) (hm : behindInMarks op b = false) : DE X (.Compare a [op] [b] pos) (eBin g ga gb) := PE.imp (pe_cmpR ho ha hb hm) (bin_e hr)

/-! a bool as a test -/
def toB : D → Option Bool
  | .bl b => some b
  | _ => none
def rB (f : RE) : RT := fun δ G => (f δ G).bind toB
def eB (f : EE) : ET := fun δ G => (f δ G).bind fun x => (toB x.1).bind fun b => some (b, x.2)
theorem toB_some {d : D} {b : Bool} (h : toB d = some b) : d = .bl b := by
  unfold toB at h
  split at h
  · cases h; rfl
  · cases h
theorem test_r {t : TE} {f : RE} (hi : ∀ σ H Q, lR X.F f σ H Q → t σ H Q) (σ : L2.St) (H : Hp) (Q : Bool → Hp → Prop) (h : lRT X.F (rB f) σ H Q) : t σ H fun x H' => ∃ k, x = .bl k ∧ Q k H' := by
  obtain ⟨δ, G, γ, b, S, ef, q⟩ := h
  simp only [rB, Option.bind_eq_some_iff] at ef
  obtain ⟨x, ex, eb⟩ := ef
  obtain rfl := toB_some eb
  refine hi σ H _ ⟨δ, G, γ, _, S, ex, fun v H1 s1 r1 => ?_⟩
  simp only [R] at r1
  exact ⟨b, r1, q H1 s1⟩
theorem test_e {t : TE} {f : EE} (hi : ∀ σ H Q, lE X.F f σ H Q → t σ H Q) (σ : L2.St) (H : Hp) (Q : Bool → Hp → Prop) (h : lET X.F (eB f) σ H Q) : t σ H fun x H' => ∃ k, x = .bl k ∧ Q k H' := by
  obtain ⟨δ, G, γ, b, G', S, ef, q⟩ := h
  simp only [eB, Option.bind_eq_some_iff, Option.some.injEq, Prod.mk.injEq] at ef
  obtain ⟨⟨x, G1⟩, ex, b', eb, rfl, rfl⟩ := ef
  obtain rfl := toB_some eb
  refine hi σ H _ ⟨δ, G, γ, _, G1, S, ex, fun v H1 γ1 a1 S1 r1 => ?_⟩
  simp only [R] at r1
  exact ⟨b', r1, q H1 γ1 a1 S1⟩
theorem drt_cmp {op : CmpOp} {r : R2} {g : Hs → D → D → Option D} (ho : OpR X (compareOp op) r) (hr : OpG X.F r g) (ha : DR X a fa) (hb : DR X b fb) (hm : behindInMarks op b = false) : DRT X (.Compare a [op] [b] pos) (rB (rBin g fa fb)) := PT.imp (pt_cmpR ho ha hb hm) (test_r (bin_r hr))
theorem det_cmp {op : CmpOp} {r : R2} {g : Hs → D → D → Option D} (ho : OpR X (compareOp op) r) (hr : OpG X.F r g) (ha : DE X a ga) (hb : DE X b gb) (hm : behindInMarks op b = false) : DET X (.Compare a [op] [b] pos) (eB (eBin g ga gb)) := PT.imp (pt_cmpR ho ha hb hm) (test_e (bin_e hr))
/-- an expression that is a bool (a name, a call), as a test -/
theorem drt_val (ha : DR X a fa) (he : ∀ whole, isTrue a X.env whole = (do let v ← whole; standAt a.pos; holding [v] (truthy v)) := by intro _; rfl) : DRT X a (rB fa) := PT.imp (pt_val ha he) (test_r fun _ _ _ h => h)
theorem det_val (ha : DE X a ga) (he : ∀ whole, isTrue a X.env whole = (do let v ← whole; standAt a.pos; holding [v] (truthy v)) := by intro _; rfl) : DET X a (eB ga) := PT.imp (pt_val ha he) (test_e fun _ _ _ h => h)
/-- truth of any value -/
def truD (G : Hs) : D → Option Bool
  | .non => some false
  | .bl b => some b
  | .int i => some (i != 0)
  | .tup ds => some (!ds.isEmpty)
  | .fl ds => some (!ds.isEmpty)
  | .scr ns => some (!ns.isEmpty)
  | .rf k => match G[k]? with
    | some (.lst ds) => some (!ds.isEmpty)
    | _ => none
  | _ => none
def rTru (f : RE) : RT := fun δ G => (f δ G).bind (truD G)
def eTru (f : EE) : ET := fun δ G => (f δ G).bind fun x => (truD x.2 x.1).bind fun b => some (b, x.2)
theorem Rs.isEmpty {K : FK} {γ : List Addr} {H : Hp} {ds : List D} {vs : List V} (h : Rs K γ H ds vs) : vs.isEmpty = ds.isEmpty := by
  cases ds with
  | nil =>
    rw [h.of_nil]
    rfl
  | cons d ds =>
    obtain ⟨v, r, rfl, _⟩ := h.of_cons
    rfl
theorem Ro.at {K : FK} {γ : List Addr} {H : Hp} {G : Hs} {k : Nat} {o : GO} {a : Addr} (r : Ro K H G γ) (e : G[k]? = some o) (ha : γ[k]? = some a) : RG K γ H o a := r.rt k o a e ha
theorem truD_ok {K : FK} {γ : List Addr} {H : Hp} {G : Hs} {d : D} {v : V} {b : Bool} (r : Ro K H G γ) (h : R K γ H d v) (e : truD G d = some b) : TruV K v H b := by
  cases d with
  | non => simp only [R] at h; simp only [truD, Option.some.injEq] at e; subst h e; rfl
  | bl _ => simp only [R] at h; simp only [truD, Option.some.injEq] at e; subst h e; rfl
  | int _ => simp only [R] at h; simp only [truD, Option.some.injEq] at e; subst h e; rfl
  | str _ => cases e
  | tup ds =>
    simp only [R] at h
    simp only [truD, Option.some.injEq] at e
    obtain ⟨a, vs, rfl, h1, h2⟩ := h
    subst e
    exact .inr (.inl ⟨vs, h1, by rw [h2.isEmpty]⟩)
  | fl ds =>
    simp only [R] at h
    simp only [truD, Option.some.injEq] at e
    obtain ⟨a, vs, rfl, h1, h2⟩ := h
    subst e
    exact .inl ⟨vs, h1.sq, by rw [h2.isEmpty]⟩
  | obj _ _ _ => cases e
  | scr ns =>
    simp only [R] at h
    simp only [truD, Option.some.injEq] at e
    obtain ⟨a, rfl, h1⟩ := h
    subst e
    exact .inl ⟨ns.map V.int, h1.sq, by rw [List.isEmpty_map]⟩
  | fd _ _ => cases e
  | rf k =>
    simp only [R] at h
    obtain ⟨a, rfl, h1⟩ := h
    simp only [truD] at e
    split at e
    · rename_i ds eg
      cases e
      obtain ⟨vs, h2, h3⟩ := r.at eg h1
      exact .inl ⟨vs, .inl (.inl h2), by rw [h3.isEmpty]⟩
    · cases e
theorem drt_tru (ha : DR X a fa) (he : ∀ whole, isTrue a X.env whole = (do let v ← whole; standAt a.pos; holding [v] (truthy v)) := by intro _; rfl) : DRT X a (rTru fa) := PT.imp (pt_truth ha he) fun σ H Q ⟨δ, G, γ, b, S, ef, q⟩ => by
  simp only [rTru, Option.bind_eq_some_iff] at ef
  obtain ⟨x, ex, eb⟩ := ef
  exact ⟨δ, G, γ, x, S, ex, fun v H1 s1 r1 => ⟨b, truD_ok (S.same s1).toRo r1 eb, q H1 s1⟩⟩
theorem det_tru (ha : DE X a ga) (he : ∀ whole, isTrue a X.env whole = (do let v ← whole; standAt a.pos; holding [v] (truthy v)) := by intro _; rfl) : DET X a (eTru ga) := PT.imp (pt_truth ha he) fun σ H Q ⟨δ, G, γ, b, G', S, ef, q⟩ => by
  simp only [eTru, Option.bind_eq_some_iff, Option.some.injEq, Prod.mk.injEq] at ef
  obtain ⟨⟨x, G1⟩, ex, b', eb, rfl, rfl⟩ := ef
  exact ⟨δ, G, γ, x, G1, S, ex, fun v H1 γ1 a1 S1 r1 => ⟨b', truD_ok S1.toRo r1 eb, q H1 γ1 a1 S1⟩⟩

/-! and, or, not -/
def rAnd (f g : RT) : RT := fun δ G => (f δ G).bind fun b => if b = true then g δ G else some false
def rOr (f g : RT) : RT := fun δ G => (f δ G).bind fun b => if b = true then some true else g δ G
def rNot (f : RT) : RT := fun δ G => (f δ G).bind fun b => some (!b)
def eAnd (f g : ET) : ET := fun δ G => (f δ G).bind fun b => if b.1 = true then g δ b.2 else some (false, b.2)
def eOr (f g : ET) : ET := fun δ G => (f δ G).bind fun b => if b.1 = true then some (true, b.2) else g δ b.2
def eNot (f : ET) : ET := fun δ G => (f δ G).bind fun b => some (!b.1, b.2)
theorem and_r (σ : L2.St) (H : Hp) (Q : Bool → Hp → Prop) (h : lRT X.F (rAnd ta tb) σ H Q) : tAnd (lRT X.F ta) (lRT X.F tb) σ H Q := by
  obtain ⟨δ, G, γ, b, S, ef, q⟩ := h
  simp only [rAnd, Option.bind_eq_some_iff] at ef
  obtain ⟨x, ex, eb⟩ := ef
  refine ⟨δ, G, γ, x, S, ex, fun H1 s1 => ?_⟩
  cases x with
  | true => exact ⟨δ, G, γ, b, S.same s1, by simpa using eb, fun H2 s2 => q H2 (s1.trans s2)⟩
  | false =>
    have : b = false := by simpa using eb.symm
    subst this
    exact q H1 s1
theorem or_r (σ : L2.St) (H : Hp) (Q : Bool → Hp → Prop) (h : lRT X.F (rOr ta tb) σ H Q) : tOr (lRT X.F ta) (lRT X.F tb) σ H Q := by
  obtain ⟨δ, G, γ, b, S, ef, q⟩ := h
  simp only [rOr, Option.bind_eq_some_iff] at ef
  obtain ⟨x, ex, eb⟩ := ef
  refine ⟨δ, G, γ, x, S, ex, fun H1 s1 => ?_⟩
  cases x with
  | false => exact ⟨δ, G, γ, b, S.same s1, by simpa using eb, fun H2 s2 => q H2 (s1.trans s2)⟩
  | true =>
    have : b = true := by simpa using eb.symm
    subst this
    exact q H1 s1
theorem and_e (σ : L2.St) (H : Hp) (Q : Bool → Hp → Prop) (h : lET X.F (eAnd ua ub) σ H Q) : tAnd (lET X.F ua) (lET X.F ub) σ H Q := by
  obtain ⟨δ, G, γ, b, G', S, ef, q⟩ := h
  simp only [eAnd, Option.bind_eq_some_iff] at ef
  obtain ⟨⟨x, G1⟩, ex, eb⟩ := ef
  refine ⟨δ, G, γ, x, G1, S, ex, fun H1 γ1 a1 S1 => ?_⟩
  cases x with
  | true => exact ⟨δ, G1, γ1, b, G', S1, by simpa using eb, fun H2 γ2 a2 S2 => q H2 γ2 (a1.trans a2) S2⟩
  | false =>
    obtain ⟨e1, e2⟩ : false = b ∧ G1 = G' := by simpa using eb
    subst e1 e2
    exact q H1 γ1 a1 S1
theorem or_e (σ : L2.St) (H : Hp) (Q : Bool → Hp → Prop) (h : lET X.F (eOr ua ub) σ H Q) : tOr (lET X.F ua) (lET X.F ub) σ H Q := by
  obtain ⟨δ, G, γ, b, G', S, ef, q⟩ := h
  simp only [eOr, Option.bind_eq_some_iff] at ef
  obtain ⟨⟨x, G1⟩, ex, eb⟩ := ef
  refine ⟨δ, G, γ, x, G1, S, ex, fun H1 γ1 a1 S1 => ?_⟩
  cases x with
  | false => exact ⟨δ, G1, γ1, b, G', S1, by simpa using eb, fun H2 γ2 a2 S2 => q H2 γ2 (a1.trans a2) S2⟩
  | true =>
    obtain ⟨e1, e2⟩ : true = b ∧ G1 = G' := by simpa using eb
    subst e1 e2
    exact q H1 γ1 a1 S1
theorem drw_and1 (ha : DRT X a ta) : DRW X (.BoolOp .And [a] pos) ta := pw_and1 ha
theorem drw_or1 (ha : DRT X a ta) : DRW X (.BoolOp .Or [a] pos) ta := pw_or1 ha
theorem drw_and (ha : DRT X a ta) (hb : DRW X (.BoolOp .And (b :: rest) pos) tb) : DRW X (.BoolOp .And (a :: b :: rest) pos) (rAnd ta tb) := PW.imp (pw_and ha hb) and_r
theorem drw_or (ha : DRT X a ta) (hb : DRW X (.BoolOp .Or (b :: rest) pos) tb) : DRW X (.BoolOp .Or (a :: b :: rest) pos) (rOr ta tb) := PW.imp (pw_or ha hb) or_r
theorem dew_and1 (ha : DET X a ua) : DEW X (.BoolOp .And [a] pos) ua := pw_and1 ha
theorem dew_or1 (ha : DET X a ua) : DEW X (.BoolOp .Or [a] pos) ua := pw_or1 ha
theorem dew_and (ha : DET X a ua) (hb : DEW X (.BoolOp .And (b :: rest) pos) ub) : DEW X (.BoolOp .And (a :: b :: rest) pos) (eAnd ua ub) := PW.imp (pw_and ha hb) and_e
theorem dew_or (ha : DET X a ua) (hb : DEW X (.BoolOp .Or (b :: rest) pos) ub) : DEW X (.BoolOp .Or (a :: b :: rest) pos) (eOr ua ub) := PW.imp (pw_or ha hb) or_e
theorem drt_not (ha : DRT X a ta) : DRT X (.UnaryOp .Not a pos) (rNot ta) := PT.imp (pt_not ha) fun σ H Q ⟨δ, G, γ, b, S, ef, q⟩ => by
  simp only [rNot, Option.bind_eq_some_iff, Option.some.injEq] at ef
  obtain ⟨x, ex, rfl⟩ := ef
  exact ⟨δ, G, γ, x, S, ex, fun H1 s1 => q H1 s1⟩
theorem det_not (ha : DET X a ua) : DET X (.UnaryOp .Not a pos) (eNot ua) := PT.imp (pt_not ha) fun σ H Q ⟨δ, G, γ, b, G', S, ef, q⟩ => by
  simp only [eNot, Option.bind_eq_some_iff, Option.some.injEq, Prod.mk.injEq] at ef
  obtain ⟨⟨x, G1⟩, ex, rfl, rfl⟩ := ef
  exact ⟨δ, G, γ, x, G1, S, ex, fun H1 γ1 a1 S1 => q H1 γ1 a1 S1⟩
/-- .. as values -/
def rAndV (f g : RE) : RE := fun δ G => (f δ G).bind fun x => (toB x).bind fun b => if b = true then g δ G else some (.bl false)
def rOrV (f g : RE) : RE := fun δ G => (f δ G).bind fun x => (toB x).bind fun b => if b = true then some (.bl true) else g δ G
def rNotV (f : RE) : RE := fun δ G => (f δ G).bind fun x => (toB x).bind fun b => some (.bl (!b))
theorem dr_one {op} (h : DR X a fa) : DR X (.BoolOp op [a] pos) fa := pe_one h
theorem dr_and (ha : DR X a fa) (hb : DR X (.BoolOp .And (b :: rest) pos) fb) : DR X (.BoolOp .And (a :: b :: rest) pos) (rAndV fa fb) := PE.imp (pe_and ha hb) fun σ H Q ⟨δ, G, γ, d, S, ef, q⟩ => by
  simp only [rAndV, Option.bind_eq_some_iff] at ef
  obtain ⟨x, ex, k, ek, eb⟩ := ef
  obtain rfl := toB_some ek
  refine ⟨δ, G, γ, _, S, ex, fun v H1 s1 r1 => ?_⟩
  simp only [R] at r1
  refine ⟨k, r1, ?_⟩
  cases k with
  | true => exact ⟨δ, G, γ, d, S.same s1, by simpa using eb, fun u H2 s2 r2 => q u H2 (s1.trans s2) r2⟩
  | false =>
    obtain rfl : D.bl false = d := by simpa using eb
    exact q _ H1 s1 (by simp only [R])
theorem dr_or (ha : DR X a fa) (hb : DR X (.BoolOp .Or (b :: rest) pos) fb) : DR X (.BoolOp .Or (a :: b :: rest) pos) (rOrV fa fb) := PE.imp (pe_or ha hb) fun σ H Q ⟨δ, G, γ, d, S, ef, q⟩ => by
  simp only [rOrV, Option.bind_eq_some_iff] at ef
  obtain ⟨x, ex, k, ek, eb⟩ := ef
  obtain rfl := toB_some ek
  refine ⟨δ, G, γ, _, S, ex, fun v H1 s1 r1 => ?_⟩
  simp only [R] at r1
  refine ⟨k, r1, ?_⟩
  cases k with
  | false => exact ⟨δ, G, γ, d, S.same s1, by simpa using eb, fun u H2 s2 r2 => q u H2 (s1.trans s2) r2⟩
  | true =>
    obtain rfl : D.bl true = d := by simpa using eb
    exact q _ H1 s1 (by simp only [R])
theorem dr_not (ha : DR X a fa) : DR X (.UnaryOp .Not a pos) (rNotV fa) := PE.imp (pe_not ha) fun σ H Q ⟨δ, G, γ, d, S, ef, q⟩ => by
  simp only [rNotV, Option.bind_eq_some_iff, Option.some.injEq] at ef
  obtain ⟨x, ex, k, ek, rfl⟩ := ef
  obtain rfl := toB_some ek
  refine ⟨δ, G, γ, _, S, ex, fun v H1 s1 r1 => ?_⟩
  simp only [R] at r1
  exact ⟨k, r1, q _ H1 s1 (by simp only [R])⟩
/-- a if t else b -/
def rIf (t : RT) (f g : RE) : RE := fun δ G => (t δ G).bind fun b => if b = true then f δ G else g δ G
def eIf (t : ET) (f g : EE) : EE := fun δ G => (t δ G).bind fun b => if b.1 = true then f δ b.2 else g δ b.2
theorem dr_if (hc : DRT X c ta) (ha : DR X a fa) (hb : DR X b fb) : DR X (.IfExp c a b pos) (rIf ta fa fb) := PE.imp (pe_ifExp hc ha hb) fun σ H Q ⟨δ, G, γ, d, S, ef, q⟩ => by
  simp only [rIf, Option.bind_eq_some_iff] at ef
  obtain ⟨x, ex, eb⟩ := ef
  refine ⟨δ, G, γ, x, S, ex, fun H1 s1 => ?_⟩
  cases x with
  | true => exact ⟨δ, G, γ, d, S.same s1, by simpa using eb, fun u H2 s2 r2 => q u H2 (s1.trans s2) r2⟩
  | false => exact ⟨δ, G, γ, d, S.same s1, by simpa using eb, fun u H2 s2 r2 => q u H2 (s1.trans s2) r2⟩
theorem de_if (hc : DET X c ua) (ha : DE X a ga) (hb : DE X b gb) : DE X (.IfExp c a b pos) (eIf ua ga gb) := PE.imp (pe_ifExp hc ha hb) fun σ H Q ⟨δ, G, γ, d, G', S, ef, q⟩ => by
  simp only [eIf, Option.bind_eq_some_iff] at ef
  obtain ⟨⟨x, G1⟩, ex, eb⟩ := ef
  refine ⟨δ, G, γ, x, G1, S, ex, fun H1 γ1 a1 S1 => ?_⟩
  cases x with
  | true => exact ⟨δ, G1, γ1, d, G', S1, by simpa using eb, fun u H2 γ2 a2 S2 r2 => q u H2 γ2 (a1.trans a2) S2 r2⟩
  | false => exact ⟨δ, G1, γ1, d, G', S1, by simpa using eb, fun u H2 γ2 a2 S2 r2 => q u H2 γ2 (a1.trans a2) S2 r2⟩

/-! argument lists, displays -/
def rNil : RA := fun _ _ => some []
def rCons (f : RE) (fs : RA) : RA := fun δ G => (f δ G).bind fun x => (fs δ G).bind fun xs => some (x :: xs)
def eCons (f : EE) (fs : EA) : EA := fun δ G => (f δ G).bind fun x => (fs δ x.2).bind fun xs => some (x.1 :: xs.1, xs.2)
theorem dra_nil : DRA X [] rNil := PA.imp pa_nil fun σ H Q ⟨δ, G, γ, d, S, ef, q⟩ => by
  cases ef
  exact q [] H (Same.refl H) Rs.nil
theorem dea_nil : DEA X [] (ofRA rNil) := PA.imp pa_nil fun σ H Q ⟨δ, G, γ, d, G', S, ef, q⟩ => by
  cases ef
  exact q [] H γ Aft.refl S Rs.nil
theorem dra_cons (ha : DR X e fa) (hr : DRA X es fs) (hs : starEach (e :: es) X.env = (false, eval e X.env) :: starEach es X.env := by rfl) : DRA X (e :: es) (rCons fa fs) := PA.imp (pa_cons ha hr hs) fun σ H Q ⟨δ, G, γ, d, S, ef, q⟩ => by
  simp only [rCons, Option.bind_eq_some_iff, Option.some.injEq] at ef
  obtain ⟨x, ex, xs, exs, rfl⟩ := ef
  exact ⟨δ, G, γ, x, S, ex, fun v H1 s1 r1 => ⟨δ, G, γ, xs, S.same s1, exs, fun vs H2 s2 r2 => q (v :: vs) H2 (s1.trans s2) (Rs.cons (R.same s2 r1) r2)⟩⟩
theorem dea_cons (ha : DE X e ga) (hr : DEA X es gs) (hs : starEach (e :: es) X.env = (false, eval e X.env) :: starEach es X.env := by rfl) : DEA X (e :: es) (eCons ga gs) := PA.imp (pa_cons ha hr hs) fun σ H Q ⟨δ, G, γ, d, G', S, ef, q⟩ => by
  simp only [eCons, Option.bind_eq_some_iff, Option.some.injEq, Prod.mk.injEq] at ef
  obtain ⟨⟨x, G1⟩, ex, ⟨xs, G2⟩, exs, rfl, rfl⟩ := ef
  exact ⟨δ, G, γ, x, G1, S, ex, fun v H1 γ1 a1 S1 r1 => ⟨δ, G1, γ1, xs, G2, S1, exs, fun vs H2 γ2 a2 S2 r2 => q (v :: vs) H2 γ2 (a1.trans a2) S2 (Rs.cons (R.aft a2 r1) r2)⟩⟩
/-- a tuple display: at most so many items -/
def rTup (fs : RA) : RE := fun δ G => (fs δ G).bind fun xs => if xs.length ≤ 1000 then some (.tup xs) else none
def eTup (fs : EA) : EE := fun δ G => (fs δ G).bind fun xs => if xs.1.length ≤ 1000 then some (.tup xs.1, xs.2) else none
theorem new_tup {K : FK} {γ : List Addr} {H : Hp} {p : Addr} {xs : List D} {vs : List V} (hp : H p = none) (h : Rs K γ H xs vs) : Same H (upd H p (.tup vs)) ∧ R K γ (upd H p (.tup vs)) (.tup xs) (.ref p) := by
  have s := same_upd (o := .tup vs) hp
  refine ⟨s, ?_⟩
  simp only [R]
  exact ⟨p, vs, rfl, .inl (.inl upd_same), Rs.same s h⟩
theorem line1000 {n : Nat} (h : n ≤ 1000) : n ≤ sizeLine := Nat.le_of_lt (small1000 h)
theorem dr_tup {x1} (h : DRA X es fs) : DR X (.Tuple es x1 pos) (rTup fs) := PE.imp (pe_tup h) fun σ H Q ⟨δ, G, γ, d, S, ef, q⟩ => by
  simp only [rTup, Option.bind_eq_some_iff] at ef
  obtain ⟨xs, exs, ei⟩ := ef
  split at ei
  · rename_i hl
    cases ei
    refine ⟨δ, G, γ, xs, S, exs, fun vs H1 s1 r1 => ⟨line1000 (by rw [← r1.length]; exact hl), fun p hp => ?_⟩⟩
    obtain ⟨s2, r2⟩ := new_tup hp r1
    exact q _ _ (s1.trans s2) r2
  · cases ei
theorem de_tup {x1} (h : DEA X es gs) : DE X (.Tuple es x1 pos) (eTup gs) := PE.imp (pe_tup h) fun σ H Q ⟨δ, G, γ, d, G', S, ef, q⟩ => by
  simp only [eTup, Option.bind_eq_some_iff] at ef
  obtain ⟨⟨xs, G1⟩, exs, ei⟩ := ef
  split at ei
  · rename_i hl
    cases ei
    refine ⟨δ, G, γ, xs, G1, S, exs, fun vs H1 γ1 a1 S1 r1 => ⟨line1000 (by rw [← r1.length]; exact hl), fun p hp => ?_⟩⟩
    obtain ⟨s2, r2⟩ := new_tup hp r1
    exact q _ _ γ1 (a1.trans (Aft.of_same s2)) (S1.same s2) r2
  · cases ei
end
end FL
namespace FL
open PySem PySem.Spec PyProof.Rows L2

/-! new lists: frozen at once, or a root -/
def tFrz (t : TE) : TE := fun σ H Q => t σ H fun v H1 => ∃ p vs, v = .ref p ∧ H1 p = some (.lst vs) ∧ ∀ od, Q v (upd H1 p (.frz od (.lst vs)))
theorem pe_frz {X : Cx} {e : Expr} {t : TE} (h : PE X e t) : PE X e (tFrz t) := by
  refine ⟨fun pins s σ H Q I hw => ?_⟩
  refine thn (h.run pins s σ H _ I hw) fun u s1 ⟨v, H1, I1, r1, p, vs, ev, hp, q⟩ => ?_
  obtain ⟨od, I2⟩ := I1.lock hp True.intro
  exact ⟨v, _, I2, r1, q od⟩
section
variable {K : FK} {γ γ' : List Addr} {H H' : Hp} {δ : Env'} {G : Hs} {σ : L2.St}
theorem new_fl {p : Addr} {od : Obj} {xs : List D} {vs : List V} (hp : H p = none) (h : Rs K γ H xs vs) : Same H (upd (upd H p (.lst vs)) p (.frz od (.lst vs))) ∧ R K γ (upd (upd H p (.lst vs)) p (.frz od (.lst vs))) (.fl xs) (.ref p) := by
  rw [upd_upd]
  have s := same_upd (o := .frz od (.lst vs)) hp
  refine ⟨s, ?_⟩
  simp only [R]
  exact ⟨p, vs, rfl, ⟨od, upd_same⟩, Rs.same s h⟩
/-- a reading that ends in a new list, frozen -/
theorem frz_end {p : Addr} {xs : List D} {vs : List V} {Q : VK} (hp : H p = none) (h : Rs K γ H xs vs) (q : ∀ v H', Same H H' → R K γ H' (.fl xs) v → Q v H') :
    ∃ p' vs', V.ref p = .ref p' ∧ (upd H p (.lst vs)) p' = some (.lst vs') ∧ ∀ od, Q (.ref p) (upd (upd H p (.lst vs)) p' (.frz od (.lst vs'))) := by
  refine ⟨p, vs, rfl, upd_same, fun od => ?_⟩
  obtain ⟨s, r⟩ := new_fl (od := od) hp h
  exact q _ _ s r
theorem RG.same {o : GO} {a : Addr} (s : Same H H') (h : RG K γ H o a) : RG K γ H' o a := by
  cases o with
  | lst ds =>
    obtain ⟨vs, h1, h2⟩ := h
    exact ⟨vs, s _ _ h1, Rs.same s h2⟩
  | dct kvs =>
    obtain ⟨xs, ep, h1, hn, h2⟩ := h
    exact ⟨xs, ep, s _ _ h1, hn, h2.mono (Kp.of_same s) Pre.refl⟩
  | ins nx ns ds =>
    obtain ⟨C, dx, vs, h1, hc, h2⟩ := h
    exact ⟨C, dx, vs, s _ _ h1, hc, Rs.same s h2⟩
  | dead => trivial
theorem RG.pre {o : GO} {a : Addr} (p : Pre γ γ') (h : RG K γ H o a) : RG K γ' H o a := by
  cases o with
  | lst ds =>
    obtain ⟨vs, h1, h2⟩ := h
    exact ⟨vs, h1, Rs.mono Kp.refl p _ _ h2⟩
  | dct kvs =>
    obtain ⟨xs, ep, h1, hn, h2⟩ := h
    exact ⟨xs, ep, h1, hn, h2.mono Kp.refl p⟩
  | ins nx ns ds =>
    obtain ⟨C, dx, vs, h1, hc, h2⟩ := h
    exact ⟨C, dx, vs, h1, hc, Rs.mono Kp.refl p _ _ h2⟩
  | dead => trivial
/-- a new root -/
theorem Sx.push {p : Addr} {xs : List D} {vs : List V} (S : Sx K H δ G σ γ) (hp : H p = none) (h : Rs K γ H xs vs) :
    Aft γ H (γ ++ [p]) (upd H p (.lst vs)) ∧ Sx K (upd H p (.lst vs)) δ (G ++ [.lst xs]) σ (γ ++ [p]) ∧ R K (γ ++ [p]) (upd H p (.lst vs)) (.rf G.length) (.ref p) := by
  have s := same_upd (o := .lst vs) hp
  have np : p ∉ γ := fun z => S.ex p z hp
  refine ⟨⟨fun b o e _ => s b o e, fun b e => Same.none' s e, List.prefix_append _ _, fun a z => ?_⟩, ⟨⟨?_, ?_, fun a z => ?_, fun k o a e1 e2 => ?_⟩, S.dl, fun i d e => ?_⟩, ?_⟩
  · rcases List.mem_append.mp z with z | z
    · exact .inl z
    · have : a = p := by simpa using z
      subst this
      exact .inr hp
  · simp [S.len]
  · rw [List.nodup_append]
    exact ⟨S.nd, by simp, fun a ha b hb e => by
      have : b = p := by simpa using hb
      subst this
      subst e
      exact np ha⟩
  · rcases List.mem_append.mp z with z | z
    · exact Same.none' s (S.ex a z)
    · have : a = p := by simpa using z
      subst this
      rw [upd_same]
      simp
  · by_cases hk : k < G.length
    · rw [List.getElem?_append_left hk] at e1
      rw [List.getElem?_append_left (by rw [← S.len]; exact hk)] at e2
      exact RG.pre Pre.app (RG.same s (S.rt k o a e1 e2))
    · have hk' : k = G.length := by
        have := (List.getElem?_eq_some_iff.mp e1).1
        simp at this
        omega
      subst hk'
      rw [List.getElem?_append_right (Nat.le_refl _)] at e1
      rw [S.len, List.getElem?_append_right (Nat.le_refl _)] at e2
      simp at e1 e2
      subst e1 e2
      exact ⟨vs, upd_same, Rs.mono (Kp.of_same s) Pre.app _ _ h⟩
  · obtain ⟨v, h1, h2⟩ := S.sl i d e
    exact ⟨v, h1, R.mono (Kp.of_same s) Pre.app _ _ h2⟩
  · simp only [R]
    exact ⟨p, rfl, by rw [S.len, List.getElem?_append_right (Nat.le_refl _)]; simp⟩
/-- a root written -/
theorem Sx.put {a : Addr} {k : Nat} {xs ys : List D} {us vs : List V} (S : Sx K H δ G σ γ) (hk : γ[k]? = some a) (hg : G[k]? = some (.lst xs)) (ha : H a = some (.lst us)) (h : Rs K γ H ys vs) :
    Aft γ H γ (upd H a (.lst vs)) ∧ Sx K (upd H a (.lst vs)) δ (G.set k (.lst ys)) σ γ := by
  have ma : a ∈ γ := List.mem_of_getElem? hk
  have kp : Kp H (upd H a (.lst vs)) := fun b o e i => by
    rw [upd_ne]
    · exact e
    · intro z
      subst z
      rw [ha] at e
      cases e
      cases i
  refine ⟨⟨fun b o e i => ?_, fun b e => ?_, List.prefix_rfl, fun b z => .inl z⟩, ⟨⟨by simp [S.len], S.nd, fun b z => ?_, fun j o b e1 e2 => ?_⟩, S.dl, fun i d e => ?_⟩⟩
  · rcases i with i | i
    · rw [upd_ne (fun z => i (by rw [z]; exact ma))]
      exact e
    · exact kp b o e i
  · unfold upd
    split
    · simp
    · exact e
  · unfold upd
    split
    · simp
    · exact S.ex b z
  · by_cases hj : j = k
    · subst hj
      rw [hk] at e2
      cases e2
      have := (List.getElem?_eq_some_iff.mp hg).1
      rw [List.getElem?_set_self this] at e1
      cases e1
      exact ⟨vs, upd_same, Rs.mono kp Pre.refl _ _ h⟩
    · rw [List.getElem?_set_ne (Ne.symm hj)] at e1
      have nb : b ≠ a := fun z => by
        subst z
        obtain ⟨h1, e1'⟩ := List.getElem?_eq_some_iff.mp hk
        obtain ⟨h2, e2'⟩ := List.getElem?_eq_some_iff.mp e2
        exact hj ((List.getElem_inj S.nd).mp (e2'.trans e1'.symm))
      have q := S.rt j o b e1 e2
      cases o with
      | lst ds =>
        obtain ⟨ws, h1, h2⟩ := q
        exact ⟨ws, by rw [upd_ne nb]; exact h1, Rs.mono kp Pre.refl _ _ h2⟩
      | dct kvs =>
        obtain ⟨xs, ep, h1, hn, h2⟩ := q
        exact ⟨xs, ep, by rw [upd_ne nb]; exact h1, hn, h2.mono kp Pre.refl⟩
      | ins nx ns ds =>
        obtain ⟨C, dx, ws, h1, hc, h2⟩ := q
        exact ⟨C, dx, ws, by rw [upd_ne nb]; exact h1, hc, Rs.mono kp Pre.refl _ _ h2⟩
      | dead => trivial
  · obtain ⟨v, h1, h2⟩ := S.sl i d e
    exact ⟨v, h1, R.mono kp Pre.refl _ _ h2⟩
end

section
variable {X : Cx} {a b c e : Expr} {es rest : List Expr} {pos : Pos} {fa fb fc : RE} {ga gb gc : EE} {ta tb : RT} {ua ub : ET} {fs : RA} {gs : EA}
def rFl (fs : RA) : RE := fun δ G => (fs δ G).bind fun xs => if xs.length ≤ 1000 then some (.fl xs) else none
def eFl (fs : EA) : EE := fun δ G => (fs δ G).bind fun xs => if xs.1.length ≤ 1000 then some (.fl xs.1, xs.2) else none
def eLst (fs : EA) : EE := fun δ G => (fs δ G).bind fun xs => if xs.1.length ≤ 1000 then some (.rf xs.2.length, xs.2 ++ [.lst xs.1]) else none
theorem dr_fl (h : DRA X es fs) : DR X (.List es pos) (rFl fs) := PE.imp (pe_frz (pe_lst h)) fun σ H Q ⟨δ, G, γ, d, S, ef, q⟩ => by
  simp only [rFl, Option.bind_eq_some_iff] at ef
  obtain ⟨xs, exs, ei⟩ := ef
  split at ei
  · rename_i hl
    cases ei
    refine ⟨δ, G, γ, xs, S, exs, fun vs H1 s1 r1 => ⟨line1000 (by rw [← r1.length]; exact hl), fun p hp => ?_⟩⟩
    exact frz_end hp r1 fun v H' s2 r2 => q v H' (s1.trans s2) r2
  · cases ei
theorem de_fl (h : DEA X es gs) : DE X (.List es pos) (eFl gs) := PE.imp (pe_frz (pe_lst h)) fun σ H Q ⟨δ, G, γ, d, G', S, ef, q⟩ => by
  simp only [eFl, Option.bind_eq_some_iff] at ef
  obtain ⟨⟨xs, G1⟩, exs, ei⟩ := ef
  split at ei
  · rename_i hl
    cases ei
    refine ⟨δ, G, γ, xs, G1, S, exs, fun vs H1 γ1 a1 S1 r1 => ⟨line1000 (by rw [← r1.length]; exact hl), fun p hp => ?_⟩⟩
    exact frz_end hp r1 fun v H' s2 r2 => q v H' γ1 (a1.trans (Aft.of_same s2)) (S1.same s2) r2
  · cases ei
theorem de_lst (h : DEA X es gs) : DE X (.List es pos) (eLst gs) := PE.imp (pe_lst h) fun σ H Q ⟨δ, G, γ, d, G', S, ef, q⟩ => by
  simp only [eLst, Option.bind_eq_some_iff] at ef
  obtain ⟨⟨xs, G1⟩, exs, ei⟩ := ef
  split at ei
  · rename_i hl
    cases ei
    refine ⟨δ, G, γ, xs, G1, S, exs, fun vs H1 γ1 a1 S1 r1 => ⟨line1000 (by rw [← r1.length]; exact hl), fun p hp => ?_⟩⟩
    obtain ⟨a2, S2, r2⟩ := S1.push hp r1
    exact q _ _ _ (a1.trans a2) S2 r2
  · cases ei

/-! subscripts -/
def ixD (G : Hs) : D → D → Option D
  | .tup ds, .int i => atI ds i
  | .fl ds, .int i => atI ds i
  | .scr ns, .int i => (atI ns i).map .int
  | .rf k, .int i => match G[k]? with
    | some (.lst ds) => atI ds i
    | _ => none
  | _, _ => none
theorem Rs.atI {K : FK} {γ : List Addr} {H : Hp} {ds : List D} {vs : List V} {i : Int} {d : D} (h : Rs K γ H ds vs) (e : atI ds i = some d) : ∃ v, L2.atI vs i = some v ∧ R K γ H d v := by
  unfold L2.atI at e ⊢
  rw [← h.length]
  obtain ⟨j, e1, e2⟩ := Option.bind_eq_some_iff.mp e
  obtain ⟨v, h1, h2⟩ := h.get e2
  exact ⟨v, by rw [e1]; exact h1, h2⟩
theorem atI_map (ns : List Int) (i : Int) : L2.atI (ns.map V.int) i = (L2.atI ns i).map V.int := by
  unfold L2.atI
  rw [List.length_map]
  cases ixN ns.length i with
  | none => rfl
  | some j => simp
theorem ixD_ok {K : FK} : OpG K (rIx K) ixD := by
  intro G γ H dx dy d v u Q r rx ry e q
  cases dx with
  | tup ds =>
    cases dy with
    | int i =>
      simp only [R] at rx ry
      subst ry
      obtain ⟨a, vs, rfl, h1, h2⟩ := rx
      obtain ⟨x, e1, e2⟩ := h2.atI e
      exact .inr (.inl ⟨a, vs, i, x, rfl, rfl, h1, e1, q x H (Same.refl H) e2⟩)
    | _ => cases e
  | fl ds =>
    cases dy with
    | int i =>
      simp only [R] at rx ry
      subst ry
      obtain ⟨a, vs, rfl, h1, h2⟩ := rx
      obtain ⟨x, e1, e2⟩ := h2.atI e
      exact .inl ⟨a, vs, i, x, rfl, rfl, h1.sq, e1, q x H (Same.refl H) e2⟩
    | _ => cases e
  | scr ns =>
    cases dy with
    | int i =>
      simp only [R] at rx ry
      subst ry
      obtain ⟨a, rfl, h1⟩ := rx
      obtain ⟨z, ez, rfl⟩ := Option.map_eq_some_iff.mp (show (atI ns i).map D.int = some d from e)
      exact .inl ⟨a, _, i, .int z, rfl, rfl, h1.sq, by rw [atI_map, ez]; rfl, q _ H (Same.refl H) (by simp only [R])⟩
    | _ => cases e
  | rf k =>
    cases dy with
    | int i =>
      simp only [R] at rx ry
      subst ry
      obtain ⟨a, rfl, h1⟩ := rx
      simp only [ixD] at e
      split at e
      · rename_i ds eg
        obtain ⟨vs, h2, h3⟩ := r.at eg h1
        obtain ⟨x, e1, e2⟩ := h3.atI e
        exact .inl ⟨a, vs, i, x, rfl, rfl, .inl (.inl h2), e1, q x H (Same.refl H) e2⟩
      · cases e
    | _ => cases e
  | _ => cases e
theorem dr_ix (ha : DR X a fa) (hb : DR X b fb) (hs : PlainIx b := by exact fun _ _ => rfl) : DR X (.Subscript a b pos) (rBin ixD fa fb) := PE.imp (pe_ix ix_seq ha hb hs) (bin_r ixD_ok)
theorem de_ix (ha : DE X a ga) (hb : DE X b gb) (hs : PlainIx b := by exact fun _ _ => rfl) : DE X (.Subscript a b pos) (eBin ixD ga gb) := PE.imp (pe_ix ix_seq ha hb hs) (bin_e ixD_ok)

/-! calls of built-ins by values -/
def CallG (K : FK) (r : List V → Hp → VK → Prop) (g : Hs → List D → Option D) : Prop :=
  ∀ G γ H ds d vs Q, Ro K H G γ → Rs K γ H ds vs → g G ds = some d → (∀ v H', Same H H' → R K γ H' d v → Q v H') → r vs H Q
def rCal (g : Hs → List D → Option D) (fs : RA) : RE := fun δ G => (fs δ G).bind fun xs => g G xs
def eCal (g : Hs → List D → Option D) (fs : EA) : EE := fun δ G => (fs δ G).bind fun xs => (g xs.2 xs.1).bind fun d => some (d, xs.2)
theorem cal_r {r : List V → Hp → VK → Prop} {g : Hs → List D → Option D} (hr : CallG X.F r g) (σ : L2.St) (H : Hp) (Q : VK) (h : lR X.F (rCal g fs) σ H Q) : tCB r (lRA X.F fs) σ H Q := by
  obtain ⟨δ, G, γ, d, S, ef, q⟩ := h
  simp only [rCal, Option.bind_eq_some_iff] at ef
  obtain ⟨xs, exs, eg⟩ := ef
  exact ⟨δ, G, γ, xs, S, exs, fun vs H1 s1 r1 => hr G γ H1 xs d vs Q (S.same s1).toRo r1 eg fun v H2 s2 r2 => q v H2 (s1.trans s2) r2⟩
theorem cal_e {r : List V → Hp → VK → Prop} {g : Hs → List D → Option D} (hr : CallG X.F r g) (σ : L2.St) (H : Hp) (Q : VK) (h : lE X.F (eCal g gs) σ H Q) : tCB r (lEA X.F gs) σ H Q := by
  obtain ⟨δ, G, γ, d, G', S, ef, q⟩ := h
  simp only [eCal, Option.bind_eq_some_iff, Option.some.injEq, Prod.mk.injEq] at ef
  obtain ⟨⟨xs, G1⟩, exs, d', eg, rfl, rfl⟩ := ef
  exact ⟨δ, G, γ, xs, G1, S, exs, fun vs H1 γ1 a1 S1 r1 => hr G1 γ1 H1 xs d' vs Q S1.toRo r1 eg fun v H2 s2 r2 => q v H2 γ1 (a1.trans (Aft.of_same s2)) (S1.same s2) r2⟩

/-! statements -/
section
variable (K : FK)
def lS (g : SS) : TS := fun D σ H => ∃ δ G γ c δ' G', Sx K H δ G σ γ ∧ g δ G = some (c, δ', G') ∧ ∀ σ' H' γ', Aft γ H γ' H' → Sx K H' δ' G' σ' γ' → match c with
  | .nx => D.nx σ' H'
  | .bk => D.bk σ' H'
  | .ct => D.ct σ' H'
  | .rt d => ∀ v, R K γ' H' d v → D.rt v H'
end
abbrev DS (X : Cx) (st : Stmt) (g : SS) : Prop := PS X st (lS X.F g)
abbrev DSs (X : Cx) (st : List Stmt) (g : SS) : Prop := PSs X st (lS X.F g)
def sNil : SS := fun δ G => some (.nx, δ, G)
def sSeq (g h : SS) : SS := fun δ G => (g δ G).bind fun x => match x.1 with
  | .nx => h x.2.1 x.2.2
  | _ => some x
variable {st : Stmt} {sts : List Stmt} {g h : SS}
theorem dss_nil : DSs X [] sNil := PSs.imp pss_nil fun D σ H ⟨δ, G, γ, c, δ', G', S, ef, q⟩ => by
  cases ef
  exact q σ H γ Aft.refl S
theorem dss_cons (h1 : DS X st g) (h2 : DSs X sts h) : DSs X (st :: sts) (sSeq g h) := PSs.imp (pss_cons h1 h2) fun D σ H ⟨δ, G, γ, c, δ', G', S, ef, q⟩ => by
  simp only [sSeq, Option.bind_eq_some_iff] at ef
  obtain ⟨⟨c1, δ1, G1⟩, e1, e2⟩ := ef
  refine ⟨δ, G, γ, c1, δ1, G1, S, e1, fun σ1 H1 γ1 a1 S1 => ?_⟩
  cases c1 with
  | nx => exact ⟨δ1, G1, γ1, c, δ', G', S1, e2, fun σ2 H2 γ2 a2 S2 => q σ2 H2 γ2 (a1.trans a2) S2⟩
  | bk => cases e2; exact q σ1 H1 γ1 a1 S1
  | ct => cases e2; exact q σ1 H1 γ1 a1 S1
  | rt d => cases e2; exact q σ1 H1 γ1 a1 S1
theorem dss_one (h1 : DS X st g) : DSs X [st] g := PSs.imp (pss_one h1) fun D σ H q => q
def sRet (f : EE) : SS := fun δ G => (f δ G).bind fun x => some (.rt x.1, δ, x.2)
def sRetN : SS := fun δ G => some (.rt .non, δ, G)
def sBrk : SS := fun δ G => some (.bk, δ, G)
def sCnt : SS := fun δ G => some (.ct, δ, G)
theorem ds_ret (h : DE X e ga) : DS X (.Return (some e) pos) (sRet ga) := PS.imp (ps_ret h) fun D σ H ⟨δ, G, γ, c, δ', G', S, ef, q⟩ => by
  simp only [sRet, Option.bind_eq_some_iff, Option.some.injEq, Prod.mk.injEq] at ef
  obtain ⟨⟨d, G1⟩, e1, rfl, rfl, rfl⟩ := ef
  exact ⟨δ, G, γ, d, G1, S, e1, fun v H1 γ1 a1 S1 r1 => q σ H1 γ1 a1 S1 v r1⟩
theorem ds_retN : DS X (.Return none pos) sRetN := PS.imp ps_retN fun D σ H ⟨δ, G, γ, c, δ', G', S, ef, q⟩ => by
  cases ef
  exact q σ H γ Aft.refl S .non (by simp only [R])
theorem ds_pass : DS X (.Pass pos) sNil := PS.imp ps_pass fun D σ H ⟨δ, G, γ, c, δ', G', S, ef, q⟩ => by
  cases ef
  exact q σ H γ Aft.refl S
theorem ds_brk : DS X (.Break pos) sBrk := PS.imp ps_break fun D σ H ⟨δ, G, γ, c, δ', G', S, ef, q⟩ => by
  cases ef
  exact q σ H γ Aft.refl S
theorem ds_cnt : DS X (.Continue pos) sCnt := PS.imp ps_continue fun D σ H ⟨δ, G, γ, c, δ', G', S, ef, q⟩ => by
  cases ef
  exact q σ H γ Aft.refl S
def sIf (t : ET) (g h : SS) : SS := fun δ G => (t δ G).bind fun x => if x.1 = true then g δ x.2 else h δ x.2
theorem ds_if {a b : List Stmt} (hc : DET X c ua) (ha : DSs X a g) (hb : DSs X b h) : DS X (.If c a b pos) (sIf ua g h) := PS.imp (ps_if hc ha hb) fun D σ H ⟨δ, G, γ, k, δ', G', S, ef, q⟩ => by
  simp only [sIf, Option.bind_eq_some_iff] at ef
  obtain ⟨⟨x, G1⟩, ex, eb⟩ := ef
  refine ⟨δ, G, γ, x, G1, S, ex, fun H1 γ1 a1 S1 => ?_⟩
  cases x with
  | true => exact ⟨δ, G1, γ1, k, δ', G', S1, by simpa using eb, fun σ2 H2 γ2 a2 S2 => q σ2 H2 γ2 (a1.trans a2) S2⟩
  | false => exact ⟨δ, G1, γ1, k, δ', G', S1, by simpa using eb, fun σ2 H2 γ2 a2 S2 => q σ2 H2 γ2 (a1.trans a2) S2⟩
def sExp (f : EE) : SS := fun δ G => (f δ G).bind fun x => some (.nx, δ, x.2)
theorem ds_expr (he : DE X e ga) (hs : swapsWith e none pos.line X.env = pure false := by rfl) : DS X (.Expr e pos) (sExp ga) := PS.imp (ps_expr he hs) fun D σ H ⟨δ, G, γ, k, δ', G', S, ef, q⟩ => by
  simp only [sExp, Option.bind_eq_some_iff, Option.some.injEq, Prod.mk.injEq] at ef
  obtain ⟨⟨d, G1⟩, e1, rfl, rfl, rfl⟩ := ef
  exact ⟨δ, G, γ, d, G1, S, e1, fun v H1 γ1 a1 S1 r1 => q σ H1 γ1 a1 S1⟩

/-! targets -/
abbrev Sets := D → Env' → Option Env'
def Chg (is : List Nat) (σ σ1 : L2.St) : Prop := σ1.length = σ.length ∧ ∀ j, j ∉ is → σ1[j]? = σ[j]?
def GG (K : FK) (t : TG) (set : Sets) (is : List Nat) : Prop :=
  ∀ d δ δ1 v σ H G γ Q, set d δ = some δ1 → Sx K H δ G σ γ → R K γ H d v → (∀ σ1, Chg is σ σ1 → Sx K H δ1 G σ1 γ → Q σ1 H) → t v σ H Q
def setN (i : Nat) : Sets := fun d δ => if i < δ.length then some (δ.set i (some d)) else none
theorem Sx.set {K : FK} {γ : List Addr} {H : Hp} {δ : Env'} {G : Hs} {σ : L2.St} {d : D} {v : V} (S : Sx K H δ G σ γ) (i : Nat) (r : R K γ H d v) : Sx K H (δ.set i (some d)) G (σ.set i (some v)) γ :=
  { S.toRo with
    dl := by simp [S.dl]
    sl := fun j e h => by
      by_cases hj : i = j
      · subst hj
        have hl := (List.getElem?_eq_some_iff.mp h).1
        simp at hl
        rw [List.getElem?_set_self hl] at h
        cases h
        exact ⟨v, List.getElem?_set_self (by rw [← S.dl]; exact hl), r⟩
      · rw [List.getElem?_set_ne hj] at h ⊢
        exact S.sl j e h }
theorem gg_name (i : Nat) {K : FK} : GG K (gName i) (setN i) [i] := by
  intro d δ δ1 v σ H G γ Q e S r q
  unfold setN at e
  split at e
  · cases e
    exact q _ ⟨by simp, fun j hj => List.getElem?_set_ne (fun z => hj (by simp [z]))⟩ (S.set i r)
  · cases e
def setT : List Sets → Sets
  | ss => fun d δ => match d with
    | .tup ds => if ds.length = ss.length then (ss.zip ds).foldlM (fun δ p => p.1 p.2 δ) δ else none
    | _ => none
def setTs : List Sets → List D → Env' → Option Env'
  | [], [], δ => some δ
  | s :: ss, d :: ds, δ => (s d δ).bind fun δ1 => setTs ss ds δ1
  | _, _, _ => none
def setTup (ss : List Sets) : Sets := fun d δ => match d with
  | .tup ds => setTs ss ds δ
  | _ => none
def GGs (K : FK) (t : TGs) (ss : List Sets) (is : List Nat) : Prop :=
  ∀ ds δ δ1 vs σ H G γ Q, setTs ss ds δ = some δ1 → Sx K H δ G σ γ → Rs K γ H ds vs → (∀ σ1, Chg is σ σ1 → Sx K H δ1 G σ1 γ → Q σ1 H) → t vs σ H Q
theorem ggs_nil {K : FK} : GGs K gNil [] [] := by
  intro ds δ δ1 vs σ H G γ Q e S r q
  cases ds with
  | nil =>
    cases e
    exact ⟨r.of_nil, q σ ⟨rfl, fun _ _ => rfl⟩ S⟩
  | cons d ds => cases e
theorem ggs_cons {K : FK} {t : TG} {u : TGs} {s : Sets} {ss : List Sets} {is js : List Nat} (h1 : GG K t s is) (h2 : GGs K u ss js) : GGs K (gCons t u) (s :: ss) (is ++ js) := by
  intro ds δ δ1 vs σ H G γ Q e S r q
  cases ds with
  | nil => cases e
  | cons d ds =>
    obtain ⟨v, rs, rfl, r1, r2⟩ := r.of_cons
    obtain ⟨δ2, e1, e2⟩ := Option.bind_eq_some_iff.mp e
    exact ⟨v, rs, rfl, h1 d δ δ2 v σ H G γ _ e1 S r1 fun σ1 c1 S1 => h2 ds δ2 δ1 rs σ1 H G γ _ e2 S1 r2 fun σ2 c2 S2 => q σ2 ⟨c2.1.trans c1.1, fun j hj => (c2.2 j (fun z => hj (by simp [z]))).trans (c1.2 j (fun z => hj (by simp [z])))⟩ S2⟩
theorem setTs_len : ∀ {ss : List Sets} {ds : List D} {δ δ1 : Env'}, setTs ss ds δ = some δ1 → ds.length = ss.length
  | [], [], _, _, _ => rfl
  | [], _ :: _, _, _, e => by cases e
  | _ :: _, [], _, _, e => by cases e
  | s :: ss, d :: ds, δ, δ1, e => by
    obtain ⟨δ2, e1, e2⟩ := Option.bind_eq_some_iff.mp e
    simp [setTs_len e2]
theorem gg_tup {K : FK} {u : TGs} {ss : List Sets} {is : List Nat} {n : Nat} (h : GGs K u ss is) (hn : ss.length = n := by rfl) : GG K (gTup K n u) (setTup ss) is := by
  intro d δ δ1 v σ H G γ Q e S r q
  cases d with
  | tup ds =>
    simp only [R] at r
    obtain ⟨a, vs, rfl, h1, h2⟩ := r
    have e' : setTs ss ds δ = some δ1 := e
    exact ⟨a, vs, rfl, h1, by rw [← h2.length, setTs_len e', hn], h ds δ δ1 vs σ H G γ Q e' S h2 q⟩
  | _ => cases e
def sAsg (f : EE) (set : Sets) : SS := fun δ G => (f δ G).bind fun x => (set x.1 δ).bind fun δ1 => some (.nx, δ1, x.2)
theorem asg_e {t : TG} {set : Sets} {is : List Nat} (hg : GG X.F t set is) (D : Ends) (σ : L2.St) (H : Hp) (hh : lS X.F (sAsg ga set) D σ H) : tAsg (lE X.F ga) t D σ H := by
  obtain ⟨δ, G, γ, k, δ', G', S, ef, q⟩ := hh
  simp only [sAsg, Option.bind_eq_some_iff, Option.some.injEq, Prod.mk.injEq] at ef
  obtain ⟨⟨d, G1⟩, e1, δ1, e2, rfl, rfl, rfl⟩ := ef
  exact ⟨δ, G, γ, d, G1, S, e1, fun v H1 γ1 a1 S1 r1 => hg d δ δ1 v σ H1 G1 γ1 _ e2 S1 r1 fun σ1 _ S2 => q σ1 H1 γ1 a1 S2⟩
theorem ds_set (i : Nat) {x : Str} {pos' : Pos} (hN : X.N.Nodup) (he : DE X e ga) (hi : X.N[i]? = some x := by rfl) (hx : Loc X.env.scope x := by first | exact Or.inl rfl | exact Or.inr rfl) (hs : swapsWith e (some (.Name x pos')) pos.line X.env = pure false := by rfl)
    (hf : X.fn x = true ∨ X.env.scope.names.lookup x = some .local := by first | exact .inl rfl | exact .inr rfl | assumption) : DS X (.Assign [.Name x pos'] e pos) (sAsg ga (setN i)) := PS.imp (ps_set hN hi hx he hs hf) (asg_e (gg_name i))
theorem ds_asg {tg : Expr} {t : TG} {set : Sets} {is : List Nat} (he : DE X e ga) (hp : PG X tg t) (hg : GG X.F t set is) (hs : swapsWithSole [tg] e pos.line X.env = pure false := by rfl) (hw : swappedStores [tg] e X.env = pure none := by rfl)
    (h1 : (assignEach [tg] X.env).map (·.2) = [assign tg X.env] := by rfl) : DS X (.Assign [tg] e pos) (sAsg ga set) := PS.imp (ps_asg he hp hs hw h1) (asg_e hg)
/-- a, b = x, y -/
def sPar (i j : Nat) (fs : EA) : SS := fun δ G => (fs δ G).bind fun x => match x.1 with
  | [d, d'] => if i < δ.length ∧ j < δ.length then some (.nx, (δ.set i (some d)).set j (some d'), x.2) else none
  | _ => none
theorem ds_par (i j : Nat) {x y : Str} {px py pt : Pos} {kt k2 pt2} (hc : X.calm = true) (hN : X.N.Nodup) (ha : DEA X [a, b] gs) (hi : X.N[i]? = some x := by rfl) (hj : X.N[j]? = some y := by rfl) (hij : i ≠ j := by decide)
    (hx : X.env.scope.names.lookup x = some .local := by rfl) (hy : X.env.scope.names.lookup y = some .local := by rfl)
    (hw : swappedStores [.Tuple [.Name x px, .Name y py] kt pt] (.Tuple [a, b] k2 pt2) X.env = pure (some [x, y]) := by rfl)
    (hs : swapsWithSole [.Tuple [.Name x px, .Name y py] kt pt] (.Tuple [a, b] k2 pt2) pos.line X.env = pure false := by rfl) :
    DS X (.Assign [.Tuple [.Name x px, .Name y py] kt pt] (.Tuple [a, b] k2 pt2) pos) (sPar i j gs) := PS.imp (ps_par hc hN hi hj hij hx hy ha hw hs) fun D σ H ⟨δ, G, γ, k, δ', G', S, ef, q⟩ => by
  simp only [sPar, Option.bind_eq_some_iff] at ef
  obtain ⟨⟨ds, G1⟩, e1, e2⟩ := ef
  refine ⟨δ, G, γ, ds, G1, S, e1, fun vs H1 γ1 a1 S1 r1 => ?_⟩
  match ds, e2, r1 with
  | [d, d'], e2, r1 =>
    obtain ⟨v, r, rfl, h1, h2⟩ := r1.of_cons
    obtain ⟨w, r', rfl, h3, h4⟩ := h2.of_cons
    rw [h4.of_nil]
    simp only at e2
    split at e2
    · cases e2
      exact ⟨v, w, rfl, q _ H1 γ1 a1 ((S1.set i h1).set j h3)⟩
    · cases e2
end
end FL
namespace FL
open PySem PySem.Spec PyProof.Rows L2

/-! what is walked: pure = false: any step may follow between the turns; true: readings alone -/
def Stp (pure : Bool) (H H' : Hp) : Prop := if pure = true then Same H H' else Kp H H'
theorem Stp.kp {p : Bool} {H H' : Hp} (h : Stp p H H') : Kp H H' := by
  unfold Stp at h
  split at h
  · exact Kp.of_same h
  · exact h
theorem Stp.of_same {p : Bool} {H H' : Hp} (h : Same H H') : Stp p H H' := by
  unfold Stp
  split
  · exact h
  · exact Kp.of_same h
def ItOk (K : FK) (p : Bool) (γ : List Addr) (ds : List D) (J : It) (H0 : Hp) : Prop :=
  ∀ H1, Stp p H0 H1 → ∀ i : Nat, (i < ds.length → J.go i H1) ∧ (ds.length ≤ i → J.stop i H1) ∧ ∀ (_ : i < ds.length) x H2, J.yld i H1 x H2 → Same H1 H2 ∧ ∃ d, ds[i]? = some d ∧ R K γ H2 d x
def lI (K : FK) (p : Bool) (f : EA) : TI := fun σ H Q => ∃ δ G γ ds G', Sx K H δ G σ γ ∧ f δ G = some (ds, G') ∧ ∀ J H' γ', Aft γ H γ' H' → Sx K H' δ G' σ γ' → ItOk K p γ' ds J H' → Q J H'
def lIR (K : FK) (p : Bool) (f : RA) : TI := fun σ H Q => ∃ δ G γ ds, Sx K H δ G σ γ ∧ f δ G = some ds ∧ ∀ J H', Same H H' → ItOk K p γ ds J H' → Q J H'
theorem PI.imp {X : Cx} {tg e : Expr} {t t' : TI} (h : PI X tg e t) (i : ∀ σ H Q, t' σ H Q → t σ H Q) : PI X tg e t' := ⟨fun pins s σ H Q I q => h.run pins s σ H Q I (i σ H Q q)⟩
abbrev DI (X : Cx) (p : Bool) (tg e : Expr) (f : EA) : Prop := PI X tg e (lI X.F p f)
abbrev DIR (X : Cx) (p : Bool) (tg e : Expr) (f : RA) : Prop := PI X tg e (lIR X.F p f)
/-- the items of a tuple, a frozen list; of a root too -/
def seqD : D → Option (List D)
  | .tup ds => some ds
  | .fl ds => some ds
  | _ => none
def seqG (G : Hs) : D → Option (List D)
  | .tup ds => some ds
  | .fl ds => some ds
  | .rf k => match G[k]? with
    | some (.lst ds) => some ds
    | _ => none
  | _ => none
section
variable {K : FK} {γ γ' : List Addr} {H H' : Hp} {δ : Env'} {G : Hs} {σ : L2.St}
theorem sqL_inj {a : Addr} {xs ys : List V} (h : Rd H a (.lst xs)) (h' : Rd H a (.lst ys)) : xs = ys := by
  rcases h with h | ⟨o, h⟩ <;> rcases h' with h' | ⟨o', h'⟩ <;> rw [h] at h' <;> cases h' <;> rfl
theorem itOk_tup {p : Bool} {a : Addr} {ds : List D} {vs : List V} (h : SqT K H a vs) (r : Rs K γ H ds vs) : ItOk K p γ ds (Itt K a) H := by
  intro H1 s i
  have h1 := s.kp.sqT h
  have r1 := Rs.mono s.kp Pre.refl _ _ r
  refine ⟨fun hi => ?_, fun hi => ⟨vs, h1, by rw [← r1.length]; exact hi⟩, fun hlt x H2 y => ?_⟩
  · obtain ⟨v, e, _⟩ := r1.get (List.getElem?_eq_getElem hi)
    exact ⟨vs, v, h1, e⟩
  · obtain ⟨rfl, f⟩ := y
    refine ⟨Same.refl _, ?_⟩
    obtain ⟨d, e1, e2⟩ := r1.get' (f vs h1)
    exact ⟨d, e1, e2⟩
theorem itOk_fl {p : Bool} {a : Addr} {ds : List D} {vs : List V} (h : SqF H a vs) (r : Rs K γ H ds vs) : ItOk K p γ ds (Itl K a) H := by
  intro H1 s i
  have h1 := (s.kp.sqF h).sq (K := K)
  have r1 := Rs.mono s.kp Pre.refl _ _ r
  refine ⟨fun hi => ?_, fun hi => ⟨vs, h1, by rw [← r1.length]; exact hi⟩, fun hlt x H2 y => ?_⟩
  · obtain ⟨v, e, _⟩ := r1.get (List.getElem?_eq_getElem hi)
    exact ⟨vs, v, h1, e⟩
  · obtain ⟨rfl, f⟩ := y
    refine ⟨Same.refl _, ?_⟩
    obtain ⟨d, e1, e2⟩ := r1.get' (f vs h1)
    exact ⟨d, e1, e2⟩
theorem itOk_lst {a : Addr} {ds : List D} {vs : List V} (h : H a = some (.lst vs)) (r : Rs K γ H ds vs) : ItOk K true γ ds (Itl K a) H := by
  intro H1 s i
  have s' : Same H H1 := by simpa [Stp] using s
  have h1 : SqL K H1 a vs := .inl (.inl (s' _ _ h))
  have r1 := Rs.mono s.kp Pre.refl _ _ r
  refine ⟨fun hi => ?_, fun hi => ⟨vs, h1, by rw [← r1.length]; exact hi⟩, fun hlt x H2 y => ?_⟩
  · obtain ⟨v, e, _⟩ := r1.get (List.getElem?_eq_getElem hi)
    exact ⟨vs, v, h1, e⟩
  · obtain ⟨rfl, f⟩ := y
    refine ⟨Same.refl _, ?_⟩
    obtain ⟨d, e1, e2⟩ := r1.get' (f vs h1)
    exact ⟨d, e1, e2⟩
def rangeD (lo : Int) (n : Nat) : List D := (List.range n).map fun i => .int (lo + (i : Nat))
theorem itOk_range {p : Bool} (lo : Int) (n : Nat) : ItOk K p γ (rangeD lo n) (Itr lo n) H := by
  intro H1 s i
  unfold rangeD
  refine ⟨fun hi => (by simpa using hi : i < n), fun hi => (by simpa using hi : n ≤ i), fun hlt x H2 y => ?_⟩
  obtain ⟨rfl, rfl⟩ := y
  refine ⟨Same.refl _, ?_⟩
  have hi : i < n := by simpa using hlt
  exact ⟨.int (lo + i), by simp [hi], by simp only [R]⟩
end

section
variable {X : Cx} {a b c e tg : Expr} {es : List Expr} {pos : Pos} {fa fb fc : RE} {ga gb gc : EE} {fs : RA} {gs : EA} {p : Bool}
def iSeq (f : EE) : EA := fun δ G => (f δ G).bind fun x => (seqD x.1).bind fun ds => some (ds, x.2)
def iSeqR (f : RE) : RA := fun δ G => (f δ G).bind fun x => seqG G x
/-- over a tuple -/
def iTupE (f : EE) : EA := fun δ G => (f δ G).bind fun x => match x.1 with
  | .tup ds => some (ds, x.2)
  | _ => none
def iFlE (f : EE) : EA := fun δ G => (f δ G).bind fun x => match x.1 with
  | .fl ds => some (ds, x.2)
  | _ => none
theorem di_tup (h : DE X a ga) : DI X p tg a (iTupE ga) := PI.imp (pi_tup h) fun σ H Q ⟨δ, G, γ, ds, G', S, ef, q⟩ => by
  simp only [iTupE, Option.bind_eq_some_iff] at ef
  obtain ⟨⟨d, G1⟩, e1, e2⟩ := ef
  split at e2
  · rename_i xs ed
    cases e2
    obtain rfl : d = .tup ds := ed
    refine ⟨δ, G, γ, _, _, S, e1, fun v H1 γ1 a1 S1 r1 => ?_⟩
    simp only [R] at r1
    obtain ⟨l, vs, rfl, h1, h2⟩ := r1
    exact ⟨l, rfl, ⟨vs, h1⟩, q _ H1 γ1 a1 S1 (itOk_tup h1 h2)⟩
  · cases e2
theorem di_fl (h : DE X a ga) : DI X p tg a (iFlE ga) := PI.imp (pi_list h) fun σ H Q ⟨δ, G, γ, ds, G', S, ef, q⟩ => by
  simp only [iFlE, Option.bind_eq_some_iff] at ef
  obtain ⟨⟨d, G1⟩, e1, e2⟩ := ef
  split at e2
  · rename_i xs ed
    cases e2
    obtain rfl : d = .fl ds := ed
    refine ⟨δ, G, γ, _, _, S, e1, fun v H1 γ1 a1 S1 r1 => ?_⟩
    simp only [R] at r1
    obtain ⟨l, vs, rfl, h1, h2⟩ := r1
    exact ⟨l, rfl, ⟨vs, h1.sq⟩, q _ H1 γ1 a1 S1 (itOk_fl h1 h2)⟩
  · cases e2
def iTupR (f : RE) : RA := fun δ G => (f δ G).bind fun x => match x with
  | .tup ds => some ds
  | _ => none
/-- a frozen list, a root -/
def lstG (G : Hs) : D → Option (List D)
  | .fl ds => some ds
  | .rf k => match G[k]? with
    | some (.lst ds) => some ds
    | _ => none
  | _ => none
def iLstR (f : RE) : RA := fun δ G => (f δ G).bind fun x => lstG G x
theorem dir_tup (h : DR X a fa) : DIR X p tg a (iTupR fa) := PI.imp (pi_tup h) fun σ H Q ⟨δ, G, γ, ds, S, ef, q⟩ => by
  simp only [iTupR, Option.bind_eq_some_iff] at ef
  obtain ⟨d, e1, e2⟩ := ef
  split at e2
  · cases e2
    refine ⟨δ, G, γ, _, S, e1, fun v H1 s1 r1 => ?_⟩
    simp only [R] at r1
    obtain ⟨l, vs, rfl, h1, h2⟩ := r1
    exact ⟨l, rfl, ⟨vs, h1⟩, q _ H1 s1 (itOk_tup h1 h2)⟩
  · cases e2
theorem lstG_ok {K : FK} {γ : List Addr} {H : Hp} {G : Hs} {d : D} {v : V} {ds : List D} (r : Ro K H G γ) (h : R K γ H d v) (e : lstG G d = some ds) : ∃ a vs, v = .ref a ∧ Rd H a (.lst vs) ∧ Rs K γ H ds vs := by
  cases d with
  | fl xs =>
    cases e
    simp only [R] at h
    obtain ⟨l, vs, rfl, h1, h2⟩ := h
    obtain ⟨o, h1⟩ := h1
    exact ⟨l, vs, rfl, .inr ⟨o, h1⟩, h2⟩
  | rf k =>
    simp only [R] at h
    obtain ⟨l, rfl, h1⟩ := h
    simp only [lstG] at e
    split at e
    · rename_i xs eg
      cases e
      obtain ⟨vs, h2, h3⟩ := r.at eg h1
      exact ⟨l, vs, rfl, .inl h2, h3⟩
    · cases e
  | _ => cases e
theorem itOk_rd {K : FK} {γ : List Addr} {H : Hp} {a : Addr} {ds : List D} {vs : List V} (h : Rd H a (.lst vs)) (r : Rs K γ H ds vs) : ItOk K true γ ds (Itl K a) H := by
  rcases h with h | ⟨o, h⟩
  · exact itOk_lst h r
  · exact itOk_fl ⟨o, h⟩ r
theorem dir_lst (h : DR X a fa) : DIR X true tg a (iLstR fa) := PI.imp (pi_list h) fun σ H Q ⟨δ, G, γ, ds, S, ef, q⟩ => by
  simp only [iLstR, Option.bind_eq_some_iff] at ef
  obtain ⟨d, e1, e2⟩ := ef
  refine ⟨δ, G, γ, d, S, e1, fun v H1 s1 r1 => ?_⟩
  obtain ⟨l, vs, rfl, h1, h2⟩ := lstG_ok (S.same s1).toRo r1 e2
  exact ⟨l, rfl, ⟨vs, .inl h1⟩, q _ H1 s1 (itOk_rd h1 h2)⟩
/-- range -/
def rng1 : List D → Option (List D)
  | [.int j] => if -1000000 ≤ j ∧ j ≤ 1000000 then some (rangeD 0 j.toNat) else none
  | _ => none
def rng2 : List D → Option (List D)
  | [.int i, .int j] => if (-1000000 ≤ i ∧ i ≤ 1000000) ∧ -1000000 ≤ j ∧ j ≤ 1000000 then some (rangeD i (j - i).toNat) else none
  | _ => none
def iRgR (f : List D → Option (List D)) (fs : RA) : RA := fun δ G => (fs δ G).bind f
def iRgE (f : List D → Option (List D)) (gs : EA) : EA := fun δ G => (gs δ G).bind fun x => (f x.1).bind fun ds => some (ds, x.2)
theorem rng1_ok {K : FK} {γ : List Addr} {H : Hp} {ds out : List D} {vs : List V} {Q : It → Hp → Prop} {p : Bool} (r : Rs K γ H ds vs) (e : rng1 ds = some out) (q : ∀ J, ItOk K p γ out J H → Q J H) :
    ∃ j : Int, vs = [.int j] ∧ -(2 ^ 62) ≤ j ∧ j < 2 ^ 62 ∧ Q (Itr 0 j.toNat) H := by
  unfold rng1 at e
  split at e
  · rename_i j
    split at e
    · rename_i hj
      cases e
      obtain ⟨v, r', rfl, h1, h2⟩ := r.of_cons
      rw [h2.of_nil]
      simp only [R] at h1
      subst h1
      exact ⟨j, rfl, by omega, by omega, q _ (itOk_range 0 _)⟩
    · cases e
  · cases e
theorem rng2_ok {K : FK} {γ : List Addr} {H : Hp} {ds out : List D} {vs : List V} {Q : It → Hp → Prop} {p : Bool} (r : Rs K γ H ds vs) (e : rng2 ds = some out) (q : ∀ J, ItOk K p γ out J H → Q J H) :
    ∃ i j : Int, vs = [.int i, .int j] ∧ (-(2 ^ 62) ≤ i ∧ i < 2 ^ 62 ∧ -(2 ^ 62) ≤ j ∧ j < 2 ^ 62) ∧ Q (Itr i (j - i).toNat) H := by
  unfold rng2 at e
  split at e
  · rename_i i j
    split at e
    · rename_i hj
      cases e
      obtain ⟨v, r', rfl, h1, h2⟩ := r.of_cons
      obtain ⟨w, r'', rfl, h3, h4⟩ := h2.of_cons
      rw [h4.of_nil]
      simp only [R] at h1 h3
      subst h1 h3
      exact ⟨i, j, rfl, ⟨by omega, by omega, by omega, by omega⟩, q _ (itOk_range i _)⟩
    · cases e
  · cases e
theorem dir_rng1 {q : Pos} (ha : DRA X [a] fs) (hm : X.mg "range" = none) (hg : Gl X "range" := by rfl) (hs : starEach [a] X.env = [(false, eval a X.env)] := by rfl) : DIR X p tg (.Call (.Name "range" q) [a] [] pos) (iRgR rng1 fs) := PI.imp (pi_range1 hg hm ha hs) fun σ H Q ⟨δ, G, γ, ds, S, ef, q⟩ => by
  obtain ⟨xs, e1, e2⟩ := Option.bind_eq_some_iff.mp ef
  exact ⟨δ, G, γ, xs, S, e1, fun vs H1 s1 r1 => rng1_ok (p := p) r1 e2 fun J h => q J H1 s1 h⟩
theorem dir_rng2 {q : Pos} (ha : DRA X [a, b] fs) (hm : X.mg "range" = none) (hg : Gl X "range" := by rfl) (hs : starEach [a, b] X.env = [(false, eval a X.env), (false, eval b X.env)] := by rfl) (hs2 : starEach [b] X.env = [(false, eval b X.env)] := by rfl) : DIR X p tg (.Call (.Name "range" q) [a, b] [] pos) (iRgR rng2 fs) := PI.imp (pi_range2 hg hm ha hs hs2) fun σ H Q ⟨δ, G, γ, ds, S, ef, q⟩ => by
  obtain ⟨xs, e1, e2⟩ := Option.bind_eq_some_iff.mp ef
  exact ⟨δ, G, γ, xs, S, e1, fun vs H1 s1 r1 => rng2_ok (p := p) r1 e2 fun J h => q J H1 s1 h⟩
theorem di_rng1 {q : Pos} (ha : DEA X [a] gs) (hm : X.mg "range" = none) (hg : Gl X "range" := by rfl) (hs : starEach [a] X.env = [(false, eval a X.env)] := by rfl) : DI X p tg (.Call (.Name "range" q) [a] [] pos) (iRgE rng1 gs) := PI.imp (pi_range1 hg hm ha hs) fun σ H Q ⟨δ, G, γ, ds, G', S, ef, q⟩ => by
  simp only [iRgE, Option.bind_eq_some_iff, Option.some.injEq, Prod.mk.injEq] at ef
  obtain ⟨⟨xs, G1⟩, e1, d', e2, rfl, rfl⟩ := ef
  exact ⟨δ, G, γ, xs, G1, S, e1, fun vs H1 γ1 a1 S1 r1 => rng1_ok (p := p) r1 e2 fun J h => q J H1 γ1 a1 S1 h⟩
theorem di_rng2 {q : Pos} (ha : DEA X [a, b] gs) (hm : X.mg "range" = none) (hg : Gl X "range" := by rfl) (hs : starEach [a, b] X.env = [(false, eval a X.env), (false, eval b X.env)] := by rfl) (hs2 : starEach [b] X.env = [(false, eval b X.env)] := by rfl) : DI X p tg (.Call (.Name "range" q) [a, b] [] pos) (iRgE rng2 gs) := PI.imp (pi_range2 hg hm ha hs hs2) fun σ H Q ⟨δ, G, γ, ds, G', S, ef, q⟩ => by
  simp only [iRgE, Option.bind_eq_some_iff, Option.some.injEq, Prod.mk.injEq] at ef
  obtain ⟨⟨xs, G1⟩, e1, d', e2, rfl, rfl⟩ := ef
  exact ⟨δ, G, γ, xs, G1, S, e1, fun vs H1 γ1 a1 S1 r1 => rng2_ok (p := p) r1 e2 fun J h => q J H1 γ1 a1 S1 h⟩
theorem di_of (h : DIR X p tg a fs) : DI X p tg a (ofRA fs) := PI.imp h fun σ H Q ⟨δ, G, γ, ds, G', S, ef, q⟩ => by
  simp only [ofRA, Option.bind_eq_some_iff, Option.some.injEq, Prod.mk.injEq] at ef
  obtain ⟨xs, e1, rfl, rfl⟩ := ef
  exact ⟨δ, G, γ, xs, S, e1, fun J H1 s1 it => q J H1 γ (Aft.of_same s1) (S.same s1) it⟩

/-! for -/
def forL (set : Sets) (b : SS) : List D → SS
  | [], δ, G => some (.nx, δ, G)
  | d :: ds, δ, G => (set d δ).bind fun δ1 => (b δ1 G).bind fun x => match x.1 with
    | .nx => forL set b ds x.2.1 x.2.2
    | .ct => forL set b ds x.2.1 x.2.2
    | .bk => some (.nx, x.2.1, x.2.2)
    | .rt r => some (.rt r, x.2.1, x.2.2)
def sFor (src : EA) (set : Sets) (b : SS) : SS := fun δ G => (src δ G).bind fun x => forL set b x.1 δ x.2
theorem ds_for {iter : Expr} {body : List Stmt} {t : TG} {set : Sets} {is : List Nat} {g : SS} (hp : PassesOwn (model X.prog X.w) X.A X.env X.xe) (hc : X.calm = true) (hi : DI X false tg iter gs) (ht : PG X tg t) (hg : GG X.F t set is) (hb : DSs X body g)
    (hs : ∀ x, foldedSetIterable iter X.env x = pure x := by intro _; rfl) : DS X (.For tg iter body [] pos) (sFor gs set g) := PS.imp (ps_for hp hc hi ht hb hs) fun D σ H ⟨δ, G, γ, c, δ', G', S, ef, q⟩ => by
  simp only [sFor, Option.bind_eq_some_iff] at ef
  obtain ⟨⟨ds, G1⟩, e1, e2⟩ := ef
  refine ⟨δ, G, γ, ds, G1, S, e1, fun J H1 γ1 a1 S1 it => ?_⟩
  refine ⟨fun i m σ2 H2 => m + i = ds.length ∧ ∃ δ2 G2 γ2, Aft γ1 H1 γ2 H2 ∧ Sx X.F H2 δ2 G2 σ2 γ2 ∧ forL set g (ds.drop i) δ2 G2 = some (c, δ', G'), ⟨ds.length, by simp, δ, G1, γ1, Aft.refl, S1, by simpa using e2⟩, ?_⟩
  rintro i m σ2 H2 ⟨hm, δ2, G2, γ2, a2, S2, ef⟩
  have st : Stp false H1 H2 := by simpa [Stp] using a2.kp
  by_cases hlt : i < ds.length
  · right
    obtain ⟨j1, _, j3⟩ := it H2 st i
    rw [List.drop_eq_getElem_cons hlt] at ef
    simp only [forL, Option.bind_eq_some_iff] at ef
    obtain ⟨δ3, e3, ⟨c4, δ4, G4⟩, e4, e5⟩ := ef
    refine ⟨j1 hlt, fun σ5 H5 => ∃ γ5 δ5 G5, Aft γ1 H1 γ5 H5 ∧ Sx X.F H5 δ5 G5 σ5 γ5 ∧ forL set g (ds.drop (i + 1)) δ5 G5 = some (c, δ', G'), ?_, fun x H3 y => ?_⟩
    · rintro σ5 H5 ⟨γ5, δ5, G5, a5, S5, e5⟩
      exact ⟨m - 1, by omega, by omega, δ5, G5, γ5, a5, S5, e5⟩
    · obtain ⟨s3, d, ed, rd⟩ := j3 hlt x H3 y
      rw [List.getElem?_eq_getElem hlt] at ed
      cases ed
      have S3 := S2.same s3
      have rd' : R X.F γ2 H3 ds[i] x := R.mono Kp.refl a2.pr _ _ rd
      refine hg _ δ2 δ3 x σ2 H3 G2 γ2 _ e3 S3 rd' fun σ3 _ S4 => ?_
      refine ⟨δ3, G2, γ2, c4, δ4, G4, S4, e4, fun σ6 H6 γ6 a6 S6 => ?_⟩
      have a16 : Aft γ1 H1 γ6 H6 := a2.trans ((Aft.of_same s3).trans a6)
      cases c4 with
      | nx => exact ⟨γ6, δ4, G4, a16, S6, e5⟩
      | ct => exact ⟨γ6, δ4, G4, a16, S6, e5⟩
      | bk =>
        cases e5
        exact q σ6 H6 γ6 (a1.trans a16) S6
      | rt r =>
        cases e5
        exact q σ6 H6 γ6 (a1.trans a16) S6
  · left
    obtain ⟨_, j2, _⟩ := it H2 st i
    have hi : ds.length ≤ i := by omega
    refine ⟨j2 hi, ?_⟩
    rw [List.drop_eq_nil_of_le hi] at ef
    cases ef
    exact q σ2 H2 γ2 (a1.trans a2) S2

/-! while -/
def whileS (t : ET) (b : SS) (δ : Env') (G : Hs) : Option (Ctl × Env' × Hs) := do
  let x ← t δ G
  if x.1 = true then
    let y ← b δ x.2
    match y.1 with
    | .nx => whileS t b y.2.1 y.2.2
    | .ct => whileS t b y.2.1 y.2.2
    | .bk => some (.nx, y.2.1, y.2.2)
    | .rt r => some (.rt r, y.2.1, y.2.2)
  else some (.nx, δ, x.2)
partial_fixpoint
def whileN (t : ET) (b : SS) : Nat → SS
  | 0, _, _ => none
  | n + 1, δ, G => (t δ G).bind fun x => if x.1 = true then (b δ x.2).bind fun y => match y.1 with
      | .nx => whileN t b n y.2.1 y.2.2
      | .ct => whileN t b n y.2.1 y.2.2
      | .bk => some (.nx, y.2.1, y.2.2)
      | .rt r => some (.rt r, y.2.1, y.2.2)
    else some (.nx, δ, x.2)
theorem whileS_N (t : ET) (b : SS) (δ : Env') (G : Hs) (r : Ctl × Env' × Hs) (h : whileS t b δ G = some r) : ∃ n, whileN t b n δ G = some r := by
  refine whileS.partial_correctness t b (fun δ G r => ∃ n, whileN t b n δ G = some r) (fun w ih δ G r h => ?_) δ G r h
  obtain ⟨⟨x, G1⟩, e1, e2⟩ := Option.bind_eq_some_iff.mp h
  cases x with
  | false => exact ⟨1, by simp only [whileN, e1, Option.bind_some]; simpa using e2⟩
  | true =>
    simp only [if_true] at e2
    obtain ⟨⟨c, δ2, G2⟩, e3, e4⟩ := Option.bind_eq_some_iff.mp e2
    cases c with
    | nx =>
      obtain ⟨n, hn⟩ := ih δ2 G2 r e4
      exact ⟨n + 1, by simp only [whileN, e1, Option.bind_some, if_true, e3]; exact hn⟩
    | ct =>
      obtain ⟨n, hn⟩ := ih δ2 G2 r e4
      exact ⟨n + 1, by simp only [whileN, e1, Option.bind_some, if_true, e3]; exact hn⟩
    | bk => exact ⟨1, by simp only [whileN, e1, Option.bind_some, if_true, e3]; exact e4⟩
    | rt d => exact ⟨1, by simp only [whileN, e1, Option.bind_some, if_true, e3]; exact e4⟩
theorem ds_while {body : List Stmt} {t : ET} {g : SS} (hp : PassesOwn (model X.prog X.w) X.A X.env X.xe) (hc : DET X c t) (hb : DSs X body g) : DS X (.While c body [] pos) (whileS t g) := PS.imp (ps_while hp hc hb) fun D σ H ⟨δ, G, γ, k, δ', G', S, ef, q⟩ => by
  obtain ⟨n, hn⟩ := whileS_N t g δ G _ ef
  refine ⟨fun m σ2 H2 => ∃ δ2 G2 γ2, Aft γ H γ2 H2 ∧ Sx X.F H2 δ2 G2 σ2 γ2 ∧ whileN t g m δ2 G2 = some (k, δ', G'), ⟨n, δ, G, γ, Aft.refl, S, hn⟩, ?_⟩
  rintro m σ2 H2 ⟨δ2, G2, γ2, a2, S2, e2⟩
  cases m with
  | zero => cases e2
  | succ m =>
    simp only [whileN, Option.bind_eq_some_iff] at e2
    obtain ⟨⟨x, G3⟩, e3, e4⟩ := e2
    refine ⟨δ2, G2, γ2, x, G3, S2, e3, fun H3 γ3 a3 S3 => ?_⟩
    cases x with
    | false =>
      have e4 : some (Ctl.nx, δ2, G3) = some (k, δ', G') := by simpa using e4
      cases e4
      exact q σ2 H3 γ3 (a2.trans a3) S3
    | true =>
      simp only [if_true, Option.bind_eq_some_iff] at e4 ⊢
      obtain ⟨⟨c5, δ5, G5⟩, e5, e6⟩ := e4
      refine ⟨fun σ6 H6 => ∃ δ6 G6 γ6, Aft γ H γ6 H6 ∧ Sx X.F H6 δ6 G6 σ6 γ6 ∧ whileN t g m δ6 G6 = some (k, δ', G'), ?_, δ2, G3, γ3, c5, δ5, G5, S3, e5, fun σ6 H6 γ6 a6 S6 => ?_⟩
      · rintro σ6 H6 h
        exact ⟨m, by omega, h⟩
      · have a := a2.trans (a3.trans a6)
        cases c5 with
        | nx => exact ⟨δ5, G5, γ6, a, S6, e6⟩
        | ct => exact ⟨δ5, G5, γ6, a, S6, e6⟩
        | bk =>
          cases e6
          exact q σ6 H6 γ6 a S6
        | rt r =>
          cases e6
          exact q σ6 H6 γ6 a S6
end
end FL
namespace FL
open PySem PySem.Spec PyProof.Rows L2

section
variable {K : FK} {γ γ' : List Addr} {H H' : Hp} {δ : Env'} {G : Hs} {σ : L2.St}
/-- a list that stands as no root becomes one -/
theorem Sx.adopt {p : Addr} {xs : List D} {vs : List V} (S : Sx K H δ G σ γ) (np : p ∉ γ) (hp : H p = some (.lst vs)) (h : Rs K γ H xs vs) :
    Sx K H δ (G ++ [.lst xs]) σ (γ ++ [p]) ∧ R K (γ ++ [p]) H (.rf G.length) (.ref p) := by
  refine ⟨⟨⟨?_, ?_, fun a z => ?_, fun k o a e1 e2 => ?_⟩, S.dl, fun i d e => ?_⟩, ?_⟩
  · simp [S.len]
  · rw [List.nodup_append]
    exact ⟨S.nd, by simp, fun a ha b hb e => by
      have : b = p := by simpa using hb
      subst this
      subst e
      exact np ha⟩
  · rcases List.mem_append.mp z with z | z
    · exact S.ex a z
    · have : a = p := by simpa using z
      subst this
      rw [hp]
      simp
  · by_cases hk : k < G.length
    · rw [List.getElem?_append_left hk] at e1
      rw [List.getElem?_append_left (by rw [← S.len]; exact hk)] at e2
      exact RG.pre Pre.app (S.rt k o a e1 e2)
    · have hk' : k = G.length := by
        have := (List.getElem?_eq_some_iff.mp e1).1
        simp at this
        omega
      subst hk'
      rw [List.getElem?_append_right (Nat.le_refl _)] at e1
      rw [S.len, List.getElem?_append_right (Nat.le_refl _)] at e2
      simp at e1 e2
      subst e1 e2
      exact ⟨vs, hp, Rs.mono Kp.refl Pre.app _ _ h⟩
  · obtain ⟨v, h1, h2⟩ := S.sl i d e
    exact ⟨v, h1, R.mono Kp.refl Pre.app _ _ h2⟩
  · simp only [R]
    exact ⟨p, rfl, by rw [S.len, List.getElem?_append_right (Nat.le_refl _)]; simp⟩
/-- what is no root, a list, is written or frozen -/
theorem kp_other {p : Addr} {o : HO} {vs : List V} (hp : H p = some (.lst vs)) : Kp H (upd H p o) := fun b x e i => by
  rw [upd_ne]
  · exact e
  · intro z
    subst z
    rw [hp] at e
    cases e
    cases i
theorem Ro.other {p : Addr} {o : HO} {vs : List V} (S : Ro K H G γ) (np : p ∉ γ) (hp : H p = some (.lst vs)) : Ro K (upd H p o) G γ where
  len := S.len
  nd := S.nd
  ex := fun a z => by
    unfold upd
    split
    · simp
    · exact S.ex a z
  rt := fun k x a e1 e2 => by
    have na : a ≠ p := fun z => np (by rw [← z]; exact List.mem_of_getElem? e2)
    have q := S.rt k x a e1 e2
    cases x with
    | lst ds =>
      obtain ⟨ws, h1, h2⟩ := q
      exact ⟨ws, by rw [upd_ne na]; exact h1, Rs.mono (kp_other hp) Pre.refl _ _ h2⟩
    | dct kvs =>
      obtain ⟨xs, ep, h1, hn, h2⟩ := q
      exact ⟨xs, ep, by rw [upd_ne na]; exact h1, hn, h2.mono (kp_other hp) Pre.refl⟩
    | ins nx ns ds =>
      obtain ⟨C, dx, ws, h1, hc, h2⟩ := q
      exact ⟨C, dx, ws, by rw [upd_ne na]; exact h1, hc, Rs.mono (kp_other hp) Pre.refl _ _ h2⟩
    | dead => trivial
theorem Sx.other {p : Addr} {o : HO} {vs : List V} (S : Sx K H δ G σ γ) (np : p ∉ γ) (hp : H p = some (.lst vs)) : Sx K (upd H p o) δ G σ γ :=
  { S.toRo.other np hp with
    dl := S.dl
    sl := fun i d e => by
      obtain ⟨v, h1, h2⟩ := S.sl i d e
      exact ⟨v, h1, R.mono (kp_other hp) Pre.refl _ _ h2⟩ }
def wipeD (δ : Env') : List Nat → Env'
  | [] => δ
  | v :: vs => (wipeD δ vs).set v none
theorem wipeD_len (δ : Env') : ∀ vs, (wipeD δ vs).length = δ.length
  | [] => rfl
  | v :: vs => by
    unfold wipeD
    rw [List.length_set, wipeD_len δ vs]
theorem wipeD_some {δ : Env'} {i : Nat} {x : D} : ∀ {vs : List Nat}, (wipeD δ vs)[i]? = some (some x) → δ[i]? = some (some x) ∧ i ∉ vs
  | [], h => ⟨h, by simp⟩
  | v :: vs, h => by
    unfold wipeD at h
    by_cases hi : v = i
    · subst hi
      by_cases hv : v < (wipeD δ vs).length
      · rw [List.getElem?_set_self hv] at h; cases h
      · rw [List.getElem?_eq_none (by simpa using hv)] at h; cases h
    · rw [List.getElem?_set_ne hi] at h
      obtain ⟨h1, h2⟩ := wipeD_some h
      exact ⟨h1, by simp only [List.mem_cons, not_or]; exact ⟨fun e => hi e.symm, h2⟩⟩
theorem wipe_keep {σ : L2.St} {i : Nat} : ∀ {vs : List Nat}, i ∉ vs → (wipe σ vs)[i]? = σ[i]?
  | [], _ => rfl
  | v :: vs, h => by
    simp only [List.mem_cons, not_or] at h
    unfold wipe
    rw [List.getElem?_set_ne (Ne.symm h.1), wipe_keep h.2]
theorem wipe_in {σ : L2.St} {i : Nat} : ∀ {vs : List Nat}, i ∈ vs → i < σ.length → (wipe σ vs)[i]? = some none
  | [], h, _ => by simp at h
  | v :: vs, h, hl => by
    unfold wipe
    by_cases e : v = i
    · subst e
      rw [List.getElem?_set_self (by rw [wipe_length]; exact hl)]
    · rw [List.getElem?_set_ne e]
      exact wipe_in ((List.mem_cons.mp h).resolve_left (Ne.symm e)) hl
theorem Sx.wipe (S : Sx K H δ G σ γ) (vs : List Nat) : Sx K H (wipeD δ vs) G (wipe σ vs) γ :=
  { S.toRo with
    dl := by rw [wipeD_len, wipe_length, S.dl]
    sl := fun i d e => by
      obtain ⟨h1, h2⟩ := wipeD_some e
      obtain ⟨v, h3, h4⟩ := S.sl i d h1
      exact ⟨v, by rw [wipe_keep h2]; exact h3, h4⟩ }
theorem wipe_chg {σ σ1 : L2.St} {is vs : List Nat} (h : Chg is σ σ1) (hs : ∀ i ∈ is, i ∈ vs) : L2.wipe σ1 vs = L2.wipe σ vs := by
  refine List.ext_getElem? fun i => ?_
  by_cases hi : i ∈ vs
  · by_cases hl : i < σ.length
    · rw [wipe_in hi hl, wipe_in hi (by rw [h.1]; exact hl)]
    · rw [List.getElem?_eq_none (by rw [wipe_length, h.1]; omega), List.getElem?_eq_none (by rw [wipe_length]; omega)]
  · rw [wipe_keep hi, wipe_keep hi]
    exact h.2 i fun z => hi (hs i z)
theorem wipe_wipe {σ : L2.St} {vs : List Nat} : L2.wipe (L2.wipe σ vs) vs = L2.wipe σ vs := by
  refine List.ext_getElem? fun i => ?_
  by_cases hi : i ∈ vs
  · by_cases hl : i < σ.length
    · rw [wipe_in hi hl, wipe_in hi (by rw [wipe_length]; exact hl)]
    · rw [List.getElem?_eq_none (by rw [wipe_length, wipe_length]; omega), List.getElem?_eq_none (by rw [wipe_length]; omega)]
  · rw [wipe_keep hi]
end

/-! comprehensions -/
def lcR (set : Sets) (cond : RT) (elt : RE) : List D → RA
  | [], _, _ => some []
  | d :: ds, δ, G => (set d δ).bind fun δ1 => (cond δ1 G).bind fun k => if k = true then (elt δ1 G).bind fun y => (lcR set cond elt ds δ G).bind fun ys => some (y :: ys) else lcR set cond elt ds δ G
def rLc (src : RA) (set : Sets) (cond : RT) (elt : RE) (vs : List Nat) : RE := fun δ G => (src δ G).bind fun ds => if ds.length ≤ 10000000 then (lcR set cond elt ds (wipeD δ vs) G).bind fun ys => some (.fl ys) else none
def lcE (set : Sets) (cond : ET) (elt : EE) : List D → EA
  | [], _, G => some ([], G)
  | d :: ds, δ, G => (set d δ).bind fun δ1 => (cond δ1 G).bind fun k => if k.1 = true then (elt δ1 k.2).bind fun y => (lcE set cond elt ds δ y.2).bind fun ys => some (y.1 :: ys.1, ys.2) else lcE set cond elt ds δ k.2
def eLc (src : EA) (set : Sets) (cond : ET) (elt : EE) (vs : List Nat) : EE := fun δ G => (src δ G).bind fun ds => if ds.1.length ≤ 10000000 then (lcE set cond elt ds.1 (wipeD δ vs) ds.2).bind fun ys => some (.fl ys.1, ys.2) else none
def eLcL (src : EA) (set : Sets) (cond : ET) (elt : EE) (vs : List Nat) : EE := fun δ G => (src δ G).bind fun ds => if ds.1.length ≤ 10000000 then (lcE set cond elt ds.1 (wipeD δ vs) ds.2).bind fun ys => some (.rf ys.2.length, ys.2 ++ [.lst ys.1]) else none
abbrev DRTs (X : Cx) (ifs : List Expr) (f : RT) : Prop := PTs X ifs (lRT X.F f)
abbrev DETs (X : Cx) (ifs : List Expr) (f : ET) : Prop := PTs X ifs (lET X.F f)
def cYes : RT := fun _ _ => some true
def cYesE : ET := fun _ G => some (true, G)
theorem PTs.imp {X : Cx} {e : List Expr} {t t' : TT} (h : PTs X e t) (i : ∀ σ H Q, t' σ H Q → t σ H Q) : PTs X e t' := ⟨fun pins s σ H Q I q => h.run pins s σ H Q I (i σ H Q q)⟩
section
variable {X : Cx} {a b c e : Expr} {pos : Pos} {ta : RT} {ua : ET}
theorem drts_nil : DRTs X [] cYes := PTs.imp pts_nil fun σ H Q ⟨δ, G, γ, k, S, ef, q⟩ => by
  cases ef
  exact q H (Same.refl H)
theorem drts_one (h : DRT X e ta) : DRTs X [e] ta := pts_one h
theorem dets_nil : DETs X [] cYesE := PTs.imp pts_nil fun σ H Q ⟨δ, G, γ, k, G', S, ef, q⟩ => by
  cases ef
  exact q H γ Aft.refl S
theorem dets_one (h : DET X e ua) : DETs X [e] ua := pts_one h
end

section
variable {K : FK} {set : Sets} {g : TG} {is vs : List Nat}
theorem line7 {n : Nat} (h : n < 10000000) : n < sizeLine := Nat.lt_trans h (by decide)
/-- the reading of a comprehension whose parts read alone -/
theorem lc_r {src : RA} {cond : RT} {elt : RE} (hg : GG K g set is) (hv : ∀ i ∈ is, i ∈ vs) (σ : L2.St) (H : Hp) (Q : VK) (h : lR K (rLc src set cond elt vs) σ H Q) :
    tFrz (tLc (lIR K true src) g (lRT K cond) (lR K elt) vs) σ H Q := by
  obtain ⟨δ, G, γ, d, S, ef, q⟩ := h
  simp only [rLc, Option.bind_eq_some_iff] at ef
  obtain ⟨ds, e1, e2⟩ := ef
  split at e2
  case isFalse => cases e2
  rename_i hle
  obtain ⟨ys, e2', e3⟩ := Option.bind_eq_some_iff.mp e2
  cases e3
  refine ⟨δ, G, γ, ds, S, e1, fun J H1 s1 it L hL => ?_⟩
  refine ⟨fun i m H2 => m + i = ds.length ∧ ∃ acc us rest, H2 L = some (.lst us) ∧ Rs K γ H2 acc us ∧ Same H1 H2 ∧ acc.length ≤ i ∧ acc ++ rest = ys ∧ lcR set cond elt (ds.drop i) (wipeD δ vs) G = some rest, ⟨ds.length, by simp, [], [], ys, upd_same, Rs.nil, same_upd hL, by simp, by simp, by simpa using e2'⟩, ?_⟩
  rintro i m H2 ⟨hm, acc, us, rest, hl, ra, s2, hai, ey, e4⟩
  have st : Stp true H1 H2 := by simpa [Stp] using s2
  by_cases hlt : i < ds.length
  · right
    obtain ⟨j1, _, j3⟩ := it H2 st i
    rw [List.drop_eq_getElem_cons hlt] at e4
    simp only [lcR, Option.bind_eq_some_iff] at e4
    obtain ⟨δ3, e5, k, e6, e7⟩ := e4
    refine ⟨j1 hlt, fun H5 => ∃ acc us rest, H5 L = some (.lst us) ∧ Rs K γ H5 acc us ∧ Same H1 H5 ∧ acc.length ≤ i + 1 ∧ acc ++ rest = ys ∧ lcR set cond elt (ds.drop (i + 1)) (wipeD δ vs) G = some rest, ?_, fun x H3 y => ?_⟩
    · rintro H5 hh
      exact ⟨m - 1, by omega, by omega, hh⟩
    · obtain ⟨s3, dd, ed, rd⟩ := j3 hlt x H3 y
      rw [List.getElem?_eq_getElem hlt] at ed
      cases ed
      have s13 : Same H H3 := s1.trans (s2.trans s3)
      have S3 := (S.wipe vs).same s13
      refine hg _ (wipeD δ vs) δ3 x (wipe σ vs) H3 G γ _ e5 S3 rd fun σ3 c3 S4 => ⟨?_, ?_⟩
      · rw [wipe_chg c3 hv, wipe_wipe]
      · refine ⟨δ3, G, γ, k, S4, e6, fun H4 s4 => ?_⟩
        cases k with
        | true =>
          simp only [if_true, Option.bind_eq_some_iff, Option.some.injEq] at e7 ⊢
          obtain ⟨yd, e8, zs, e9, e10⟩ := e7
          subst e10
          refine ⟨δ3, G, γ, yd, S4.same s4, e8, fun v H5 s5 r5 => ?_⟩
          have hl5 : H5 L = some (.lst us) := s5 _ _ (s4 _ _ (s3 _ _ hl))
          refine ⟨us, hl5, line7 (by have := ra.length; omega), acc ++ [yd], us ++ [v], zs, upd_same, ?_, ?_, by simp; omega, by rw [← ey]; simp, e9⟩
          · refine Rs.mono (kp_other hl5) Pre.refl _ _ (Rs.append ?_ (Rs.cons r5 Rs.nil))
            exact Rs.same s5 (Rs.same s4 (Rs.same s3 ra))
          · intro b o eb
            have nb : b ≠ L := fun z => by
              subst z
              rw [hL] at eb
              cases eb
            rw [upd_ne nb]
            exact s5 _ _ (s4 _ _ (s3 _ _ (s2 _ _ eb)))
        | false =>
          have e7 : lcR set cond elt (ds.drop (i + 1)) (wipeD δ vs) G = some rest := by simpa using e7
          simp only [Bool.false_eq_true, if_false]
          exact ⟨acc, us, rest, s4 _ _ (s3 _ _ hl), Rs.same s4 (Rs.same s3 ra), s2.trans (s3.trans s4), by omega, ey, e7⟩
  · left
    obtain ⟨_, j2, _⟩ := it H2 st i
    have hi : ds.length ≤ i := by omega
    refine ⟨j2 hi, ?_⟩
    rw [List.drop_eq_nil_of_le hi] at e4
    cases e4
    rw [List.append_nil] at ey
    subst ey
    refine ⟨L, us, rfl, hl, fun od => q _ _ ?_ ?_⟩
    · intro b o eb
      have nb : b ≠ L := fun z => by
        subst z
        rw [s1 _ _ eb] at hL
        cases hL
      rw [upd_ne nb]
      exact s2 _ _ (s1 _ _ eb)
    · simp only [R]
      exact ⟨L, us, rfl, ⟨od, upd_same⟩, Rs.mono (kp_other hl) Pre.refl _ _ ra⟩
/-- .. whose parts may change roots; D: what is wanted of the new list -/
theorem lc_core {src : EA} {cond : ET} {elt : EE} {δ : Env'} {G G' : Hs} {γ : List Addr} {ds ys : List D} {G1 : Hs} (hg : GG K g set is) (hv : ∀ i ∈ is, i ∈ vs) (σ : L2.St) (H : Hp) (Q : VK) (S : Sx K H δ G σ γ) (e1 : src δ G = some (ds, G1)) (hle : ds.length ≤ 10000000)
    (e2 : lcE set cond elt ds (wipeD δ vs) G1 = some (ys, G')) (q : ∀ L us H' γ', Aft γ H γ' H' → Sx K H' δ G' σ γ' → L ∉ γ' → H L = none → H' L = some (.lst us) → Rs K γ' H' ys us → Q (.ref L) H') :
    tLc (lI K false src) g (lET K cond) (lE K elt) vs σ H Q := by
  refine ⟨δ, G, γ, ds, G1, S, e1, fun J H1 γ1 a1 S1 it L hL => ?_⟩
  have nL1 : L ∉ γ1 := fun z => S1.ex L z hL
  have hL0 : H L = none := by
    cases z : H L with
    | none => rfl
    | some o => exact absurd hL (a1.ex L (by rw [z]; simp))
  refine ⟨fun i m H2 => m + i = ds.length ∧ ∃ acc us rest G2 γ2, H2 L = some (.lst us) ∧ L ∉ γ2 ∧ Rs K γ2 H2 acc us ∧ Aft γ1 H1 γ2 H2 ∧ Sx K H2 δ G2 σ γ2 ∧ acc.length ≤ i ∧ acc ++ rest = ys ∧ lcE set cond elt (ds.drop i) (wipeD δ vs) G2 = some (rest, G'), ⟨ds.length, by simp, [], [], ys, G1, γ1, upd_same, nL1, Rs.nil, Aft.of_same (same_upd hL), S1.same (same_upd hL), by simp, by simp, by simpa using e2⟩, ?_⟩
  rintro i m H2 ⟨hm, acc, us, rest, G2, γ2, hl, nl, ra, a2, S2, hai, ey, e4⟩
  have st : Stp false H1 H2 := by simpa [Stp] using a2.kp
  by_cases hlt : i < ds.length
  · right
    obtain ⟨j1, _, j3⟩ := it H2 st i
    rw [List.drop_eq_getElem_cons hlt] at e4
    simp only [lcE, Option.bind_eq_some_iff] at e4
    obtain ⟨δ3, e5, ⟨k, G3⟩, e6, e7⟩ := e4
    refine ⟨j1 hlt, fun H5 => ∃ acc us rest G2 γ2, H5 L = some (.lst us) ∧ L ∉ γ2 ∧ Rs K γ2 H5 acc us ∧ Aft γ1 H1 γ2 H5 ∧ Sx K H5 δ G2 σ γ2 ∧ acc.length ≤ i + 1 ∧ acc ++ rest = ys ∧ lcE set cond elt (ds.drop (i + 1)) (wipeD δ vs) G2 = some (rest, G'), ?_, fun x H3 y => ?_⟩
    · rintro H5 hh
      exact ⟨m - 1, by omega, by omega, hh⟩
    · obtain ⟨s3, dd, ed, rd⟩ := j3 hlt x H3 y
      rw [List.getElem?_eq_getElem hlt] at ed
      cases ed
      have S3 := (S2.wipe vs).same s3
      refine hg _ (wipeD δ vs) δ3 x (wipe σ vs) H3 G2 γ2 _ e5 S3 (R.mono Kp.refl a2.pr _ _ rd) fun σ3 c3 S4 => ⟨?_, ?_⟩
      · rw [wipe_chg c3 hv, wipe_wipe]
      · refine ⟨δ3, G2, γ2, k, G3, S4, e6, fun H4 γ4 a4 S4' => ?_⟩
        -- what the outer slots are behind a step of the block
        have outer : ∀ {H5 γ5 G5 δ5 σ5}, Aft γ2 H3 γ5 H5 → Sx K H5 δ5 G5 σ5 γ5 → Sx K H5 δ G5 σ γ5 := fun {H5 γ5 G5 δ5 σ5} a5 S5 =>
          { S5.toRo with
            dl := S2.dl
            sl := fun j d' e' => by
              obtain ⟨v', h1, h2⟩ := S2.sl j d' e'
              exact ⟨v', h1, R.aft a5 (R.same s3 h2)⟩ }
        have nL : ∀ {H5 γ5}, Aft γ2 H3 γ5 H5 → L ∉ γ5 := fun {H5 γ5} a5 z => by
          rcases a5.fr L z with z | z
          · exact nl z
          · rw [s3 _ _ hl] at z
            cases z
        cases k with
        | true =>
          simp only [if_true, Option.bind_eq_some_iff, Option.some.injEq, Prod.mk.injEq] at e7 ⊢
          obtain ⟨⟨yd, G5⟩, e8, ⟨zs, G6⟩, e9, e10, e11⟩ := e7
          subst e10 e11
          refine ⟨δ3, G3, γ4, yd, G5, S4', e8, fun v H5 γ5 a5 S5 r5 => ?_⟩
          have a35 := a4.trans a5
          have hl5 : H5 L = some (.lst us) := a35.tr _ _ (s3 _ _ hl) (.inl nl)
          have n5 := nL a35
          refine ⟨us, hl5, line7 (by have := ra.length; omega), acc ++ [yd], us ++ [v], zs, G5, γ5, upd_same, n5, ?_, ?_, (outer a35 S5).other n5 hl5, by simp; omega, by rw [← ey]; simp, e9⟩
          · refine Rs.mono (kp_other hl5) Pre.refl _ _ (Rs.append ?_ (Rs.cons r5 Rs.nil))
            exact Rs.aft a35 (Rs.same s3 ra)
          · have a15 := a2.trans ((Aft.of_same s3).trans a35)
            exact ⟨fun b o eb i => by
              have nb : b ≠ L := fun z => by
                subst z
                rw [hL] at eb
                cases eb
              rw [upd_ne nb]
              exact a15.tr b o eb i, fun b eb => by
              unfold upd
              split
              · simp
              · exact a15.ex b eb, a15.pre, a15.fr⟩
        | false =>
          have e7 : lcE set cond elt (ds.drop (i + 1)) (wipeD δ vs) G3 = some (rest, G') := by simpa using e7
          simp only [Bool.false_eq_true, if_false]
          exact ⟨acc, us, rest, G3, γ4, a4.tr _ _ (s3 _ _ hl) (.inl nl), nL a4, Rs.aft a4 (Rs.same s3 ra), a2.trans ((Aft.of_same s3).trans a4), outer a4 S4', by omega, ey, e7⟩
  · left
    obtain ⟨_, j2, _⟩ := it H2 st i
    have hi : ds.length ≤ i := by omega
    refine ⟨j2 hi, ?_⟩
    rw [List.drop_eq_nil_of_le hi] at e4
    cases e4
    rw [List.append_nil] at ey
    subst ey
    exact q L us H2 γ2 (a1.trans a2) S2 nl hL0 hl ra
theorem lc_e {src : EA} {cond : ET} {elt : EE} (hg : GG K g set is) (hv : ∀ i ∈ is, i ∈ vs) (σ : L2.St) (H : Hp) (Q : VK) (h : lE K (eLc src set cond elt vs) σ H Q) :
    tFrz (tLc (lI K false src) g (lET K cond) (lE K elt) vs) σ H Q := by
  obtain ⟨δ, G, γ, d, G', S, ef, q⟩ := h
  simp only [eLc, Option.bind_eq_some_iff] at ef
  obtain ⟨⟨ds, G1⟩, e1, e2⟩ := ef
  split at e2
  case isFalse => cases e2
  rename_i hle
  obtain ⟨⟨ys, G2⟩, e2', e3⟩ := Option.bind_eq_some_iff.mp e2
  cases e3
  refine lc_core hg hv σ H _ S e1 hle e2' fun L us H' γ' a S' nl hn hl r => ⟨L, us, rfl, hl, fun od => q _ _ γ' ?_ (S'.other nl hl) ?_⟩
  · exact ⟨fun b o eb i => by
      have nb : b ≠ L := fun z => by
        subst z
        rw [hn] at eb
        cases eb
      rw [upd_ne nb]
      exact a.tr b o eb i, fun b eb => by
      unfold upd
      split
      · simp
      · exact a.ex b eb, a.pre, a.fr⟩
  · simp only [R]
    exact ⟨L, us, rfl, ⟨od, upd_same⟩, Rs.mono (kp_other hl) Pre.refl _ _ r⟩
theorem lc_l {src : EA} {cond : ET} {elt : EE} (hg : GG K g set is) (hv : ∀ i ∈ is, i ∈ vs) (σ : L2.St) (H : Hp) (Q : VK) (h : lE K (eLcL src set cond elt vs) σ H Q) :
    tLc (lI K false src) g (lET K cond) (lE K elt) vs σ H Q := by
  obtain ⟨δ, G, γ, d, G', S, ef, q⟩ := h
  simp only [eLcL, Option.bind_eq_some_iff] at ef
  obtain ⟨⟨ds, G1⟩, e1, e2⟩ := ef
  split at e2
  case isFalse => cases e2
  rename_i hle
  obtain ⟨⟨ys, G2⟩, e2', e3⟩ := Option.bind_eq_some_iff.mp e2
  cases e3
  refine lc_core hg hv σ H _ S e1 hle e2' fun L us H' γ' a S' nl hn hl r => ?_
  obtain ⟨S2, r2⟩ := S'.adopt nl hl r
  refine q _ H' _ ⟨a.tr, a.ex, a.pre.trans (List.prefix_append _ _), fun b z => ?_⟩ S2 r2
  rcases List.mem_append.mp z with z | z
  · exact a.fr b z
  · have : b = L := by simpa using z
    subst this
    exact .inr hn
end
section
variable {X : Cx} {elt tg iter : Expr} {ifs : List Expr} {scope : Scope} {pos : Pos} {set : Sets} {g : TG} {is : List Nat}
/-- a comprehension that reads alone -/
theorem dr_lc {src : RA} {cond : RT} {fe : RE} (own : List (Str × Nat)) (hc : X.calm = true) (hN : X.N.Nodup) (hi : DIR X true tg iter src) (ok : BlkOk X.N X.env.scope scope own)
    (hp : ∀ (s : Shared) (H : Hp) (C : Addr) (cl : List (Str × Addr)) (fp : List Addr), PG (X.blk s H scope (compEnvC scope cl C X.env) fp) tg g) (hg : GG X.F g set is)
    (ht : ∀ (s : Shared) (H : Hp) (C : Addr) (cl : List (Str × Addr)) (fp : List Addr), DRTs (X.blk s H scope (compEnvC scope cl C X.env) fp) ifs cond)
    (he : ∀ (s : Shared) (H : Hp) (C : Addr) (cl : List (Str × Addr)) (fp : List Addr), DR (X.blk s H scope (compEnvC scope cl C X.env) fp) elt fe)
    (hv : ∀ i ∈ is, i ∈ own.map (·.2) := by decide) (hs : ∀ x, foldedSetIterable iter X.env x = pure x := by intro _; rfl) :
    DR X (.ListComp elt [⟨tg, iter, ifs, 0⟩] scope pos) (rLc src set cond fe (own.map (·.2))) := PE.imp (pe_frz (pe_lc hc hN hi ok hp ht he hs)) (lc_r hg hv)
theorem de_lc {src : EA} {cond : ET} {fe : EE} (own : List (Str × Nat)) (hc : X.calm = true) (hN : X.N.Nodup) (hi : DI X false tg iter src) (ok : BlkOk X.N X.env.scope scope own)
    (hp : ∀ (s : Shared) (H : Hp) (C : Addr) (cl : List (Str × Addr)) (fp : List Addr), PG (X.blk s H scope (compEnvC scope cl C X.env) fp) tg g) (hg : GG X.F g set is)
    (ht : ∀ (s : Shared) (H : Hp) (C : Addr) (cl : List (Str × Addr)) (fp : List Addr), DETs (X.blk s H scope (compEnvC scope cl C X.env) fp) ifs cond)
    (he : ∀ (s : Shared) (H : Hp) (C : Addr) (cl : List (Str × Addr)) (fp : List Addr), DE (X.blk s H scope (compEnvC scope cl C X.env) fp) elt fe)
    (hv : ∀ i ∈ is, i ∈ own.map (·.2) := by decide) (hs : ∀ x, foldedSetIterable iter X.env x = pure x := by intro _; rfl) :
    DE X (.ListComp elt [⟨tg, iter, ifs, 0⟩] scope pos) (eLc src set cond fe (own.map (·.2))) := PE.imp (pe_frz (pe_lc hc hN hi ok hp ht he hs)) (lc_e hg hv)
theorem de_lcL {src : EA} {cond : ET} {fe : EE} (own : List (Str × Nat)) (hc : X.calm = true) (hN : X.N.Nodup) (hi : DI X false tg iter src) (ok : BlkOk X.N X.env.scope scope own)
    (hp : ∀ (s : Shared) (H : Hp) (C : Addr) (cl : List (Str × Addr)) (fp : List Addr), PG (X.blk s H scope (compEnvC scope cl C X.env) fp) tg g) (hg : GG X.F g set is)
    (ht : ∀ (s : Shared) (H : Hp) (C : Addr) (cl : List (Str × Addr)) (fp : List Addr), DETs (X.blk s H scope (compEnvC scope cl C X.env) fp) ifs cond)
    (he : ∀ (s : Shared) (H : Hp) (C : Addr) (cl : List (Str × Addr)) (fp : List Addr), DE (X.blk s H scope (compEnvC scope cl C X.env) fp) elt fe)
    (hv : ∀ i ∈ is, i ∈ own.map (·.2) := by decide) (hs : ∀ x, foldedSetIterable iter X.env x = pure x := by intro _; rfl) :
    DE X (.ListComp elt [⟨tg, iter, ifs, 0⟩] scope pos) (eLcL src set cond fe (own.map (·.2))) := PE.imp (pe_lc hc hN hi ok hp ht he hs) (lc_l hg hv)
/-- name = [..], the name a local, on one line -/
def tFrzN (t : TS) : TS := fun D σ H => t { D with nx := fun σ' H' => ∃ p vs, H' p = some (.lst vs) ∧ ∀ od, D.nx σ' (upd H' p (.frz od (.lst vs))) } σ H
theorem ps_frzN {st : Stmt} {t : TS} (h : PS X st t) : PS X st (tFrzN t) := by
  refine ⟨fun pins s σ H D I hw => ?_⟩
  refine thn (h.run pins s σ H _ I hw) fun f s1 q => ?_
  cases f with
  | next =>
    obtain ⟨σ', H', I1, p, vs, hp, q⟩ := q
    obtain ⟨od, I2⟩ := I1.lock hp True.intro
    exact ⟨σ', _, I2, q od⟩
  | brk => exact q
  | cont => exact q
  | ret u => exact q
end
end FL
namespace FL
open PySem PySem.Spec PyProof.Rows L2

/-! defs -/
def slots (n : Nat) (ds : List D) : Env' := ds.map some ++ List.replicate (n - ds.length) none
/-- a def upon data, that makes data -/
def outD (d : D) (G : Hs) : Option D := if d.im = true then some d else match d with
  | .rf k => match G[k]? with
    | some (.lst ds) => if ims ds = true then some (.fl ds) else none
    | _ => none
  | _ => none
def fnP (n : Nat) (body : SS) : List D → Option D := fun ds => (body (slots n ds) []).bind fun x => match x.1 with
  | .rt d => outD d x.2.2
  | .nx => some .non
  | _ => none
/-- what is left behind a def: the roots that it was given, and one that it hands back -/
def gcD (m : Nat) (d : D) (G : Hs) : Option (D × Hs) :=
  if (G.take m).all GO.flat = true then
    if d.im = true then some (d, G.take m) else match d with
      | .rf k => if k < m then some (.rf k, G.take m) else match G[k]? with
        | some o => if o.flat = true then some (.rf m, G.take m ++ [o]) else none
        | none => none
      | _ => none
  else none
/-- a def that may change the roots it is given -/
def fnB (n : Nat) (body : SS) : List D → Hs → Option (D × Hs) := fun ds G => (body (slots n ds) G).bind fun x => match x.1 with
  | .rt d => gcD G.length d x.2.2
  | .nx => gcD G.length .non x.2.2
  | _ => none
/-- data, or a new list that is to be frozen -/
def RF (K : FK) (H H' : Hp) (d : D) (v : V) : Prop := R K [] H' d v ∨ ∃ ds p vs, d = .fl ds ∧ v = .ref p ∧ H p = none ∧ H' p = some (.lst vs) ∧ Rs K [] H' ds vs
def spP (K : FK) (np : Nat) (F : List D → Option D) : Sp := fun vs H Q _ => vs.length = np ∧ ∃ ds d, Rs K [] H ds vs ∧ F ds = some d ∧ ∀ v H', Same H H' → RF K H H' d v → Q v H'
def tFrzM (t : TE) : TE := fun σ H Q => t σ H fun v H1 => Q v H1 ∨ ∃ p vs, v = .ref p ∧ H1 p = some (.lst vs) ∧ ∀ od, Q v (upd H1 p (.frz od (.lst vs)))
theorem pe_frzM {X : Cx} {e : Expr} {t : TE} (h : PE X e t) : PE X e (tFrzM t) := by
  refine ⟨fun pins s σ H Q I hw => ?_⟩
  refine thn (h.run pins s σ H _ I hw) fun u s1 ⟨v, H1, I1, r1, q⟩ => ?_
  rcases q with q | ⟨p, vs, ev, hp, q⟩
  · exact ⟨v, H1, I1, r1, q⟩
  · obtain ⟨od, I2⟩ := I1.lock hp True.intro
    exact ⟨v, _, I2, r1, q od⟩
def spB (K : FK) (np : Nat) (F : List D → Hs → Option (D × Hs)) : Sp := fun vs H Q _ => vs.length = np ∧ ∃ ds G γ d G', Rs K γ H ds vs ∧ Ro K H G γ ∧ F ds G = some (d, G') ∧
  ∀ v H' γ', Aft γ H γ' H' → Ro K H' G' γ' → R K γ' H' d v → Q v H'
section
variable {K : FK} {γ γ' : List Addr} {H H' : Hp} {δ : Env'} {G : Hs} {σ : L2.St}
theorem Aft.same0 (a : Aft [] H γ' H') : Same H H' := fun b o e => a.tr b o e (.inl (by simp))
theorem start_ok {N : List Str} {ds : List D} {vs : List V} (r : Ro K H G γ) (h : Rs K γ H ds vs) : Sx K H (slots N.length ds) G (L2.start N vs) γ :=
  { r with
    dl := by simp [slots, L2.start, h.length]
    sl := fun i d e => by
      unfold slots at e
      by_cases hi : i < ds.length
      · rw [List.getElem?_append_left (by simpa using hi), List.getElem?_map] at e
        obtain ⟨d', e1, e2⟩ := Option.map_eq_some_iff.mp e
        cases e2
        obtain ⟨v, h1, h2⟩ := h.get e1
        refine ⟨v, ?_, h2⟩
        unfold L2.start
        rw [List.getElem?_append_left (by rw [List.length_map, ← h.length]; exact hi), List.getElem?_map, h1]
        rfl
      · rw [List.getElem?_append_right (by simpa using hi)] at e
        have := (List.getElem?_eq_some_iff.mp e)
        obtain ⟨hl, e⟩ := this
        simp at e }
theorem RG.flat {o : GO} {a : Addr} (f : o.flat = true) (h : RG K γ H o a) : RG K γ' H o a := by
  cases o with
  | lst ds =>
    obtain ⟨vs, h1, h2⟩ := h
    exact ⟨vs, h1, Rs.im ds vs f h2⟩
  | dct kvs =>
    obtain ⟨xs, ep, h1, hn, h2⟩ := h
    simp only [GO.flat, Bool.and_eq_true] at f
    exact ⟨xs, ep, h1, hn, DK.im f.1 f.2 h2⟩
  | ins nx ns ds =>
    obtain ⟨C, dx, vs, h1, hc, h2⟩ := h
    exact ⟨C, dx, vs, h1, hc, Rs.im ds vs f h2⟩
  | dead => trivial
theorem Ro.nil : Ro K H [] [] := ⟨rfl, List.nodup_nil, fun a z => by simp at z, fun k o a e => by simp at e⟩
theorem gc_ok {d : D} {v : V} {d2 : D} {G G2 : Hs} {γ γ1 : List Addr} {H H1 : Hp} (a : Aft γ H γ1 H1) (r : Ro K H1 G γ1) (rd : R K γ1 H1 d v) (e : gcD γ.length d G = some (d2, G2)) :
    ∃ γ2, Aft γ H γ2 H1 ∧ Ro K H1 G2 γ2 ∧ R K γ2 H1 d2 v := by
  obtain ⟨t, et⟩ := a.pre
  have hg : G.length = γ.length + t.length := by rw [r.len, ← et, List.length_append]
  unfold gcD at e
  split at e
  case isFalse => cases e
  rename_i hf
  have base : Ro K H1 (G.take γ.length) γ := by
    refine ⟨by simp; omega, ?_, fun b z => r.ex b (by rw [← et]; exact List.mem_append_left _ z), fun k o b e1 e2 => ?_⟩
    · have := r.nd
      rw [← et] at this
      exact (List.nodup_append.mp this).1
    · have hk := (List.getElem?_eq_some_iff.mp e2).1
      have e1' : G[k]? = some o := by rw [List.getElem?_take_of_lt hk] at e1; exact e1
      have e2' : γ1[k]? = some b := a.pr k b e2
      exact RG.flat (List.all_eq_true.mp hf o (List.mem_of_getElem? e1)) (r.rt k o b e1' e2')
  have aft : Aft γ H γ H1 := ⟨a.tr, a.ex, List.prefix_rfl, fun b z => .inl z⟩
  split at e
  · rename_i him
    cases e
    exact ⟨γ, aft, base, R.im _ _ him rd⟩
  · split at e
    · rename_i k him
      split at e
      · rename_i hk
        cases e
        refine ⟨γ, aft, base, ?_⟩
        simp only [R] at rd ⊢
        obtain ⟨b, rfl, hb⟩ := rd
        refine ⟨b, rfl, ?_⟩
        rw [← et, List.getElem?_append_left hk] at hb
        exact hb
      · rename_i hk
        split at e
        case h_2 => cases e
        rename_i o ho
        split at e
        case isFalse => cases e
        rename_i hof
        cases e
        simp only [R] at rd
        obtain ⟨b, rfl, hb⟩ := rd
        have nb : b ∉ γ := fun z => by
          obtain ⟨j, hj, ej⟩ := List.mem_iff_getElem.mp z
          have e3 : γ1[j]? = some b := a.pr j b (by rw [List.getElem?_eq_getElem hj, ej])
          obtain ⟨h4, e4⟩ := List.getElem?_eq_some_iff.mp e3
          obtain ⟨h5, e5⟩ := List.getElem?_eq_some_iff.mp hb
          have := (List.getElem_inj r.nd).mp (e4.trans e5.symm)
          omega
        have mb : b ∈ γ1 := List.mem_of_getElem? hb
        refine ⟨γ ++ [b], ⟨a.tr, a.ex, List.prefix_append _ _, fun c z => ?_⟩, ⟨by simp; omega, ?_, fun c z => ?_, fun j x c e1 e2 => ?_⟩, ?_⟩
        · rcases List.mem_append.mp z with z | z
          · exact .inl z
          · have : c = b := by simpa using z
            subst this
            exact a.fr c mb
        · rw [List.nodup_append]
          exact ⟨base.nd, by simp, fun c hc d hd e => by
            have : d = b := by simpa using hd
            subst this
            subst e
            exact nb hc⟩
        · rcases List.mem_append.mp z with z | z
          · exact base.ex c z
          · have : c = b := by simpa using z
            subst this
            exact r.ex c mb
        · have hl : (G.take γ.length).length = γ.length := base.len
          by_cases hj : j < γ.length
          · rw [List.getElem?_append_left (by rw [hl]; exact hj)] at e1
            rw [List.getElem?_append_left hj] at e2
            exact RG.flat (List.all_eq_true.mp hf x (List.mem_of_getElem? e1)) (base.rt j x c e1 e2)
          · have hj2 := (List.getElem?_eq_some_iff.mp e2).1
            simp at hj2
            have : j = γ.length := by omega
            subst this
            rw [List.getElem?_append_right (by rw [hl]; exact Nat.le_refl _), hl] at e1
            rw [List.getElem?_append_right (Nat.le_refl _)] at e2
            simp at e1 e2
            subst e1 e2
            exact RG.flat hof (r.rt k _ _ ho hb)
        · simp only [R]
          exact ⟨b, rfl, by simp⟩
    · cases e
end

section
variable {P : Program} {K : FK} {mg : Str → Option Value} {base : Heap}
/-- a def upon data, by the derivation of its body -/
theorem calPF {x : Str} {st : Stmt} {f : Addr} {fd : FuncData} {N ps : List Str} {k : Nat} {body : SS} (F : C8.Def K mg x st f fd) (S : FnScope N ps (C8.fnScope st))
    (hbody : ∀ (cdv : Value) (A : Around) (outer : List Env) (s : Shared) (H : Hp) (E : XK), RoomG k (A.deeper (envOfC x (C8.fnScope st) s.heap.objs.size f cdv)) →
      DSs (cxOf C8.CX0 P K.wd K mg base N x (C8.fnScope st) f cdv A outer s H E).nox (C8.fnBody st) body) : FnG P K.wd K mg base C8.CX0 (k + 1) f fd ps (spP K ps.length (fnP N.length body)) := by
  refine C8.fnG0 F.fn S (fun vs H Q E h => h.1) fun cdv A outer s H vs Q E hr h => ⟨_, hbody cdv A outer s H E hr, ?_⟩
  obtain ⟨_, ds, d, r, e, q⟩ := h
  unfold fnP at e
  obtain ⟨⟨c, δ', G'⟩, e1, e2⟩ := Option.bind_eq_some_iff.mp e
  refine ⟨slots N.length ds, [], [], c, δ', G', start_ok Ro.nil r, e1, fun σ' H' γ' a S' => ?_⟩
  cases c with
  | nx =>
    cases e2
    exact q .non H' a.same0 (.inl (by simp only [R]))
  | rt d' =>
    have e2 : outD d' G' = some d := e2
    unfold outD at e2
    split at e2
    · rename_i him
      cases e2
      exact fun v rv => q v H' a.same0 (.inl (R.im _ _ him rv))
    · split at e2
      case h_2 => cases e2
      rename_i k _
      split at e2
      case h_2 => cases e2
      rename_i ds' eg
      split at e2
      case isFalse => cases e2
      rename_i hi
      cases e2
      intro v rv
      simp only [R] at rv
      obtain ⟨b, rfl, hb⟩ := rv
      obtain ⟨vs', h1, h2⟩ := S'.toRo.at eg hb
      refine q _ H' a.same0 (.inr ⟨ds', b, vs', rfl, rfl, ?_, h1, Rs.im ds' vs' hi h2⟩)
      rcases a.fr b (List.mem_of_getElem? hb) with z | z
      · simp at z
      · exact z
  | bk => cases e2
  | ct => cases e2
theorem calP {x : Str} {st : Stmt} {f : Addr} {fd : FuncData} {N ps : List Str} {k : Nat} {body : SS} (F : C8.Def K mg x st f fd) (b : Binds K fd ps []) (S : FnScope N ps (C8.fnScope st))
    (hbody : ∀ (cdv : Value) (A : Around) (outer : List Env) (s : Shared) (H : Hp) (E : XK), RoomG k (A.deeper (envOfC x (C8.fnScope st) s.heap.objs.size f cdv)) →
      DSs (cxOf C8.CX0 P K.wd K mg base N x (C8.fnScope st) f cdv A outer s H E).nox (C8.fnBody st) body) : C8.CalG P K.wd K mg base (k + 1) x (spP K ps.length (fnP N.length body)) [] :=
  ⟨f, fd, ps, [], calPF F S hbody, F.mgf, F.kp, b, .nil⟩
theorem calB {x : Str} {st : Stmt} {f : Addr} {fd : FuncData} {N ps : List Str} {k : Nat} {body : SS} (F : C8.Def K mg x st f fd) (b : Binds K fd ps []) (S : FnScope N ps (C8.fnScope st))
    (hbody : ∀ (cdv : Value) (A : Around) (outer : List Env) (s : Shared) (H : Hp) (E : XK), RoomG k (A.deeper (envOfC x (C8.fnScope st) s.heap.objs.size f cdv)) →
      DSs (cxOf C8.CX0 P K.wd K mg base N x (C8.fnScope st) f cdv A outer s H E).nox (C8.fnBody st) body) : C8.CalG P K.wd K mg base (k + 1) x (spB K ps.length (fnB N.length body)) [] := by
  refine C8.calG F b .nil S (fun vs H Q E h => h.1) fun cdv A outer s H vs Q E hr h => ⟨_, hbody cdv A outer s H E hr, ?_⟩
  obtain ⟨_, ds, G, γ, d, G2, r, ro, e, q⟩ := h
  unfold fnB at e
  obtain ⟨⟨c, δ', G'⟩, e1, e2⟩ := Option.bind_eq_some_iff.mp e
  refine ⟨slots N.length ds, G, γ, c, δ', G', start_ok ro r, e1, fun σ' H' γ' a S' => ?_⟩
  cases c with
  | nx =>
    simp only at e2
    rw [ro.len] at e2
    obtain ⟨γ2, a2, r2, rd⟩ := gc_ok a S'.toRo (v := .non) (by simp only [R]) e2
    exact q .non H' γ2 a2 r2 rd
  | rt d' =>
    simp only at e2
    rw [ro.len] at e2
    intro v rv
    obtain ⟨γ2, a2, r2, rd⟩ := gc_ok a S'.toRo rv e2
    exact q v H' γ2 a2 r2 rd
  | bk => cases e2
  | ct => cases e2
end

/-! calls -/
def rCallP (np : Nat) (F : List D → Option D) (fs : RA) : RE := fun δ G => (fs δ G).bind fun ds => if ims ds = true ∧ ds.length = np then F ds else none
def eCallP (np : Nat) (F : List D → Option D) (gs : EA) : EE := fun δ G => (gs δ G).bind fun x => if ims x.1 = true ∧ x.1.length = np then (F x.1).bind fun d => some (d, x.2) else none
/-- the first argument may be a root -/
def callB (F : List D → Hs → Option (D × Hs)) (ds : List D) (G : Hs) : Option (D × Hs) :=
  match ds with
  | .rf k :: rest => if ims rest = true then (G[k]?).bind fun o => if o.flat = true then (F (.rf 0 :: rest) [o]).bind fun r => match r.2 with
      | [o'] => if o'.flat = true then (if r.1.im = true then some (r.1, G.set k o') else match r.1 with
        | .rf 0 => some (.rf k, G.set k o')
        | _ => none) else none
      | [o', o2] => if o'.flat = true ∧ o2.flat = true then match r.1 with
        | .rf 1 => some (.rf G.length, G.set k o' ++ [o2])
        | _ => none else none
      | _ => none else none else none
  | _ => if ims ds = true then (F ds []).bind fun r => match r.2 with
      | [] => if r.1.im = true then some (r.1, G) else none
      | [o2] => if o2.flat = true then match r.1 with
        | .rf 0 => some (.rf G.length, G ++ [o2])
        | _ => none else none
      | _ => none else none
def eCallB (np : Nat) (F : List D → Hs → Option (D × Hs)) (gs : EA) : EE := fun δ G => (gs δ G).bind fun x => if x.1.length = np then callB F x.1 x.2 else none
section
variable {K : FK} {γ γ' : List Addr} {H H' : Hp} {δ : Env'} {G : Hs} {σ : L2.St}
theorem R.im_of {d : D} {v : V} (i : d.im = true) (h : R K γ H d v) : R K γ' H d v := R.im d v i h
/-- behind a call that was given one root: the caller's roots -/
theorem Sx.back1 {k : Nat} {a : Addr} {o o' : GO} {H1 : Hp} {γ1 : List Addr} (S : Sx K H δ G σ γ) (hk : γ[k]? = some a) (hg : G[k]? = some o) (A : Aft [a] H γ1 H1) (f : o'.flat = true) (r : RG K γ1 H1 o' a) :
    Aft γ H γ H1 ∧ Sx K H1 δ (G.set k o') σ γ := by
  have ma : a ∈ γ := List.mem_of_getElem? hk
  have aft : Aft γ H γ H1 := ⟨fun b x e i => A.tr b x e (i.imp (fun n z => n (by simpa using (by simpa using z : b = a) ▸ ma)) id), A.ex, List.prefix_rfl, fun b z => .inl z⟩
  refine ⟨aft, ⟨⟨by simp [S.len], S.nd, fun b z => A.ex b (S.ex b z), fun j x b e1 e2 => ?_⟩, S.dl, fun i d e => ?_⟩⟩
  · by_cases hj : j = k
    · subst hj
      rw [hk] at e2
      cases e2
      have := (List.getElem?_eq_some_iff.mp hg).1
      rw [List.getElem?_set_self this] at e1
      cases e1
      exact RG.flat f r
    · rw [List.getElem?_set_ne (Ne.symm hj)] at e1
      have nb : b ≠ a := fun z => by
        subst z
        obtain ⟨h1, e1'⟩ := List.getElem?_eq_some_iff.mp hk
        obtain ⟨h2, e2'⟩ := List.getElem?_eq_some_iff.mp e2
        exact hj ((List.getElem_inj S.nd).mp (e2'.trans e1'.symm))
      have q := S.rt j x b e1 e2
      cases x with
      | lst ds =>
        obtain ⟨ws, h1, h2⟩ := q
        exact ⟨ws, A.tr _ _ h1 (.inl (by simpa using nb)), Rs.mono A.kp Pre.refl _ _ h2⟩
      | dct kvs =>
        obtain ⟨xs, ep, h1, hn, h2⟩ := q
        exact ⟨xs, ep, A.tr _ _ h1 (.inl (by simpa using nb)), hn, h2.mono A.kp Pre.refl⟩
      | ins nx ns ds =>
        obtain ⟨C, dx, ws, h1, hc, h2⟩ := q
        exact ⟨C, dx, ws, A.tr _ _ h1 (.inl (by simpa using nb)), hc, Rs.mono A.kp Pre.refl _ _ h2⟩
      | dead => trivial
  · obtain ⟨v, h1, h2⟩ := S.sl i d e
    exact ⟨v, h1, R.mono A.kp Pre.refl _ _ h2⟩
/-- a new root from a call -/
theorem Sx.more {p : Addr} {o : GO} (S : Sx K H δ G σ γ) (np : p ∉ γ) (hp : H p ≠ none) (f : o.flat = true) (h : RG K γ' H o p) :
    Sx K H δ (G ++ [o]) σ (γ ++ [p]) ∧ R K (γ ++ [p]) H (.rf G.length) (.ref p) := by
  refine ⟨⟨⟨?_, ?_, fun a z => ?_, fun k o a e1 e2 => ?_⟩, S.dl, fun i d e => ?_⟩, ?_⟩
  · simp [S.len]
  · rw [List.nodup_append]
    exact ⟨S.nd, by simp, fun a ha b hb e => by
      have : b = p := by simpa using hb
      subst this
      subst e
      exact np ha⟩
  · rcases List.mem_append.mp z with z | z
    · exact S.ex a z
    · have : a = p := by simpa using z
      subst this
      exact hp
  · by_cases hk : k < G.length
    · rw [List.getElem?_append_left hk] at e1
      rw [List.getElem?_append_left (by rw [← S.len]; exact hk)] at e2
      exact RG.pre Pre.app (S.rt k o a e1 e2)
    · have hk' : k = G.length := by
        have := (List.getElem?_eq_some_iff.mp e1).1
        simp at this
        omega
      subst hk'
      rw [List.getElem?_append_right (Nat.le_refl _)] at e1
      rw [S.len, List.getElem?_append_right (Nat.le_refl _)] at e2
      simp at e1 e2
      subst e1 e2
      exact RG.flat f h
  · obtain ⟨v, h1, h2⟩ := S.sl i d e
    exact ⟨v, h1, R.mono Kp.refl Pre.app _ _ h2⟩
  · simp only [R]
    exact ⟨p, rfl, by rw [S.len, List.getElem?_append_right (Nat.le_refl _)]; simp⟩
theorem Ro.one {k : Nat} {a : Addr} {o : GO} (S : Ro K H G γ) (hk : γ[k]? = some a) (hg : G[k]? = some o) (f : o.flat = true) : Ro K H [o] [a] := by
  refine ⟨rfl, by simp, fun b z => ?_, fun j x b e1 e2 => ?_⟩
  · have : b = a := by simpa using z
    subst this
    exact S.ex b (List.mem_of_getElem? hk)
  · cases j with
    | zero =>
      simp at e1 e2
      subst e1 e2
      exact RG.flat f (S.rt k _ _ hg hk)
    | succ j => simp at e1
end
section
variable {X : Cx} {k j : Nat} {x : Str} {p pos : Pos} {e : Expr} {es : List Expr} {fs : RA} {gs : EA} {np : Nat}
theorem frz_res {K : FK} {γ : List Addr} {H H' : Hp} {p : Addr} {od : Obj} {ds : List D} {vs : List V} (s : Same H H') (hp : H p = none) (hp2 : H' p = some (.lst vs)) (r : Rs K γ H' ds vs) :
    Same H (upd H' p (.frz od (.lst vs))) ∧ R K γ (upd H' p (.frz od (.lst vs))) (.fl ds) (.ref p) := by
  have kp : Kp H' (upd H' p (.frz od (.lst vs))) := fun b x e i => by
    rw [upd_ne]
    · exact e
    · intro z
      subst z
      rw [hp2] at e
      cases e
      cases i
  refine ⟨fun b x e => ?_, ?_⟩
  · rw [upd_ne (ne_of_none e hp)]
    exact s b x e
  · simp only [R]
    exact ⟨p, vs, rfl, ⟨od, upd_same⟩, Rs.mono kp Pre.refl _ _ r⟩
theorem dr_callP {F : List D → Option D} (c : C8.CalG X.prog X.w X.F X.mg X.base k x (spP X.F np F) []) (hr : RoomG j X.A) (ha : DRA X (e :: es) fs) (hk : k ≤ j := by decide) (hg : Gl X x := by rfl)
    (hdb : (x == ("__debug__" : Str)) = false := by decide) (he : starEach (e :: es) X.env = (false, eval e X.env) :: starEach es X.env := by rfl) (hpl : (backTo pos (starEach es X.env)).any (·.1) = false := by rfl) :
    DR X (.Call (.Name x p) (e :: es) [] pos) (rCallP np F fs) := PE.imp (pe_frzM (C8.pe_cG c hr hk hg ha hdb he hpl)) fun σ H Q ⟨δ, G, γ, d, S, ef, q⟩ => by
  simp only [rCallP, Option.bind_eq_some_iff] at ef
  obtain ⟨ds, e1, e2⟩ := ef
  split at e2
  · rename_i hi
    refine ⟨δ, G, γ, ds, S, e1, fun vs H1 s1 r1 => ?_⟩
    show spP X.F np F (vs ++ []) H1 _ C8.E0
    rw [List.append_nil]
    refine ⟨by rw [← r1.length]; exact hi.2, ds, d, Rs.im ds vs hi.1 r1, e2, fun v H2 s2 r2 => ?_⟩
    rcases r2 with r2 | ⟨ds', p, ws, rfl, rfl, hp, hp2, r2⟩
    · exact .inl (q v H2 (s1.trans s2) (R.mono Kp.refl (fun k a h => by simp at h) _ _ r2))
    · refine .inr ⟨p, ws, rfl, hp2, fun od => ?_⟩
      obtain ⟨s3, r3⟩ := frz_res (od := od) s2 hp hp2 (Rs.mono Kp.refl (fun k a h => by simp at h) _ _ r2)
      exact q _ _ (s1.trans s3) r3
  · cases e2
theorem de_callP {F : List D → Option D} (c : C8.CalG X.prog X.w X.F X.mg X.base k x (spP X.F np F) []) (hr : RoomG j X.A) (ha : DEA X (e :: es) gs) (hk : k ≤ j := by decide) (hg : Gl X x := by rfl)
    (hdb : (x == ("__debug__" : Str)) = false := by decide) (he : starEach (e :: es) X.env = (false, eval e X.env) :: starEach es X.env := by rfl) (hpl : (backTo pos (starEach es X.env)).any (·.1) = false := by rfl) :
    DE X (.Call (.Name x p) (e :: es) [] pos) (eCallP np F gs) := PE.imp (pe_frzM (C8.pe_cG c hr hk hg ha hdb he hpl)) fun σ H Q ⟨δ, G, γ, d, G', S, ef, q⟩ => by
  simp only [eCallP, Option.bind_eq_some_iff] at ef
  obtain ⟨⟨ds, G1⟩, e1, e2⟩ := ef
  split at e2
  · rename_i hi
    obtain ⟨d', e3, e4⟩ := Option.bind_eq_some_iff.mp e2
    cases e4
    refine ⟨δ, G, γ, ds, G1, S, e1, fun vs H1 γ1 a1 S1 r1 => ?_⟩
    show spP X.F np F (vs ++ []) H1 _ C8.E0
    rw [List.append_nil]
    refine ⟨by rw [← r1.length]; exact hi.2, ds, d, Rs.im ds vs hi.1 r1, e3, fun v H2 s2 r2 => ?_⟩
    rcases r2 with r2 | ⟨ds', p, ws, rfl, rfl, hp, hp2, r2⟩
    · exact .inl (q v H2 γ1 (a1.trans (Aft.of_same s2)) (S1.same s2) (R.mono Kp.refl (fun k a h => by simp at h) _ _ r2))
    · refine .inr ⟨p, ws, rfl, hp2, fun od => ?_⟩
      obtain ⟨s3, r3⟩ := frz_res (od := od) s2 hp hp2 (Rs.mono Kp.refl (fun k a h => by simp at h) _ _ r2)
      exact q _ _ γ1 (a1.trans (Aft.of_same s3)) (S1.same s3) r3
  · cases e2
theorem Ro.two {K : FK} {H : Hp} {o : GO} {G : Hs} {γ : List Addr} {a : Addr} (r : Ro K H (o :: G) γ) (h : [a] <+: γ) : ∃ t, γ = a :: t ∧ RG K γ H o a ∧ G.length = t.length := by
  obtain ⟨t, rfl⟩ := h
  have := r.len
  simp at this
  exact ⟨t, rfl, r.rt 0 o a rfl rfl, by omega⟩
theorem de_callB {F : List D → Hs → Option (D × Hs)} (c : C8.CalG X.prog X.w X.F X.mg X.base k x (spB X.F np F) []) (hr : RoomG j X.A) (ha : DEA X (e :: es) gs) (hk : k ≤ j := by decide) (hg : Gl X x := by rfl)
    (hdb : (x == ("__debug__" : Str)) = false := by decide) (he : starEach (e :: es) X.env = (false, eval e X.env) :: starEach es X.env := by rfl) (hpl : (backTo pos (starEach es X.env)).any (·.1) = false := by rfl) :
    DE X (.Call (.Name x p) (e :: es) [] pos) (eCallB np F gs) := PE.imp (C8.pe_cG c hr hk hg ha hdb he hpl) fun σ H Q ⟨δ, G, γ, d, G', S, ef, q⟩ => by
  simp only [eCallB, Option.bind_eq_some_iff] at ef
  obtain ⟨⟨ds, G1⟩, e1, e2⟩ := ef
  split at e2
  case isFalse => cases e2
  rename_i hlen
  refine ⟨δ, G, γ, ds, G1, S, e1, fun vs H1 γ1 a1 S1 r1 => ?_⟩
  show spB X.F np F (vs ++ []) H1 Q C8.E0
  rw [List.append_nil]
  refine ⟨by rw [← r1.length]; exact hlen, ?_⟩
  unfold callB at e2
  split at e2
  · rename_i i rest hds
    obtain rfl : ds = .rf i :: rest := hds
    split at e2
    case isFalse => cases e2
    rename_i hrest
    obtain ⟨o, eo, e2⟩ := Option.bind_eq_some_iff.mp e2
    split at e2
    case isFalse => cases e2
    rename_i hof
    obtain ⟨⟨d1, Gr⟩, ef, e2⟩ := Option.bind_eq_some_iff.mp e2
    obtain ⟨v0, vr, rfl, r2, r3⟩ := r1.of_cons
    simp only [R] at r2
    obtain ⟨ad, rfl, hi⟩ := r2
    have eo : G1[i]? = some o := eo
    refine ⟨.rf 0 :: rest, [o], [ad], d1, Gr, Rs.cons (by simp only [R]; exact ⟨ad, rfl, rfl⟩) (Rs.im rest vr hrest r3), S1.toRo.one hi eo hof, ef, fun v H2 γ2 a2 ro2 rd => ?_⟩
    simp only at e2
    split at e2
    · rename_i o'
      obtain ⟨t, rfl, rg, ht⟩ := Ro.two ro2 a2.pre
      split at e2
      case isFalse => cases e2
      rename_i hf'
      obtain ⟨a3, S3⟩ := S1.back1 hi eo a2 hf' rg
      split at e2
      · rename_i him
        cases e2
        exact q v H2 γ1 (a1.trans a3) S3 (R.im _ _ him rd)
      · split at e2
        · cases e2
          refine q v H2 γ1 (a1.trans a3) S3 ?_
          simp only [R] at rd ⊢
          obtain ⟨b, rfl, hb⟩ := rd
          simp at hb
          subst hb
          exact ⟨ad, rfl, hi⟩
        · cases e2
    · rename_i o' o2
      obtain ⟨t, rfl, rg, ht⟩ := Ro.two ro2 a2.pre
      match t, ht with
      | [b], _ =>
        split at e2
        case isFalse => cases e2
        rename_i hf'
        obtain ⟨a3, S3⟩ := S1.back1 hi eo a2 hf'.1 rg
        split at e2
        · cases e2
          simp only [R] at rd
          obtain ⟨b', rfl, hb⟩ := rd
          simp at hb
          subst hb
          have hn : H1 b = none := by
            rcases a2.fr b (by simp) with z | z
            · have : b = ad := by simpa using z
              subst this
              have := ro2.nd
              simp at this
            · exact z
          have nb : b ∉ γ1 := fun z => S1.ex b z hn
          obtain ⟨S4, r4⟩ := S3.more nb (ro2.ex b (by simp)) hf'.2 (ro2.rt 1 o2 b rfl rfl)
          refine q _ H2 _ (a1.trans ⟨a3.tr, a3.ex, List.prefix_append _ _, fun c z => ?_⟩) S4 (by simpa using r4)
          rcases List.mem_append.mp z with z | z
          · exact .inl z
          · have : c = b := by simpa using z
            subst this
            exact .inr hn
        · cases e2
      | [], ht => simp at ht
      | _ :: _ :: _, ht => simp at ht
    · cases e2
  · split at e2
    case isFalse => cases e2
    rename_i him
    obtain ⟨⟨d1, Gr⟩, ef, e2⟩ := Option.bind_eq_some_iff.mp e2
    refine ⟨_, [], [], d1, Gr, Rs.im _ vs him r1, Ro.nil, ef, fun v H2 γ2 a2 ro2 rd => ?_⟩
    simp only at e2
    have s2 : Same H1 H2 := a2.same0
    split at e2
    · split at e2
      case isFalse => cases e2
      rename_i hi
      cases e2
      exact q v H2 γ1 (a1.trans (Aft.of_same s2)) (S1.same s2) (R.im _ _ hi rd)
    · rename_i o2
      split at e2
      case isFalse => cases e2
      rename_i hf'
      split at e2
      · cases e2
        match γ2, ro2.len with
        | [b], _ =>
          simp only [R] at rd
          obtain ⟨b', rfl, hb⟩ := rd
          simp at hb
          subst hb
          have hn : H1 b = none := by
            rcases a2.fr b (by simp) with z | z
            · simp at z
            · exact z
          have nb : b ∉ γ1 := fun z => S1.ex b z hn
          obtain ⟨S4, r4⟩ := (S1.same s2).more nb (ro2.ex b (by simp)) hf' (ro2.rt 0 o2 b rfl rfl)
          refine q _ H2 _ (a1.trans ⟨fun c o e _ => s2 c o e, fun c e => Same.none' s2 e, List.prefix_append _ _, fun c z => ?_⟩) S4 r4
          rcases List.mem_append.mp z with z | z
          · exact .inl z
          · have : c = b := by simpa using z
            subst this
            exact .inr hn
      · cases e2
    · cases e2
end
end FL
namespace FL
open PySem PySem.Spec PyProof.Rows L2

/-! ### data as the library's -/
mutual
def D.py : D → PyData
  | .non => .none | .bl b => .bool b | .int i => .int i | .str x => .str x
  | .tup ds => .tuple (pys ds) | .fl ds => .list (pys ds)
  | _ => .none
def pys : List D → List PyData
  | [] => []
  | d :: ds => d.py :: pys ds
end
mutual
/-- plain data: None, bools, ints, right texts, tuples, frozen lists -/
def D.ok : D → Bool
  | .non => true | .bl _ => true | .int _ => true | .str x => PyData.strOk x
  | .tup ds => oks ds | .fl ds => oks ds
  | _ => false
def oks : List D → Bool
  | [] => true
  | d :: ds => d.ok && oks ds
end
mutual
def D.dep : D → Nat
  | .tup ds => deps ds + 1 | .fl ds => deps ds + 1
  | _ => 0
def deps : List D → Nat
  | [] => 0
  | d :: ds => max d.dep (deps ds)
end
theorem pys_eq : ∀ ds : List D, pys ds = ds.map D.py
  | [] => rfl
  | d :: ds => by simp only [pys, List.map_cons, pys_eq ds]
theorem oks_mem : ∀ {ds : List D} {d : D}, oks ds = true → d ∈ ds → d.ok = true
  | [], _, _, h => by simp at h
  | e :: ds, d, h, hm => by
    simp only [oks, Bool.and_eq_true] at h
    rcases List.mem_cons.mp hm with rfl | hm
    · exact h.1
    · exact oks_mem h.2 hm
mutual
theorem D.lay : ∀ d : D, d.ok = true → d.py.canLay0 = true
  | .non, _ => by simp only [D.py, PyData.canLay0]
  | .bl _, _ => by simp only [D.py, PyData.canLay0]
  | .int _, _ => by simp only [D.py, PyData.canLay0]
  | .str x, h => by simpa only [D.py, PyData.canLay0, D.ok] using h
  | .tup ds, h => by
    simp only [D.py, PyData.canLay0]
    exact lays ds (by simpa only [D.ok] using h)
  | .fl ds, h => by
    simp only [D.py, PyData.canLay0]
    exact lays ds (by simpa only [D.ok] using h)
  | .obj _ _ _, h => by simp only [D.ok] at h; cases h
  | .scr _, h => by simp only [D.ok] at h; cases h
  | .fd _ _, h => by simp only [D.ok] at h; cases h
  | .rf _, h => by simp only [D.ok] at h; cases h
theorem lays : ∀ ds : List D, oks ds = true → PyData.canLayAll0 (pys ds) = true
  | [], _ => by simp only [pys, PyData.canLayAll0]
  | d :: ds, h => by
    simp only [oks, Bool.and_eq_true] at h
    simp only [pys, PyData.canLayAll0, Bool.and_eq_true]
    exact ⟨D.lay d h.1, lays ds h.2⟩
end
mutual
theorem D.depth : ∀ d : D, d.py.depth ≤ d.dep
  | .non => by simp only [D.py, PyData.depth]; exact Nat.zero_le _
  | .bl _ => by simp only [D.py, PyData.depth]; exact Nat.zero_le _
  | .int _ => by simp only [D.py, PyData.depth]; exact Nat.zero_le _
  | .str x => by simp only [D.py, PyData.depth]; exact Nat.zero_le _
  | .tup ds => by
    simp only [D.py, PyData.depth, D.dep]
    exact Nat.succ_le_succ (depths ds)
  | .fl ds => by
    simp only [D.py, PyData.depth, D.dep]
    exact Nat.succ_le_succ (depths ds)
  | .obj _ _ _ => by simp only [D.py, PyData.depth]; exact Nat.zero_le _
  | .scr _ => by simp only [D.py, PyData.depth]; exact Nat.zero_le _
  | .fd _ _ => by simp only [D.py, PyData.depth]; exact Nat.zero_le _
  | .rf _ => by simp only [D.py, PyData.depth]; exact Nat.zero_le _
theorem depths : ∀ ds : List D, PyData.depthAll (pys ds) ≤ deps ds
  | [] => by simp only [pys, PyData.depthAll]; exact Nat.zero_le _
  | d :: ds => by
    have h1 := D.depth d
    have h2 := depths ds
    simp only [pys, PyData.depthAll, deps]
    omega
end
theorem D.shaped {d : D} (h : d.ok = true) (hd : d.dep ≤ 60) : SeqAt.shaped d.py = true := by
  unfold SeqAt.shaped
  rw [Bool.and_eq_true, decide_eq_true_eq]
  have := D.depth d
  exact ⟨d.lay h, by omega⟩
section
variable {K : FK} {γ : List Addr} {H : Hp}
mutual
theorem R.dp : ∀ (d : D) (v : V), d.ok = true → R K γ H d v → Dp K H v d.py
  | .non, v, _, h => by simp only [R] at h; subst h; simp only [D.py]; exact .non
  | .bl b, v, _, h => by simp only [R] at h; subst h; simp only [D.py]; exact .bl b
  | .int i, v, _, h => by simp only [R] at h; subst h; simp only [D.py]; exact .int i
  | .str x, v, _, h => by simp only [R] at h; subst h; simp only [D.py]; exact .str x
  | .tup ds, v, o, h => by
    simp only [R] at h
    obtain ⟨a, vs, rfl, h1, h2⟩ := h
    simp only [D.py]
    exact .tup h1 (Rs.dp ds vs (by simpa only [D.ok] using o) h2)
  | .fl ds, v, o, h => by
    simp only [R] at h
    obtain ⟨a, vs, rfl, h1, h2⟩ := h
    simp only [D.py]
    exact .lst h1.sq (Rs.dp ds vs (by simpa only [D.ok] using o) h2)
  | .obj _ _ _, v, o, h => by simp only [D.ok] at o; cases o
  | .scr _, v, o, h => by simp only [D.ok] at o; cases o
  | .fd _ _, v, o, h => by simp only [D.ok] at o; cases o
  | .rf _, v, o, h => by simp only [D.ok] at o; cases o
theorem Rs.dp : ∀ (ds : List D) (vs : List V), oks ds = true → Rs K γ H ds vs → DpAll K H vs (pys ds)
  | [], vs, _, h => by
    rw [h.of_nil]
    simp only [pys]
    exact .nil
  | d :: ds, vs, o, h => by
    simp only [oks, Bool.and_eq_true] at o
    obtain ⟨v, r, rfl, h1, h2⟩ := h.of_cons
    simp only [pys]
    exact .cons (R.dp d v o.1 h1) (Rs.dp ds r o.2 h2)
end
end

/-! ### ints, data: operators -/
def fI2 (C : Int → Int → Bool) (g : Int → Int → D) : Hs → D → D → Option D := fun _ x y => match x, y with
  | .int i, .int j => if C i j = true then some (g i j) else none
  | _, _ => none
theorem fI2_ok {K : FK} {C : Int → Int → Bool} {P : Int → Int → Prop} {g : Int → Int → D} {gv : Int → Int → V} (hC : ∀ i j, C i j = true → P i j) (hg : ∀ i j γ H, R K γ H (g i j) (gv i j)) : OpG K (rI P gv) (fI2 C g) := by
  intro G γ H dx dy d v u Q r rx ry e q
  unfold fI2 at e
  split at e
  · rename_i i j
    split at e
    · rename_i hc
      cases e
      simp only [R] at rx ry
      subst rx ry
      exact ⟨i, j, rfl, rfl, hC i j hc, q _ H (Same.refl H) (hg i j γ H)⟩
    · cases e
  · cases e
def tt2 : Int → Int → Bool := fun _ _ => true
theorem rI0_of {f : Value → Value → Sem Value} {X : Cx} {g : Int → Int → V} (h : OpR X f (rI0 g)) : OpR X f (rI (fun _ _ => True) g) := by
  intro pins s σ H x y v u Q I rx ry q
  obtain ⟨i, j, e1, e2, _, q⟩ := q
  exact h pins s σ H x y v u Q I rx ry ⟨i, j, e1, e2, q⟩
abbrev fAdd := fI2 tt2 fun i j => .int (i + j)
abbrev fSub := fI2 tt2 fun i j => .int (i - j)
abbrev fMul := fI2 (fun i j => decide (i.natAbs.log2 + j.natAbs.log2 < 1000000)) fun i j => .int (i * j)
abbrev fMod := fI2 (fun _ j => decide (0 < j)) fun i j => .int (i % j)
abbrev fDiv := fI2 (fun _ j => decide (0 < j ∧ j.natAbs.log2 < 9000)) fun i j => .int (i / j)
abbrev fLt := fI2 tt2 fun i j => .bl (decide (i < j))
abbrev fLe := fI2 tt2 fun i j => .bl (decide (i ≤ j))
abbrev fGt := fI2 tt2 fun i j => .bl (decide (j < i))
abbrev fGe := fI2 tt2 fun i j => .bl (decide (j ≤ i))
section
variable {X : Cx}
theorem o_add : OpR X (binaryOp .Add) (rI (fun _ _ => True) fun i j => .int (i + j)) ∧ OpG X.F (rI (fun _ _ => True) fun i j => .int (i + j)) fAdd := ⟨rI0_of op_add, fI2_ok (fun _ _ _ => trivial) fun _ _ _ _ => by simp only [R]⟩
theorem o_sub : OpR X (binaryOp .Sub) (rI (fun _ _ => True) fun i j => .int (i - j)) ∧ OpG X.F (rI (fun _ _ => True) fun i j => .int (i - j)) fSub := ⟨rI0_of op_sub, fI2_ok (fun _ _ _ => trivial) fun _ _ _ _ => by simp only [R]⟩
theorem o_mul : OpR X (binaryOp .Mult) (rI CMulW fun i j => .int (i * j)) ∧ OpG X.F (rI CMulW fun i j => .int (i * j)) fMul := ⟨op_mulW, fI2_ok (fun _ _ h => by simpa [CMulW] using h) fun _ _ _ _ => by simp only [R]⟩
theorem o_mod : OpR X (binaryOp .Mod) (rI (fun _ j => 0 < j) fun i j => .int (i % j)) ∧ OpG X.F (rI (fun _ j => 0 < j) fun i j => .int (i % j)) fMod := ⟨op_mod, fI2_ok (fun _ _ h => by simpa using h) fun _ _ _ _ => by simp only [R]⟩
theorem o_div : OpR X (binaryOp .FloorDiv) (rI CDivW fun i j => .int (i / j)) ∧ OpG X.F (rI CDivW fun i j => .int (i / j)) fDiv := ⟨op_fdivW, fI2_ok (fun _ _ h => by simpa [CDivW] using h) fun _ _ _ _ => by simp only [R]⟩
theorem o_lt : OpR X (compareOp .Lt) (rI (fun _ _ => True) fun i j => .bl (decide (i < j))) ∧ OpG X.F (rI (fun _ _ => True) fun i j => .bl (decide (i < j))) fLt := ⟨rI0_of op_lt, fI2_ok (fun _ _ _ => trivial) fun _ _ _ _ => by simp only [R]⟩
theorem o_le : OpR X (compareOp .LtE) (rI (fun _ _ => True) fun i j => .bl (decide (i ≤ j))) ∧ OpG X.F (rI (fun _ _ => True) fun i j => .bl (decide (i ≤ j))) fLe := ⟨rI0_of op_le, fI2_ok (fun _ _ _ => trivial) fun _ _ _ _ => by simp only [R]⟩
theorem o_gt : OpR X (compareOp .Gt) (rI (fun _ _ => True) fun i j => .bl (decide (j < i))) ∧ OpG X.F (rI (fun _ _ => True) fun i j => .bl (decide (j < i))) fGt := ⟨rI0_of op_gt, fI2_ok (fun _ _ _ => trivial) fun _ _ _ _ => by simp only [R]⟩
theorem o_ge : OpR X (compareOp .GtE) (rI (fun _ _ => True) fun i j => .bl (decide (j ≤ i))) ∧ OpG X.F (rI (fun _ _ => True) fun i j => .bl (decide (j ≤ i))) fGe := ⟨rI0_of op_ge, fI2_ok (fun _ _ _ => trivial) fun _ _ _ _ => by simp only [R]⟩
end
/-- == as Python has it -/
def eqb (x y : D) : Bool := PyData.eqv x.py y.py
def fEq : Hs → D → D → Option D := fun _ x y => if (x.ok = true ∧ y.ok = true) ∧ x.dep ≤ 60 ∧ y.dep ≤ 60 then some (.bl (eqb x y)) else none
def fNe : Hs → D → D → Option D := fun _ x y => if (x.ok = true ∧ y.ok = true) ∧ x.dep ≤ 60 ∧ y.dep ≤ 60 then some (.bl (!eqb x y)) else none
theorem fEq_ok {K : FK} : OpG K (rEqD K) fEq := by
  intro G γ H dx dy d v u Q r rx ry e q
  unfold fEq at e
  split at e
  · rename_i h
    cases e
    exact ⟨dx.py, dy.py, R.dp _ _ h.1.1 rx, R.dp _ _ h.1.2 ry, D.shaped h.1.1 h.2.1, D.shaped h.1.2 h.2.2, q _ H (Same.refl H) (by simp only [R, eqb])⟩
  · cases e
theorem fNe_ok {K : FK} : OpG K (rNeD K) fNe := by
  intro G γ H dx dy d v u Q r rx ry e q
  unfold fNe at e
  split at e
  · rename_i h
    cases e
    exact ⟨dx.py, dy.py, R.dp _ _ h.1.1 rx, R.dp _ _ h.1.2 ry, D.shaped h.1.1 h.2.1, D.shaped h.1.2 h.2.2, q _ H (Same.refl H) (by simp only [R, eqb])⟩
  · cases e
theorem room64 {k : Nat} {A : Around} (r : Room k A) : A.units + 64 < cLine := r.units
theorem room65 {k : Nat} {A : Around} (r : Room k A) : A.units + 65 < cLine := by have := r.un; omega
/-- in a tuple, a list -/
def inB (x : D) (ds : List D) : Bool := ds.any fun z => eqb z x
def fIn (neg : Bool) : Hs → D → D → Option D := fun G x y => (seqG G y).bind fun ds => if (x.ok = true ∧ oks ds = true) ∧ x.dep ≤ 60 ∧ deps ds ≤ 59 then some (.bl (if neg = true then !inB x ds else inB x ds)) else none
def rInX (K : FK) (neg : Bool) : R2 := fun x y H Q => ∃ d ds, Dp K H x d ∧ (Dp K H y (.list ds) ∨ Dp K H y (.tuple ds)) ∧ SeqAt.shaped d = true ∧ PyData.canLayAll0 ds = true ∧ Q (.bl (if neg = true then !(ds.any fun z => PyData.eqv z d) else ds.any fun z => PyData.eqv z d)) H
theorem op_inX {X : Cx} (hu : X.A.units + 65 < cLine) : OpR X (compareOp .In) (rInX X.F false) := by
  intro pins s σ H x y v u Q I rx ry h
  obtain ⟨d, ds, hd, he, sd, se, q⟩ := h
  obtain ⟨as, r1⟩ := Dp.reads I d x v hd rx
  rcases he with he | he
  · obtain ⟨bs, r2⟩ := Dp.reads I (.list ds) y u he ry
    exact SeqAt.in_list_reads r2 r1 se (SeqAt.canLay_of_shaped sd) (room_in_shaped sd hu) ⟨.bl _, H, I, rfl, by simpa using q⟩
  · obtain ⟨bs, r2⟩ := Dp.reads I (.tuple ds) y u he ry
    exact SeqAt.in_tuple_reads r2 r1 se (SeqAt.canLay_of_shaped sd) (room_in_shaped sd hu) ⟨.bl _, H, I, rfl, by simpa using q⟩
theorem op_notInX {X : Cx} (hu : X.A.units + 65 < cLine) : OpR X (compareOp .NotIn) (rInX X.F true) := by
  intro pins s σ H x y v u Q I rx ry h
  obtain ⟨d, ds, hd, he, sd, se, q⟩ := h
  obtain ⟨as, r1⟩ := Dp.reads I d x v hd rx
  rcases he with he | he
  · obtain ⟨bs, r2⟩ := Dp.reads I (.list ds) y u he ry
    exact SeqAt.notIn_list_reads r2 r1 se (SeqAt.canLay_of_shaped sd) (room_in_shaped sd hu) ⟨.bl _, H, I, rfl, by simpa using q⟩
  · obtain ⟨bs, r2⟩ := Dp.reads I (.tuple ds) y u he ry
    exact SeqAt.notIn_tuple_reads r2 r1 se (SeqAt.canLay_of_shaped sd) (room_in_shaped sd hu) ⟨.bl _, H, I, rfl, by simpa using q⟩
theorem any_pys (x : D) : ∀ ds : List D, ((pys ds).any fun z => PyData.eqv z x.py) = inB x ds
  | [] => rfl
  | d :: ds => by simp only [pys, inB, List.any_cons, eqb]; rw [any_pys x ds]; rfl
theorem fIn_ok {K : FK} {neg : Bool} : OpG K (rInX K neg) (fIn neg) := by
  intro G γ H dx dy d v u Q r rx ry e q
  obtain ⟨ds, e1, e2⟩ := Option.bind_eq_some_iff.mp e
  split at e2
  case isFalse => cases e2
  rename_i h
  cases e2
  have hd := R.dp _ _ h.1.1 rx
  have out : Dp K H u (.list (pys ds)) ∨ Dp K H u (.tuple (pys ds)) := by
    cases dy with
    | tup es =>
      cases e1
      simp only [R] at ry
      obtain ⟨a, vs, rfl, h1, h2⟩ := ry
      exact .inr (.tup h1 (Rs.dp _ _ h.1.2 h2))
    | fl es =>
      cases e1
      simp only [R] at ry
      obtain ⟨a, vs, rfl, h1, h2⟩ := ry
      exact .inl (.lst h1.sq (Rs.dp _ _ h.1.2 h2))
    | rf k =>
      simp only [R] at ry
      obtain ⟨a, rfl, h1⟩ := ry
      simp only [seqG] at e1
      split at e1
      · rename_i es eg
        cases e1
        obtain ⟨vs, h2, h3⟩ := r.at eg h1
        exact .inl (.lst (.inl (.inl h2)) (Rs.dp _ _ h.1.2 h3))
      · cases e1
    | _ => cases e1
  exact ⟨dx.py, pys ds, hd, out, D.shaped h.1.1 h.2.1, lays ds h.1.2, q _ H (Same.refl H) (by simp only [R]; rw [any_pys])⟩
/-- is, is not of bools; is None -/
def fIs : Hs → D → D → Option D := fun _ x y => match x, y with
  | .bl a, .bl b => some (.bl (decide (a = b)))
  | _, _ => none
def fIsNot : Hs → D → D → Option D := fun _ x y => match x, y with
  | .bl a, .bl b => some (.bl (!decide (a = b)))
  | _, _ => none
theorem fIs_ok {K : FK} : OpG K (fun x y H Q => ∃ a b, x = .bl a ∧ y = .bl b ∧ Q (.bl (decide (a = b))) H) fIs := by
  intro G γ H dx dy d v u Q r rx ry e q
  unfold fIs at e
  split at e
  · cases e
    simp only [R] at rx ry
    subst rx ry
    exact ⟨_, _, rfl, rfl, q _ H (Same.refl H) (by simp only [R])⟩
  · cases e
theorem fIsNot_ok {K : FK} : OpG K (fun x y H Q => ∃ a b, x = .bl a ∧ y = .bl b ∧ Q (.bl (!decide (a = b))) H) fIsNot := by
  intro G γ H dx dy d v u Q r rx ry e q
  unfold fIsNot at e
  split at e
  · cases e
    simp only [R] at rx ry
    subst rx ry
    exact ⟨_, _, rfl, rfl, q _ H (Same.refl H) (by simp only [R])⟩
  · cases e
/-- None: is, is not -/
def D.isNon : D → Bool
  | .non => true
  | _ => false
def fIsN : Hs → D → D → Option D := fun _ x y => match y with
  | .non => some (.bl x.isNon)
  | _ => none
def fNotN : Hs → D → D → Option D := fun _ x y => match y with
  | .non => some (.bl (!x.isNon))
  | _ => none
theorem isNon_ok {K : FK} {γ : List Addr} {H : Hp} {d : D} {v : V} (h : R K γ H d v) : decide (v = .non) = d.isNon := by
  cases d with
  | non => simp only [R] at h; subst h; rfl
  | bl _ => simp only [R] at h; subst h; rfl
  | int _ => simp only [R] at h; subst h; rfl
  | str _ => simp only [R] at h; subst h; rfl
  | tup _ => simp only [R] at h; obtain ⟨a, vs, rfl, _⟩ := h; rfl
  | fl _ => simp only [R] at h; obtain ⟨a, vs, rfl, _⟩ := h; rfl
  | obj _ _ _ => simp only [R] at h; obtain ⟨a, dx, vs, C, rfl, _⟩ := h; rfl
  | scr _ => simp only [R] at h; obtain ⟨a, rfl, _⟩ := h; rfl
  | fd _ _ => simp only [R] at h; obtain ⟨a, o, vs, rfl, _⟩ := h; rfl
  | rf _ => simp only [R] at h; obtain ⟨a, rfl, _⟩ := h; rfl
theorem fIsN_ok {K : FK} : OpG K (fun x y H Q => y = .non ∧ Q (.bl (decide (x = .non))) H) fIsN := by
  intro G γ H dx dy d v u Q r rx ry e q
  unfold fIsN at e
  split at e
  · cases e
    simp only [R] at ry
    exact ⟨ry, q _ H (Same.refl H) (by simp only [R]; rw [isNon_ok rx])⟩
  · cases e
theorem fNotN_ok {K : FK} : OpG K (fun x y H Q => y = .non ∧ Q (.bl (!decide (x = .non))) H) fNotN := by
  intro G γ H dx dy d v u Q r rx ry e q
  unfold fNotN at e
  split at e
  · cases e
    simp only [R] at ry
    exact ⟨ry, q _ H (Same.refl H) (by simp only [R]; rw [isNon_ok rx])⟩
  · cases e
/-- < of alike data -/
def ltb (x y : D) : Bool := PySem.W.dataLt x.py y.py
def fLtD : Hs → D → D → Option D := fun _ x y => if (x.ok = true ∧ y.ok = true) ∧ PySem.W.alike x.py y.py = true ∧ x.isNon = false ∧ x.dep ≤ 60 then some (.bl (ltb x y)) else none
def fGeD : Hs → D → D → Option D := fun _ x y => if (x.ok = true ∧ y.ok = true) ∧ PySem.W.alike x.py y.py = true ∧ x.isNon = false ∧ x.dep ≤ 60 then some (.bl (!ltb x y)) else none
def fGtD : Hs → D → D → Option D := fun _ x y => if (x.ok = true ∧ y.ok = true) ∧ PySem.W.alike x.py y.py = true ∧ x.isNon = false ∧ x.dep ≤ 60 then some (.bl (ltb y x)) else none
def rOrd (K : FK) (f : PyData → PyData → Bool) : R2 := fun x y H Q => ∃ d e, Dp K H x d ∧ Dp K H y e ∧ PySem.W.alike d e = true ∧ d ≠ .none ∧ d.depth ≤ 60 ∧ Q (.bl (f d e)) H
theorem op_ltD {X : Cx} (hu : X.A.units + 64 < cLine) : OpR X (compareOp .Lt) (rOrd X.F PySem.W.dataLt) := by
  intro pins s σ H x y v u Q I rx ry h
  obtain ⟨d, e, hd, he, ha, hn, hp, q⟩ := h
  obtain ⟨as, r1⟩ := Dp.reads I d x v hd rx
  obtain ⟨bs, r2⟩ := Dp.reads I e y u he ry
  exact PySem.W.lt_data r1 r2 ha hn (by omega) ⟨.bl _, H, I, rfl, q⟩
theorem op_gtD {X : Cx} (hu : X.A.units + 64 < cLine) : OpR X (compareOp .Gt) (rOrd X.F fun a b => PySem.W.dataLt b a) := by
  intro pins s σ H x y v u Q I rx ry h
  obtain ⟨d, e, hd, he, ha, hn, hp, q⟩ := h
  obtain ⟨as, r1⟩ := Dp.reads I d x v hd rx
  obtain ⟨bs, r2⟩ := Dp.reads I e y u he ry
  exact PySem.W.gt_data r1 r2 ha hn (by omega) ⟨.bl _, H, I, rfl, q⟩
theorem op_geD {X : Cx} (hu : X.A.units + 64 < cLine) : OpR X (compareOp .GtE) (rOrd X.F fun a b => !PySem.W.dataLt a b) := by
  intro pins s σ H x y v u Q I rx ry h
  obtain ⟨d, e, hd, he, ha, hn, hp, q⟩ := h
  obtain ⟨as, r1⟩ := Dp.reads I d x v hd rx
  obtain ⟨bs, r2⟩ := Dp.reads I e y u he ry
  exact PySem.W.ge_data r1 r2 ha hn (by omega) ⟨.bl _, H, I, rfl, q⟩
theorem ord_ok {K : FK} {f : PyData → PyData → Bool} {g : Hs → D → D → Option D} (hg : ∀ G x y d, g G x y = some d → ((x.ok = true ∧ y.ok = true) ∧ PySem.W.alike x.py y.py = true ∧ x.isNon = false ∧ x.dep ≤ 60) ∧ d = .bl (f x.py y.py)) : OpG K (rOrd K f) g := by
  intro G γ H dx dy d v u Q r rx ry e q
  obtain ⟨⟨⟨o1, o2⟩, h2, h3, h4⟩, rfl⟩ := hg G dx dy d e
  have hd := D.depth dx
  refine ⟨dx.py, dy.py, R.dp _ _ o1 rx, R.dp _ _ o2 ry, h2, fun z => ?_, by omega, q _ H (Same.refl H) (by simp only [R])⟩
  cases dx <;> simp_all [D.py, D.isNon, D.ok]
theorem fLtD_ok {K : FK} : OpG K (rOrd K PySem.W.dataLt) fLtD := ord_ok fun G x y d h => by
  unfold fLtD at h
  split at h
  · rename_i c; cases h; exact ⟨c, rfl⟩
  · cases h
theorem fGtD_ok {K : FK} : OpG K (rOrd K fun a b => PySem.W.dataLt b a) fGtD := ord_ok fun G x y d h => by
  unfold fGtD at h
  split at h
  · rename_i c; cases h; exact ⟨c, rfl⟩
  · cases h
theorem fGeD_ok {K : FK} : OpG K (rOrd K fun a b => !PySem.W.dataLt a b) fGeD := ord_ok fun G x y d h => by
  unfold fGeD at h
  split at h
  · rename_i c; cases h; exact ⟨c, rfl⟩
  · cases h
/-- tuple + tuple -/
def fCatT : Hs → D → D → Option D := fun _ x y => match x, y with
  | .tup a, .tup b => if a.length + b.length ≤ 10000000 then some (.tup (a ++ b)) else none
  | _, _ => none
theorem line7' {n : Nat} (h : n ≤ 10000000) : n ≤ sizeLine := Nat.le_trans h (by decide)
theorem fCatT_ok {K : FK} : OpG K (rCatA K) fCatT := by
  intro G γ H dx dy d v u Q r rx ry e q
  unfold fCatT at e
  split at e
  · rename_i a b
    split at e
    case isFalse => cases e
    rename_i hl
    cases e
    have rx' := rx
    have ry' := ry
    simp only [R] at rx' ry'
    obtain ⟨p, vs, rfl, h1, h2⟩ := rx'
    obtain ⟨p', us, rfl, h3, h4⟩ := ry'
    refine ⟨p, p', vs, us, rfl, rfl, h1, h3, line7' (by rw [← h2.length, ← h4.length]; exact hl), fun z => ?_, fun _ z => ?_, fun _ _ t ht => ?_⟩
    · subst z
      have : a = [] := List.eq_nil_of_length_eq_zero h2.length
      subst this
      exact q _ H (Same.refl H) ry
    · subst z
      have : b = [] := List.eq_nil_of_length_eq_zero h4.length
      subst this
      rw [List.append_nil] at q
      exact q _ H (Same.refl H) rx
    · obtain ⟨s, r'⟩ := new_tup ht (h2.append h4)
      exact q _ _ s r'
  · cases e
/-- list + list: a new list, frozen -/
def fCatL : Hs → D → D → Option D := fun G x y => (lstG G x).bind fun a => (lstG G y).bind fun b => if a.length + b.length ≤ 10000000 then some (.fl (a ++ b)) else none
end FL
namespace FL
open PySem PySem.Spec PyProof.Rows L2

section
variable {X : Cx} {pins : List (Addr × Obj)} {σ : L2.St} {H : Hp} {s : Shared} {l b : Addr} {xs zs : List V}
/-- a list that is read, tracked or frozen: its object -/
theorem lstR (I : Inv X pins σ H s) (h : Rd H l (.lst xs)) : xs.length ≤ sizeLine ∧ ∃ (its : List Value) (n : Nat), Vals xs its ∧ xs.length = its.length ∧ s.heap.get? l = some { cls := .type "list", data := .seq its.toArray n } := by
  obtain ⟨z, its, n, r, e⟩ := h.ok I.hok
  exact ⟨z, its, n, r, r.length, e⟩
def rCatR : R2 := fun x y H Q => ∃ l b xs zs, x = .ref l ∧ y = .ref b ∧ Rd H l (.lst xs) ∧ Rd H b (.lst zs) ∧ xs.length + zs.length ≤ sizeLine ∧ ∀ p, H p = none → Q (.ref p) (upd H p (.lst (xs ++ zs)))
theorem op_catR : OpR X (binaryOp .Add) rCatR := by
  intro pins s σ H x y v u Q I rx ry h
  obtain ⟨l, b, xs, zs, rfl, rfl, hH, hB, hz, q⟩ := h
  cases rx
  cases ry
  obtain ⟨z, its, n, r, hl, e⟩ := lstR I hH
  obtain ⟨z2, its2, n2, r2, hl2, e2⟩ := lstR I hB
  refine PySem.P.add_list e e2 ?_ (by rw [List.size_toArray, List.size_toArray]; omega)
  have ea : its.toArray ++ its2.toArray = (its ++ its2).toArray := by simp
  rw [ea]
  exact ⟨.ref _, _, I.lnew (t' := s.toks) (r.append r2) (by rw [List.length_append]; omega), rfl, q _ I.fresh⟩
/-- an operation that makes a new list, frozen at once -/
theorem opr_frz {f : Value → Value → Sem Value} {r : R2} (h : OpR X f r) : OpR X f (fun x y H Q => r x y H fun v H1 => ∃ p vs, v = .ref p ∧ H1 p = some (.lst vs) ∧ ∀ od, Q v (upd H1 p (.frz od (.lst vs)))) := by
  intro pins s σ H x y v u Q I rx ry q
  refine thn (h pins s σ H x y v u _ I rx ry q) fun w s1 ⟨z, H1, I1, r1, p, vs, ev, hp, q⟩ => ?_
  obtain ⟨od, I2⟩ := I1.lock hp True.intro
  exact ⟨z, _, I2, r1, q od⟩
theorem calr_frz {f : Value} {r : List V → Hp → VK → Prop} (h : CallR X f r) : CallR X f (fun xs H Q => r xs H fun v H1 => ∃ p vs, v = .ref p ∧ H1 p = some (.lst vs) ∧ ∀ od, Q v (upd H1 p (.frz od (.lst vs)))) := by
  intro pins s σ H xs us Q I rx q
  refine thn (h pins s σ H xs us _ I rx q) fun w s1 ⟨z, H1, I1, r1, p, vs, ev, hp, q⟩ => ?_
  obtain ⟨od, I2⟩ := I1.lock hp True.intro
  exact ⟨z, _, I2, r1, q od⟩
theorem fCatL_ok {K : FK} : OpG K (fun x y H Q => rCatR x y H fun v H1 => ∃ p vs, v = .ref p ∧ H1 p = some (.lst vs) ∧ ∀ od, Q v (upd H1 p (.frz od (.lst vs)))) fCatL := by
  intro G γ H dx dy d v u Q r rx ry e q
  unfold fCatL at e
  simp only [Option.bind_eq_some_iff] at e
  obtain ⟨a, e1, b, e2, e3⟩ := e
  split at e3
  case isFalse => cases e3
  rename_i hl
  cases e3
  obtain ⟨p, vs, rfl, h1, h2⟩ := lstG_ok r rx e1
  obtain ⟨p', us, rfl, h3, h4⟩ := lstG_ok r ry e2
  exact ⟨p, p', vs, us, rfl, rfl, h1, h3, line7' (by rw [← h2.length, ← h4.length]; exact hl), fun t ht => frz_end ht (h2.append h4) q⟩
/-- [..] * n -/
def rRepR : R2 := fun x y H Q => ∃ l k xs, x = .ref l ∧ y = .int k ∧ Rd H l (.lst xs) ∧ -(2 ^ 63) ≤ k ∧ k < 2 ^ 63 ∧ xs.length * k.toNat ≤ sizeLine ∧
  ∀ p, H p = none → Q (.ref p) (upd H p (.lst (List.replicate k.toNat xs).flatten))
end

/-! ### methods that change a list at a root -/
abbrev MetG := D → List D → Hs → Option (D × Hs)
def eMet (g : MetG) (fo : RE) (gs : EA) : EE := fun δ G => (fo δ G).bind fun x => (lstG G x).bind fun _ => (gs δ G).bind fun ys => g x ys.1 ys.2
def MetOk (K : FK) (r : V → List V → Hp → VK → Prop) (g : MetG) : Prop :=
  ∀ δ σ G γ H dx ds d G' v vs Q, Sx K H δ G σ γ → R K γ H dx v → Rs K γ H ds vs → g dx ds G = some (d, G') → (∀ v' H' γ', Aft γ H γ' H' → Sx K H' δ G' σ γ' → R K γ' H' d v' → Q v' H') → r v vs H Q
section
variable {X : Cx} {o e : Expr} {es : List Expr} {fo : RE} {gs : EA} {T : String} {id : String} {name : Str} {r : V → List V → Hp → VK → Prop} {g : MetG} {apos cpos : Pos}
theorem met_e (hg : MetOk X.F r g) (σ : L2.St) (H : Hp) (Q : VK) (h : lE X.F (eMet g fo gs) σ H Q) : tBM X.F "list" r (lR X.F fo) (lEA X.F gs) σ H Q := by
  obtain ⟨δ, G, γ, d, G', S, ef, q⟩ := h
  simp only [eMet, Option.bind_eq_some_iff] at ef
  obtain ⟨x, e1, l, e2, ⟨ys, G1⟩, e3, e4⟩ := ef
  refine ⟨δ, G, γ, x, S, e1, fun v H1 s1 r1 => ?_⟩
  obtain ⟨a, vs, rfl, h1, h2⟩ := lstG_ok (S.same s1).toRo r1 e2
  refine ⟨Or.inl ⟨rfl, vs, .inl h1⟩, δ, G, γ, ys, G1, S.same s1, e3, fun us H2 γ2 a2 S2 r2 => ?_⟩
  exact hg δ σ G1 γ2 H2 x ys d G' _ us Q S2 (R.aft a2 r1) r2 e4 fun v' H' γ' a3 S3 r3 => q v' H' γ' ((Aft.of_same s1).trans (a2.trans a3)) S3 r3
theorem de_met (pa : PlainAttrs "list") (slot : Slot "list" name id) (hty : typeOf (.builtin id) = pure (.type "method_descriptor")) (hm : MtR X id r) (hg : MetOk X.F r g) (ho : DR X o fo) (ha : DEA X (e :: es) gs)
    (hbase : attributeBase o name X.env (eval o X.env) = eval o X.env := by rfl)
    (hfew : ((backTo cpos (starEach (e :: es) X.env)).all (fun x => !x.1) && (backToKw cpos (keywordEach [] X.env)).all (fun x => x.1.isSome)
      && decide ((e :: es).length + ([] : List Keyword).length + (if ([] : List Keyword).isEmpty then 0 else 1) < 30)) = true := by rfl)
    (hline : (apos.endLine == cpos.line) = true := by rfl) (hs : starEach (e :: es) X.env = (false, eval e X.env) :: starEach es X.env := by rfl) (hplain : (backTo cpos (starEach es X.env)).any (·.1) = false := by rfl) :
    DE X (.Call (.Attribute o name apos) (e :: es) [] cpos) (eMet g fo gs) := PE.imp (pe_bm pa slot hty hm ho ha hbase hfew hline hs hplain) (met_e hg)
/-- append -/
def gAppend : MetG := fun x ys G => match x, ys with
  | .rf k, [d] => match G[k]? with
    | some (.lst ds) => if ds.length < 10000000 then some (.non, G.set k (.lst (ds ++ [d]))) else none
    | _ => none
  | _, _ => none
theorem gAppend_ok {K : FK} : MetOk K rAppend gAppend := by
  intro δ σ G γ H dx ds d G' v vs Q S rx rs e q
  unfold gAppend at e
  split at e
  · rename_i k d1
    split at e
    · rename_i xs eg
      split at e
      case isFalse => cases e
      rename_i hl
      cases e
      simp only [R] at rx
      obtain ⟨a, rfl, hk⟩ := rx
      obtain ⟨w, r', rfl, h1, h2⟩ := rs.of_cons
      obtain rfl := h2.of_nil
      obtain ⟨us, hu, ru⟩ := S.toRo.at eg hk
      refine ⟨a, us, w, rfl, rfl, hu, line7 (by rw [← ru.length]; exact hl), ?_⟩
      obtain ⟨a1, S1⟩ := S.put hk eg hu (ru.append (Rs.cons h1 Rs.nil))
      exact q .non _ γ a1 S1 (by simp only [R])
    · cases e
  · cases e
theorem de_append (ho : DR X o fo) (ha : DEA X [e] gs)
    (hbase : attributeBase o "append" X.env (eval o X.env) = eval o X.env := by rfl)
    (hfew : ((backTo cpos (starEach [e] X.env)).all (fun x => !x.1) && (backToKw cpos (keywordEach [] X.env)).all (fun x => x.1.isSome)
      && decide ([e].length + ([] : List Keyword).length + (if ([] : List Keyword).isEmpty then 0 else 1) < 30)) = true := by rfl)
    (hline : (apos.endLine == cpos.line) = true := by rfl) (hs : starEach [e] X.env = (false, eval e X.env) :: starEach [] X.env := by rfl) (hplain : (backTo cpos (starEach [] X.env)).any (·.1) = false := by rfl) :
    DE X (.Call (.Attribute o "append" apos) [e] [] cpos) (eMet gAppend fo gs) := de_met PySem.F.plainAttrs_list PySem.F.slot_list_append PySem.F.type_list_append mt_append gAppend_ok ho ha hbase hfew hline hs hplain
/-- extend -/
def rExtR : V → List V → Hp → VK → Prop := fun x vs H Q => ∃ l b xs zs, x = .ref l ∧ vs = [.ref b] ∧ H l = some (.lst xs) ∧ Rd H b (.lst zs) ∧ xs.length + zs.length ≤ sizeLine ∧ Q .non (upd H l (.lst (xs ++ zs)))
theorem mt_extR : MtR X "list.extend" rExtR := by
  intro pins s σ H x vs v us Q I rx rv h
  obtain ⟨l, b, xs, zs, rfl, rfl, hH, hB, hz, q⟩ := h
  cases rx
  obtain ⟨u, rfl, ru⟩ := rv.one
  cases ru
  obtain ⟨z, its, n, r, hl, e⟩ := I.lstM hH
  obtain ⟨z2, its2, n2, r2, hl2, e2⟩ := lstR I hB
  have hsz : its.toArray.size + its2.toArray.size ≤ sizeLine := by rw [List.size_toArray, List.size_toArray]; omega
  have hlong : ¬ (!its.toArray.isEmpty && Builtin.List.listTooLong (its.toArray.size + its2.toArray.size)) = true := by
    rw [notLongL hsz, Bool.and_false]
    exact Bool.false_ne_true
  refine call_meets F.slot_list_extend ⟨_, e, rfl⟩ F.entry_list_extend (F.args_list_extend_2 _ _)
    (AutoSeq1.list_extend_list_list_0 l its.toArray n b its2.toArray n2 hlong (by rw [List.size_toArray]; omega) (by omega)) ⟨e, e2, ?_⟩
  refine ⟨.non, _, I.lset (its' := its ++ its2) hH e (by simp) (r.append r2) ?_, rfl, q⟩
  rw [List.length_append]
  omega
def gExtend : MetG := fun x ys G => match x, ys with
  | .rf k, [y] => match G[k]? with
    | some (.lst ds) => (lstG G y).bind fun es => if ds.length + es.length ≤ 10000000 then some (.non, G.set k (.lst (ds ++ es))) else none
    | _ => none
  | _, _ => none
theorem gExtend_ok {K : FK} : MetOk K rExtR gExtend := by
  intro δ σ G γ H dx ds d G' v vs Q S rx rs e q
  unfold gExtend at e
  split at e
  · rename_i k y
    split at e
    · rename_i xs eg
      obtain ⟨es, ee, e⟩ := Option.bind_eq_some_iff.mp e
      split at e
      case isFalse => cases e
      rename_i hl
      cases e
      simp only [R] at rx
      obtain ⟨a, rfl, hk⟩ := rx
      obtain ⟨w, r', rfl, h1, h2⟩ := rs.of_cons
      obtain rfl := h2.of_nil
      obtain ⟨us, hu, ru⟩ := S.toRo.at eg hk
      obtain ⟨b, zs, rfl, hb, rb⟩ := lstG_ok S.toRo h1 ee
      refine ⟨a, b, us, zs, rfl, rfl, hu, hb, line7' (by rw [← ru.length, ← rb.length]; exact hl), ?_⟩
      obtain ⟨a1, S1⟩ := S.put hk eg hu (ru.append rb)
      exact q .non _ γ a1 S1 (by simp only [R])
    · cases e
  · cases e
theorem de_extend (ho : DR X o fo) (ha : DEA X [e] gs)
    (hbase : attributeBase o "extend" X.env (eval o X.env) = eval o X.env := by rfl)
    (hfew : ((backTo cpos (starEach [e] X.env)).all (fun x => !x.1) && (backToKw cpos (keywordEach [] X.env)).all (fun x => x.1.isSome)
      && decide ([e].length + ([] : List Keyword).length + (if ([] : List Keyword).isEmpty then 0 else 1) < 30)) = true := by rfl)
    (hline : (apos.endLine == cpos.line) = true := by rfl) (hs : starEach [e] X.env = (false, eval e X.env) :: starEach [] X.env := by rfl) (hplain : (backTo cpos (starEach [] X.env)).any (·.1) = false := by rfl) :
    DE X (.Call (.Attribute o "extend" apos) [e] [] cpos) (eMet gExtend fo gs) := de_met PySem.F.plainAttrs_list PySem.F.slot_list_extend PySem.F.type_list_extend mt_extR gExtend_ok ho ha hbase hfew hline hs hplain
/-- pop() -/
def ePop (fo : RE) : EE := fun δ G => (fo δ G).bind fun x => match x with
  | .rf k => match G[k]? with
    | some (.lst ds) => (ds[ds.length - 1]?).bind fun d => some (d, G.set k (.lst ds.dropLast))
    | _ => none
  | _ => none
theorem Rs.dropLast {K : FK} {γ : List Addr} {ds : List D} {vs : List V} {H : Hp} (h : Rs K γ H ds vs) : Rs K γ H ds.dropLast vs.dropLast := by
  rw [List.dropLast_eq_take, List.dropLast_eq_take, ← h.length]
  exact h.take _
theorem de_pop (ho : DR X o fo) (hbase : attributeBase o "pop" X.env (eval o X.env) = eval o X.env := by rfl)
    (hline : (apos.endLine == cpos.line) = true := by rfl) : DE X (.Call (.Attribute o "pop" apos) [] [] cpos) (ePop fo) := by
  refine PE.imp (pe_bm0 PySem.F.plainAttrs_list PySem.F.slot_list_pop PySem.F.type_list_pop mt_pop ho hbase hline) fun σ H Q ⟨δ, G, γ, d, G', S, ef, q⟩ => ?_
  simp only [ePop, Option.bind_eq_some_iff] at ef
  obtain ⟨x, e1, e2⟩ := ef
  refine ⟨δ, G, γ, x, S, e1, fun v H1 s1 r1 => ?_⟩
  split at e2
  · rename_i k
    split at e2
    · rename_i ds eg
      obtain ⟨d1, e3, e4⟩ := Option.bind_eq_some_iff.mp e2
      cases e4
      simp only [R] at r1
      obtain ⟨a, rfl, hk⟩ := r1
      obtain ⟨us, hu, ru⟩ := (S.same s1).toRo.at eg hk
      obtain ⟨w, h1, h2⟩ := ru.get e3
      refine ⟨Or.inl ⟨rfl, us, .inl (.inl hu)⟩, a, us, w, rfl, rfl, hu, by rw [← ru.length]; exact h1, ?_⟩
      obtain ⟨a1, S1⟩ := (S.same s1).put hk eg hu ru.dropLast
      exact q w _ γ ((Aft.of_same s1).trans a1) S1 (R.aft a1 h2)
    · cases e2
  · cases e2
/-- pop(i) -/
def gPopAt : MetG := fun x ys G => match x, ys with
  | .rf k, [.int i] => match G[k]? with
    | some (.lst ds) => if 0 ≤ i ∧ i < 1000000 then (ds[i.toNat]?).bind fun d => some (d, G.set k (.lst (ds.eraseIdx i.toNat))) else none
    | _ => none
  | _, _ => none
theorem Rs.eraseIdx {K : FK} {γ : List Addr} {H : Hp} : ∀ {ds : List D} {vs : List V} (i : Nat), Rs K γ H ds vs → Rs K γ H (ds.eraseIdx i) (vs.eraseIdx i)
  | [], _, _, h => by
    rw [h.of_nil]
    simpa using Rs.nil
  | d :: ds, vs, 0, h => by
    obtain ⟨v, r, rfl, h1, h2⟩ := h.of_cons
    exact h2
  | d :: ds, vs, i + 1, h => by
    obtain ⟨v, r, rfl, h1, h2⟩ := h.of_cons
    exact Rs.cons h1 (Rs.eraseIdx i h2)
theorem seqIx {i : Int} {n : Nat} (h0 : 0 ≤ i) (h : i.toNat < n) : seqIndex? i n = some i.toNat := by
  have e : ixN n i = some i.toNat := by
    unfold ixN
    rw [if_pos h0, if_pos (by omega)]
  exact (ixN_seq e).1
theorem gPopAt_ok {K : FK} : MetOk K rPopAt gPopAt := by
  intro δ σ G γ H dx ds d G' v vs Q S rx rs e q
  unfold gPopAt at e
  split at e
  · rename_i k i
    split at e
    · rename_i xs eg
      split at e
      case isFalse => cases e
      rename_i hi
      obtain ⟨d1, e3, e4⟩ := Option.bind_eq_some_iff.mp e
      cases e4
      simp only [R] at rx
      obtain ⟨a, rfl, hk⟩ := rx
      obtain ⟨w, r', rfl, h1, h2⟩ := rs.of_cons
      obtain rfl := h2.of_nil
      simp only [R] at h1
      subst h1
      obtain ⟨us, hu, ru⟩ := S.toRo.at eg hk
      obtain ⟨z, h3, h4⟩ := ru.get e3
      have hlt := (List.getElem?_eq_some_iff.mp h3).1
      refine ⟨a, us, i, i.toNat, z, rfl, rfl, hu, by omega, by omega, seqIx hi.1 hlt, h3, ?_⟩
      obtain ⟨a1, S1⟩ := S.put hk eg hu (ru.eraseIdx i.toNat)
      exact q z _ γ a1 S1 (R.aft a1 h4)
    · cases e
  · cases e
theorem de_popAt (ho : DR X o fo) (ha : DEA X [e] gs)
    (hbase : attributeBase o "pop" X.env (eval o X.env) = eval o X.env := by rfl)
    (hfew : ((backTo cpos (starEach [e] X.env)).all (fun x => !x.1) && (backToKw cpos (keywordEach [] X.env)).all (fun x => x.1.isSome)
      && decide ([e].length + ([] : List Keyword).length + (if ([] : List Keyword).isEmpty then 0 else 1) < 30)) = true := by rfl)
    (hline : (apos.endLine == cpos.line) = true := by rfl) (hs : starEach [e] X.env = (false, eval e X.env) :: starEach [] X.env := by rfl) (hplain : (backTo cpos (starEach [] X.env)).any (·.1) = false := by rfl) :
    DE X (.Call (.Attribute o "pop" apos) [e] [] cpos) (eMet gPopAt fo gs) := de_met PySem.F.plainAttrs_list PySem.F.slot_list_pop PySem.F.type_list_pop mt_popAt gPopAt_ok ho ha hbase hfew hline hs hplain
end

/-! ### calls of built-ins -/
section
variable {X : Cx} {e : Expr} {es : List Expr} {fs : RA} {gs : EA} {p pos : Pos}
theorem dr_callB {x : Str} {id : String} {r : List V → Hp → VK → Prop} {g : Hs → List D → Option D} (hc : CallR X (.builtin id) r) (hr : CallG X.F r g) (hm : X.mg x = none) (hv : bootBuiltins x = some (.builtin id)) (ha : DRA X (e :: es) fs) (hg : Gl X x := by rfl)
    (hn : x ≠ "__name__" := by decide) (hd : (x == ("__debug__" : Str)) = false := by decide) (hs : starEach (e :: es) X.env = (false, eval e X.env) :: starEach es X.env := by rfl) (hpl : (backTo pos (starEach es X.env)).any (·.1) = false := by rfl) :
    DR X (.Call (.Name x p) (e :: es) [] pos) (rCal g fs) := PE.imp (pe_callB hc hg hm hv ha hn hd hs hpl) (cal_r hr)
theorem de_callBi {x : Str} {id : String} {r : List V → Hp → VK → Prop} {g : Hs → List D → Option D} (hc : CallR X (.builtin id) r) (hr : CallG X.F r g) (hm : X.mg x = none) (hv : bootBuiltins x = some (.builtin id)) (ha : DEA X (e :: es) gs) (hg : Gl X x := by rfl)
    (hn : x ≠ "__name__" := by decide) (hd : (x == ("__debug__" : Str)) = false := by decide) (hs : starEach (e :: es) X.env = (false, eval e X.env) :: starEach es X.env := by rfl) (hpl : (backTo pos (starEach es X.env)).any (·.1) = false := by rfl) :
    DE X (.Call (.Name x p) (e :: es) [] pos) (eCal g gs) := PE.imp (pe_callB hc hg hm hv ha hn hd hs hpl) (cal_e hr)
theorem dr_callT {x : Str} {T : String} {r : List V → Hp → VK → Prop} {g : Hs → List D → Option D} (hc : CallR X (.type T) r) (hr : CallG X.F r g) (hm : X.mg x = none) (hv : bootBuiltins x = some (.type T)) (ha : DRA X (e :: es) fs) (hg : Gl X x := by rfl)
    (hn : x ≠ "__name__" := by decide) (hd : (x == ("__debug__" : Str)) = false := by decide) (hs : starEach (e :: es) X.env = (false, eval e X.env) :: starEach es X.env := by rfl) (hpl : (backTo pos (starEach es X.env)).any (·.1) = false := by rfl) :
    DR X (.Call (.Name x p) (e :: es) [] pos) (rCal g fs) := PE.imp (pe_callTy hc hg hm hv ha hn hd hs hpl) (cal_r hr)
theorem de_callT {x : Str} {T : String} {r : List V → Hp → VK → Prop} {g : Hs → List D → Option D} (hc : CallR X (.type T) r) (hr : CallG X.F r g) (hm : X.mg x = none) (hv : bootBuiltins x = some (.type T)) (ha : DEA X (e :: es) gs) (hg : Gl X x := by rfl)
    (hn : x ≠ "__name__" := by decide) (hd : (x == ("__debug__" : Str)) = false := by decide) (hs : starEach (e :: es) X.env = (false, eval e X.env) :: starEach es X.env := by rfl) (hpl : (backTo pos (starEach es X.env)).any (·.1) = false := by rfl) :
    DE X (.Call (.Name x p) (e :: es) [] pos) (eCal g gs) := PE.imp (pe_callTy hc hg hm hv ha hn hd hs hpl) (cal_e hr)
end
section
variable {K : FK}
theorem Rs.one {γ : List Addr} {H : Hp} {d : D} {vs : List V} (h : Rs K γ H [d] vs) : ∃ v, vs = [v] ∧ R K γ H d v := by
  obtain ⟨v, r, rfl, h1, h2⟩ := h.of_cons
  rw [h2.of_nil]
  exact ⟨v, rfl, h1⟩
theorem Rs.two {γ : List Addr} {H : Hp} {d d' : D} {vs : List V} (h : Rs K γ H [d, d'] vs) : ∃ v v', vs = [v, v'] ∧ R K γ H d v ∧ R K γ H d' v' := by
  obtain ⟨v, r, rfl, h1, h2⟩ := h.of_cons
  obtain ⟨v', rfl, h3⟩ := h2.one
  exact ⟨v, v', rfl, h1, h3⟩
/-- len of a tuple, a list -/
def gLen : Hs → List D → Option D := fun G ds => match ds with
  | [.scr ns] => some (.int ns.length)
  | [d] => (seqG G d).bind fun xs => some (.int xs.length)
  | _ => none
theorem seqG_ok {γ : List Addr} {H : Hp} {G : Hs} {d : D} {v : V} {ds : List D} (r : Ro K H G γ) (h : R K γ H d v) (e : seqG G d = some ds) : ∃ a vs, v = .ref a ∧ (Rd H a (.lst vs) ∨ SqT K H a vs) ∧ Rs K γ H ds vs := by
  cases d with
  | tup xs =>
    cases e
    simp only [R] at h
    obtain ⟨a, vs, rfl, h1, h2⟩ := h
    exact ⟨a, vs, rfl, .inr h1, h2⟩
  | fl xs =>
    obtain ⟨a, vs, rfl, h1, h2⟩ := lstG_ok (d := .fl xs) r h e
    exact ⟨a, vs, rfl, .inl h1, h2⟩
  | rf k =>
    obtain ⟨a, vs, rfl, h1, h2⟩ := lstG_ok (d := .rf k) r h e
    exact ⟨a, vs, rfl, .inl h1, h2⟩
  | _ => cases e
theorem gLen_ok : CallG K (fun xs H Q => ∃ p ys, xs = [.ref p] ∧ (SqL K H p ys ∨ SqT K H p ys) ∧ Q (.int ys.length) H) gLen := by
  intro G γ H ds d vs Q r rs e q
  unfold gLen at e
  split at e
  · cases e
    obtain ⟨v, rfl, h⟩ := rs.one
    simp only [R] at h
    obtain ⟨a, rfl, h1⟩ := h
    exact ⟨a, _, rfl, .inl h1.sq, q _ H (Same.refl H) (by simp only [R, List.length_map])⟩
  · obtain ⟨xs, e1, e2⟩ := Option.bind_eq_some_iff.mp e
    cases e2
    obtain ⟨v, rfl, h⟩ := rs.one
    obtain ⟨a, us, rfl, h1, h2⟩ := seqG_ok r h e1
    exact ⟨a, us, rfl, h1.imp (fun z => .inl z) id, q _ H (Same.refl H) (by simp only [R]; rw [h2.length])⟩
  · cases e
/-- int(int), abs -/
def gInt : Hs → List D → Option D := fun _ ds => match ds with
  | [.int i] => some (.int i)
  | [.bl b] => some (.int (if b then 1 else 0))
  | _ => none
theorem gInt_ok : CallG K (fun xs H Q => (∃ i, xs = [.int i] ∧ Q (.int i) H) ∨ ∃ k, xs = [.bl k] ∧ Q (.int (if k then 1 else 0)) H) gInt := by
  intro G γ H ds d vs Q r rs e q
  unfold gInt at e
  split at e
  · cases e
    obtain ⟨v, rfl, h⟩ := rs.one
    simp only [R] at h
    subst h
    exact .inl ⟨_, rfl, q _ H (Same.refl H) (by simp only [R])⟩
  · cases e
    obtain ⟨v, rfl, h⟩ := rs.one
    simp only [R] at h
    subst h
    exact .inr ⟨_, rfl, q _ H (Same.refl H) (by simp only [R])⟩
  · cases e
def gAbs : Hs → List D → Option D := fun _ ds => match ds with
  | [.int i] => some (.int (if i < 0 then -i else i))
  | _ => none
theorem gAbs_ok : CallG K (fun xs H Q => ∃ i, xs = [.int i] ∧ Q (.int (if i < 0 then -i else i)) H) gAbs := by
  intro G γ H ds d vs Q r rs e q
  unfold gAbs at e
  split at e
  · cases e
    obtain ⟨v, rfl, h⟩ := rs.one
    simp only [R] at h
    subst h
    exact ⟨_, rfl, q _ H (Same.refl H) (by simp only [R])⟩
  · cases e
def gMax2 : Hs → List D → Option D := fun _ ds => match ds with
  | [.int i, .int j] => some (.int (if j > i then j else i))
  | _ => none
theorem gMax2_ok : CallG K (fun xs H Q => ∃ i j, xs = [.int i, .int j] ∧ Q (.int (if j > i then j else i)) H) gMax2 := by
  intro G γ H ds d vs Q r rs e q
  unfold gMax2 at e
  split at e
  · cases e
    obtain ⟨v, w, rfl, h, h'⟩ := rs.two
    simp only [R] at h h'
    subst h h'
    exact ⟨_, _, rfl, q _ H (Same.refl H) (by simp only [R])⟩
  · cases e
def gMin2 : Hs → List D → Option D := fun _ ds => match ds with
  | [.int i, .int j] => some (.int (if j < i then j else i))
  | _ => none
theorem gMin2_ok : CallG K (fun xs H Q => ∃ i j, xs = [.int i, .int j] ∧ Q (.int (if j < i then j else i)) H) gMin2 := by
  intro G γ H ds d vs Q r rs e q
  unfold gMin2 at e
  split at e
  · cases e
    obtain ⟨v, w, rfl, h, h'⟩ := rs.two
    simp only [R] at h h'
    subst h h'
    exact ⟨_, _, rfl, q _ H (Same.refl H) (by simp only [R])⟩
  · cases e
/-- all, any, sum -/
def blsD : List D → Option (List Bool)
  | [] => some []
  | .bl b :: ds => (blsD ds).bind fun bs => some (b :: bs)
  | _ => none
def intsD : List D → Option (List Int)
  | [] => some []
  | .int b :: ds => (intsD ds).bind fun bs => some (b :: bs)
  | _ => none
theorem blsD_ok {γ : List Addr} {H : Hp} : ∀ {ds : List D} {vs : List V} {bs : List Bool}, Rs K γ H ds vs → blsD ds = some bs → vs = bs.map V.bl
  | [], vs, bs, r, e => by
    cases e
    rw [r.of_nil]
    rfl
  | .bl b :: ds, vs, bs, r, e => by
    obtain ⟨bs', e1, e2⟩ := Option.bind_eq_some_iff.mp e
    cases e2
    obtain ⟨v, r', rfl, h1, h2⟩ := r.of_cons
    simp only [R] at h1
    subst h1
    rw [blsD_ok h2 e1]
    rfl
  | .non :: _, _, _, _, e => by cases e
  | .int _ :: _, _, _, _, e => by cases e
  | .str _ :: _, _, _, _, e => by cases e
  | .tup _ :: _, _, _, _, e => by cases e
  | .fl _ :: _, _, _, _, e => by cases e
  | .obj _ _ _ :: _, _, _, _, e => by cases e
  | .scr _ :: _, _, _, _, e => by cases e
  | .fd _ _ :: _, _, _, _, e => by cases e
  | .rf _ :: _, _, _, _, e => by cases e
theorem intsD_ok {γ : List Addr} {H : Hp} : ∀ {ds : List D} {vs : List V} {bs : List Int}, Rs K γ H ds vs → intsD ds = some bs → vs = bs.map V.int
  | [], vs, bs, r, e => by
    cases e
    rw [r.of_nil]
    rfl
  | .int b :: ds, vs, bs, r, e => by
    obtain ⟨bs', e1, e2⟩ := Option.bind_eq_some_iff.mp e
    cases e2
    obtain ⟨v, r', rfl, h1, h2⟩ := r.of_cons
    simp only [R] at h1
    subst h1
    rw [intsD_ok h2 e1]
    rfl
  | .non :: _, _, _, _, e => by cases e
  | .bl _ :: _, _, _, _, e => by cases e
  | .str _ :: _, _, _, _, e => by cases e
  | .tup _ :: _, _, _, _, e => by cases e
  | .fl _ :: _, _, _, _, e => by cases e
  | .obj _ _ _ :: _, _, _, _, e => by cases e
  | .scr _ :: _, _, _, _, e => by cases e
  | .fd _ _ :: _, _, _, _, e => by cases e
  | .rf _ :: _, _, _, _, e => by cases e
def gAll : Hs → List D → Option D := fun G ds => match ds with
  | [d] => (lstG G d).bind fun xs => (blsD xs).bind fun bs => some (.bl (bs.all id))
  | _ => none
def gAny : Hs → List D → Option D := fun G ds => match ds with
  | [d] => (lstG G d).bind fun xs => (blsD xs).bind fun bs => some (.bl (bs.any id))
  | _ => none
def gSum : Hs → List D → Option D := fun G ds => match ds with
  | [d] => (lstG G d).bind fun xs => (intsD xs).bind fun bs => some (.int bs.sum)
  | _ => none
theorem gAll_ok : CallG K (rAll K) gAll := by
  intro G γ H ds d vs Q r rs e q
  unfold gAll at e
  split at e
  · simp only [Option.bind_eq_some_iff, Option.some.injEq] at e
    obtain ⟨xs, e1, bs, e2, rfl⟩ := e
    obtain ⟨v, rfl, h⟩ := rs.one
    obtain ⟨a, us, rfl, h1, h2⟩ := lstG_ok r h e1
    obtain rfl := blsD_ok h2 e2
    exact ⟨a, bs, rfl, .inl h1, q _ H (Same.refl H) (by simp only [R])⟩
  · cases e
theorem gAny_ok : CallG K (rAny K) gAny := by
  intro G γ H ds d vs Q r rs e q
  unfold gAny at e
  split at e
  · simp only [Option.bind_eq_some_iff, Option.some.injEq] at e
    obtain ⟨xs, e1, bs, e2, rfl⟩ := e
    obtain ⟨v, rfl, h⟩ := rs.one
    obtain ⟨a, us, rfl, h1, h2⟩ := lstG_ok r h e1
    obtain rfl := blsD_ok h2 e2
    exact ⟨a, bs, rfl, .inl h1, q _ H (Same.refl H) (by simp only [R])⟩
  · cases e
theorem gSum_ok : CallG K (rSum K) gSum := by
  intro G γ H ds d vs Q r rs e q
  unfold gSum at e
  split at e
  · simp only [Option.bind_eq_some_iff, Option.some.injEq] at e
    obtain ⟨xs, e1, bs, e2, rfl⟩ := e
    obtain ⟨v, rfl, h⟩ := rs.one
    obtain ⟨a, us, rfl, h1, h2⟩ := lstG_ok r h e1
    obtain rfl := intsD_ok h2 e2
    exact ⟨a, bs, rfl, .inl h1, q _ H (Same.refl H) (by simp only [R])⟩
  · cases e
/-- tuple(..), list(..) of a sequence -/
def gTuple : Hs → List D → Option D := fun G ds => match ds with
  | [d] => (seqG G d).bind fun xs => some (.tup xs)
  | _ => none
theorem gTuple_ok : CallG K (fun xs H Q => ∃ p ys, xs = [.ref p] ∧ ((SqL K H p ys ∧ ∀ l, H l = none → Q (.ref l) (upd H l (.tup ys))) ∨ (SqT K H p ys ∧ Q (.ref p) H))) gTuple := by
  intro G γ H ds d vs Q r rs e q
  unfold gTuple at e
  split at e
  · obtain ⟨xs, e1, e2⟩ := Option.bind_eq_some_iff.mp e
    cases e2
    obtain ⟨v, rfl, h⟩ := rs.one
    obtain ⟨a, us, rfl, h1, h2⟩ := seqG_ok r h e1
    rcases h1 with h1 | h1
    · refine ⟨a, us, rfl, .inl ⟨.inl h1, fun t ht => ?_⟩⟩
      obtain ⟨s, r'⟩ := new_tup ht h2
      exact q _ _ s r'
    · refine ⟨a, us, rfl, .inr ⟨h1, q _ H (Same.refl H) ?_⟩⟩
      simp only [R]
      exact ⟨a, us, rfl, h1, h2⟩
  · cases e
def gList : Hs → List D → Option D := fun G ds => match ds with
  | [d] => (seqG G d).bind fun xs => some (.fl xs)
  | _ => none
theorem gList_ok : CallG K (fun xs H Q => ∃ p ys, xs = [.ref p] ∧ (SqL K H p ys ∨ SqT K H p ys) ∧ ∀ l, H l = none → ∃ p vs, V.ref l = .ref p ∧ (upd H l (.lst ys)) p = some (.lst vs) ∧ ∀ od, Q (.ref l) (upd (upd H l (.lst ys)) p (.frz od (.lst vs)))) gList := by
  intro G γ H ds d vs Q r rs e q
  unfold gList at e
  split at e
  · obtain ⟨xs, e1, e2⟩ := Option.bind_eq_some_iff.mp e
    cases e2
    obtain ⟨v, rfl, h⟩ := rs.one
    obtain ⟨a, us, rfl, h1, h2⟩ := seqG_ok r h e1
    exact ⟨a, us, rfl, h1.imp (fun z => .inl z) id, fun l hl => frz_end hl h2 q⟩
  · cases e
/-- sorted of a list of alike data -/
def srtd (ds : List D) : List D := ds.mergeSort (PySem.W.dataLe false D.py)
def sortable (ds : List D) : Bool := ds.all (fun x => ds.all fun y => PySem.W.alike x.py y.py) && ds.all (fun x => x.ok && decide (x.dep ≤ 60)) && decide (ds.length ≤ 10000000) &&
  (ds.all (fun x => match x with | .tup (_ :: _) => true | _ => false) || ds.all fun x => match x with | .tup _ => false | .non => false | _ => true)
def gSorted : Hs → List D → Option D := fun G ds => match ds with
  | [d] => (lstG G d).bind fun xs => if sortable xs = true then some (.fl (srtd xs)) else none
  | _ => none
end
end FL
namespace FL
open PySem PySem.Spec PyProof.Rows L2

/-! ### sorted -/
section
variable {X : Cx}
def srel (H : Hp) (K : FK) (γ : List Addr) : Value → D → Prop := fun u d => ∃ v, RelV v u ∧ R K γ H d v
theorem each_of {K : FK} {γ : List Addr} {H : Hp} : ∀ {ds : List D} {vs : List V} {us : List Value}, Rs K γ H ds vs → Vals vs us → PySem.W.EachIs (srel H K γ) us ds
  | [], vs, us, r, w => by
    rw [r.of_nil] at w
    cases w
    exact .nil
  | d :: ds, vs, us, r, w => by
    obtain ⟨v, vs', rfl, r1, r2⟩ := r.of_cons
    cases w with
    | cons w1 w2 => exact .cons ⟨v, w1, r1⟩ (each_of r2 w2)
theorem of_each {K : FK} {γ : List Addr} {H : Hp} : ∀ {us : List Value} {ds : List D}, PySem.W.EachIs (srel H K γ) us ds → ∃ vs, Vals vs us ∧ Rs K γ H ds vs
  | _, _, .nil => ⟨[], .nil, Rs.nil⟩
  | _, _, .cons ⟨v, w, r⟩ t => by
    obtain ⟨vs, w', r'⟩ := of_each t
    exact ⟨v :: vs, .cons w w', Rs.cons r r'⟩
theorem EachIs.imp' {α β : Type} {R S : α → β → Prop} : ∀ {as : List α} {bs : List β}, PySem.W.EachIs R as bs → (∀ a b, b ∈ bs → R a b → S a b) → PySem.W.EachIs S as bs
  | _, _, .nil, _ => .nil
  | _, _, .cons h t, f => .cons (f _ _ List.mem_cons_self h) (EachIs.imp' t fun a b m => f a b (List.mem_cons_of_mem _ m))
def rSrt (K : FK) : List V → Hp → VK → Prop := fun vs H Q => ∃ (a : Addr) (us : List V) (ds : List D) (γ : List Addr), vs = [V.ref a] ∧ Rd H a (.lst us) ∧ Rs K γ H ds us ∧ sortable ds = true ∧
  ∀ ws p, Rs K γ H (srtd ds) ws → H p = none → Q (.ref p) (upd H p (.lst ws))
theorem sortable_facts {ds : List D} (h : sortable ds = true) : (∀ x ∈ ds, ∀ y ∈ ds, PySem.W.alike x.py y.py = true) ∧ (∀ x ∈ ds, x.ok = true ∧ x.dep ≤ 60) ∧ ds.length ≤ 10000000 ∧
    ((∀ x ∈ ds, ∃ y r, x = .tup (y :: r)) ∨ ∀ x ∈ ds, x.py ≠ .none ∧ ∀ xs, x.py ≠ .tuple xs) := by
  unfold sortable at h
  simp only [Bool.and_eq_true, List.all_eq_true, decide_eq_true_eq, Bool.or_eq_true] at h
  obtain ⟨⟨⟨h1, h2⟩, h3⟩, h4⟩ := h
  refine ⟨h1, h2, h3, ?_⟩
  rcases h4 with h4 | h4
  · left
    intro x hx
    have := h4 x hx
    split at this
    · exact ⟨_, _, rfl⟩
    · cases this
  · right
    intro x hx
    have q := h4 x hx
    have o := (h2 x hx).1
    cases x <;> simp_all [D.py, D.ok]
theorem cr_srt {k : Nat} (hr : Room k X.A) : CallR X (.builtin "sorted") (rSrt X.F) := by
  intro pins s σ H vs us Q I r h
  obtain ⟨a, xs, ds, γ, rfl, hs, rs, so, q⟩ := h
  obtain ⟨h1, h2, h3, h4⟩ := sortable_facts so
  obtain ⟨its, rv, hl, hz⟩ := I.list (.inl hs)
  obtain ⟨u, rfl, ru⟩ := vals1 r
  obtain rfl : u = Value.ref a := ru
  have e1 := each_of rs rv
  have e2 : PySem.W.EachIs (fun v b => ∃ as, Reads s.heap v (D.py b) as) its ds := EachIs.imp' e1 fun u d hd ⟨v, w, rr⟩ => Dp.reads I d.py v u (R.dp d v (h2 d hd).1 rr) w
  refine PySem.W.sorted_data (enc := D.py) hl.isList e1 e2 ?_ ?_ (line7' h3) (fun d hd => ?_) fun out hlen ho => ?_
  · intro d hd d' hd'
    obtain ⟨x, hx, rfl⟩ := List.mem_map.mp hd
    obtain ⟨y, hy, rfl⟩ := List.mem_map.mp hd'
    exact h1 x hx y hy
  · rcases h4 with h4 | h4
    · left
      intro d hd
      obtain ⟨x, hx, rfl⟩ := List.mem_map.mp hd
      obtain ⟨y, r, rfl⟩ := h4 x hx
      exact ⟨y.py, pys r, by simp only [D.py, pys]⟩
    · right
      intro d hd
      obtain ⟨x, hx, rfl⟩ := List.mem_map.mp hd
      exact h4 x hx
  · have q1 := (h2 d hd).2
    have q2 := D.depth d
    have q3 := hr.un
    omega
  · obtain ⟨ws, w1, w2⟩ := of_each ho
    have kp : ∀ b o, s.heap.get? b = some o → (sortedAll s.heap its (List.toArray out)).get? b = some o := fun b o e => sortedAll_old e
    obtain ⟨n, hn⟩ := sortedAll_at s.heap its (List.toArray out)
    have hf : s.heap.objs.size ≤ s.heap.objs.size + 1 := Nat.le_succ _
    refine ⟨.ref (s.heap.objs.size + 1), upd H (s.heap.objs.size + 1) (.lst ws), I.laid (t' := s.toks) kp hf ⟨?_, out, n, w1, hn⟩, rfl, q ws _ w2 (I.hok.fresh hf)⟩
    rw [w1.length, hlen]
    exact line7' h3
theorem gSorted_ok {K : FK} : CallG K (fun xs H Q => rSrt K xs H fun v H1 => ∃ p vs, v = .ref p ∧ H1 p = some (.lst vs) ∧ ∀ od, Q v (upd H1 p (.frz od (.lst vs)))) gSorted := by
  intro G γ H ds d vs Q r rs e q
  unfold gSorted at e
  split at e
  · obtain ⟨xs, e1, e2⟩ := Option.bind_eq_some_iff.mp e
    split at e2
    case isFalse => cases e2
    rename_i so
    cases e2
    obtain ⟨v, rfl, h⟩ := rs.one
    obtain ⟨a, us, rfl, h1, h2⟩ := lstG_ok r h e1
    exact ⟨a, us, xs, γ, rfl, h1, h2, so, fun ws p hw hp => frz_end hp hw q⟩
  · cases e
end

/-! ### isinstance of a built-in class -/
def tyN (G : Hs) : D → Option String
  | .non => some "NoneType" | .bl _ => some "bool" | .int _ => some "int" | .str _ => some "str"
  | .tup _ => some "tuple" | .fl _ => some "list" | .fd _ _ => some "dict"
  | .rf k => match G[k]? with
    | some (.lst _) => some "list"
    | _ => none
  | .obj _ _ _ => none
  | .scr _ => none
def rIsT (f : String → Bool) (fa : RE) : RE := fun δ G => (fa δ G).bind fun x => (tyN G x).bind fun t => some (.bl (f t))
def isTy (T : String) (t : String) : Bool := t == T || (T == "int" && t == "bool")
section
variable {X : Cx} {e c : Expr} {fa : RE} {p pos : Pos}
theorem tyN_ok {K : FK} {γ : List Addr} {H : Hp} {G : Hs} {d : D} {v : V} {t : String} (r : Ro K H G γ) (h : R K γ H d v) (e : tyN G d = some t) : TyX K H v (.type t) := by
  cases d with
  | non => cases e; simp only [R] at h; subst h; exact .base .non
  | bl b => cases e; simp only [R] at h; subst h; exact .base (.bl b)
  | int i => cases e; simp only [R] at h; subst h; exact .base (.int i)
  | str x => cases e; simp only [R] at h; subst h; exact .base (.str x)
  | tup ds =>
    cases e
    simp only [R] at h
    obtain ⟨a, vs, rfl, h1, h2⟩ := h
    rcases h1 with (h1 | ⟨o, h1⟩) | ⟨o, its, n, hk, hc, _⟩
    · exact .base (.tup h1)
    · exact .fTuple h1
    · exact .kTuple hk hc
  | fl ds =>
    cases e
    simp only [R] at h
    obtain ⟨a, vs, rfl, ⟨o, h1⟩, h2⟩ := h
    exact .base (.frz h1)
  | obj _ _ _ => cases e
  | scr _ => cases e
  | fd _ _ =>
    cases e
    simp only [R] at h
    obtain ⟨a, o, kvs, rfl, h1, _⟩ := h
    exact .fDict h1
  | rf k =>
    simp only [R] at h
    obtain ⟨a, rfl, h1⟩ := h
    simp only [tyN] at e
    split at e
    · rename_i ds eg
      cases e
      obtain ⟨vs, h2, _⟩ := r.at eg h1
      exact .base (.lst h2)
    · cases e
theorem dr_isT {T : String} {x : Str} {q : Pos} (ha : DR X e fa) (hm : X.mg "isinstance" = none) (hmT : X.mg x = none) (hvT : bootBuiltins x = some (.type T))
    (hk : ∀ t ∈ ["NoneType", "bool", "int", "str", "tuple", "list", "dict"], PySem.W.kitOne X.F (.type t) (.type T) = some (isTy T t)) (hc : ClsV (.ty T) (.type T))
    (hg : Gl X "isinstance" := by rfl) (hgT : Gl X x := by rfl) (hn : x ≠ "__name__" := by decide) (hd : (x == ("__debug__" : Str)) = false := by decide)
    (hs : starEach [e, .Name x q] X.env = (false, eval e X.env) :: starEach [.Name x q] X.env := by rfl) (hs2 : starEach [.Name x q] X.env = (false, eval (.Name x q) X.env) :: starEach [] X.env := by rfl) (hpl : (backTo pos (starEach [.Name x q] X.env)).any (·.1) = false := by rfl)
    (hv : bootBuiltins "isinstance" = some (.builtin "isinstance") := by decide +kernel) :
    DR X (.Call (.Name "isinstance" p) [e, .Name x q] [] pos) (rIsT (isTy T) fa) := by
  refine PE.imp (pe_callB call_isi hg hm hv (pa_cons ha (pa_cons (pe_bltn (v := .ty T) hgT hmT hvT rfl hn hd) pa_nil hs2) hs) (by decide) (by decide) hs hpl) fun σ H Q ⟨δ, G, γ, d, S, ef, q⟩ => ?_
  simp only [rIsT, Option.bind_eq_some_iff, Option.some.injEq] at ef
  obtain ⟨x, e1, t, e2, rfl⟩ := ef
  refine ⟨δ, G, γ, x, S, e1, fun v H1 s1 r1 => ?_⟩
  have ht := tyN_ok (S.same s1).toRo r1 e2
  refine ⟨v, .ty T, .type t, .type T, isTy T t, rfl, hc, ht, hk t ?_, q _ H1 s1 (by simp only [R])⟩
  cases x <;> simp_all [tyN]
  · rename_i k
    split at e2
    · cases e2; simp
    · cases e2
end

/-! ### a < b < c -/
def rChn (g1 g2 : Hs → D → D → Option D) (fa fb fc : RE) : RE := fun δ G => (fa δ G).bind fun x => (fb δ G).bind fun y => (g1 G x y).bind fun d => (toB d).bind fun k => if k = true then (fc δ G).bind fun z => g2 G y z else some (.bl false)
section
variable {X : Cx} {a b c : Expr} {fa fb fc : RE} {pos : Pos} {g1 g2 : Hs → D → D → Option D} {r r' : R2} {op op' : CmpOp}
theorem chn_r (h1 : OpG X.F r g1) (h2 : OpG X.F r' g2) (σ : L2.St) (H : Hp) (Q : VK) (h : lR X.F (rChn g1 g2 fa fb fc) σ H Q) : tChain r r' (lR X.F fa) (lR X.F fb) (lR X.F fc) σ H Q := by
  obtain ⟨δ, G, γ, d, S, ef, q⟩ := h
  simp only [rChn, Option.bind_eq_some_iff] at ef
  obtain ⟨x, e1, y, e2, d1, e3, k, e4, e5⟩ := ef
  obtain rfl := toB_some e4
  refine ⟨δ, G, γ, x, S, e1, fun v H1 s1 r1 => ⟨δ, G, γ, y, S.same s1, e2, fun u H2 s2 r2 => ?_⟩⟩
  refine h1 G γ H2 x y _ v u _ ((S.same s1).same s2).toRo (R.same s2 r1) r2 e3 fun z H3 s3 r3 => ?_
  simp only [R] at r3
  refine ⟨k, r3, ?_⟩
  have s13 := s1.trans (s2.trans s3)
  cases k with
  | false =>
    have : D.bl false = d := by simpa using e5
    subst this
    simp only [Bool.false_eq_true, if_false]
    exact q _ H3 s13 (by simp only [R])
  | true =>
    simp only [if_true, Option.bind_eq_some_iff] at e5 ⊢
    obtain ⟨z, e6, e7⟩ := e5
    exact ⟨δ, G, γ, z, S.same s13, e6, fun w H4 s4 r4 => h2 G γ H4 y z d u w Q ((S.same s13).same s4).toRo (R.same s4 (R.same s3 r2)) r4 e7 fun v' H5 s5 r5 => q v' H5 (s13.trans (s4.trans s5)) r5⟩
theorem dr_chn (ho : OpR X (compareOp op) r) (ho' : OpR X (compareOp op') r') (h1 : OpG X.F r g1) (h2 : OpG X.F r' g2) (ha : DR X a fa) (hb : DR X b fb) (hc : DR X c fc)
    (hm : lastMarks [op, op'] [b, c] = false := by with_unfolding_all rfl) : DR X (.Compare a [op, op'] [b, c] pos) (rChn g1 g2 fa fb fc) := PE.imp (pe_chain ho ho' ha hb hc hm) (chn_r h1 h2)
theorem drt_chn (ho : OpR X (compareOp op) r) (ho' : OpR X (compareOp op') r') (h1 : OpG X.F r g1) (h2 : OpG X.F r' g2) (ha : DR X a fa) (hb : DR X b fb) (hc : DR X c fc)
    (hm : lastMarks [op, op'] [b, c] = false := by with_unfolding_all rfl) : DRT X (.Compare a [op, op'] [b, c] pos) (rB (rChn g1 g2 fa fb fc)) := PT.imp (pt_chain ho ho' ha hb hc hm) (test_r (chn_r h1 h2))
end

/-! ### slices -/
def partD (f : Option RE) : Env' → Hs → Option (Option Int) := fun δ G => match f with
  | none => some none
  | some f => (f δ G).bind fun x => match x with
    | .int i => some (some i)
    | _ => none
def cutD (ds : List D) (lo hi : Option Int) : List D := (ds.drop (HT.sIx ds.length 0 lo)).take (HT.sIx ds.length ds.length hi - HT.sIx ds.length 0 lo)
def slD (G : Hs) (d : D) (lo hi : Option Int) : Option D := match d with
  | .tup ds => some (.tup (cutD ds lo hi))
  | _ => (lstG G d).bind fun ds => some (.fl (cutD ds lo hi))
def lP (K : FK) (f : Env' → Hs → Option (Option Int)) : TO := fun σ H Q => ∃ δ G γ o, Sx K H δ G σ γ ∧ f δ G = some o ∧ ∀ H', Same H H' → Q o H'
abbrev DP (X : Cx) (e : Option Expr) (f : Env' → Hs → Option (Option Int)) : Prop := PO X e (lP X.F f)
theorem PO.imp {X : Cx} {e : Option Expr} {t t' : TO} (h : PO X e t) (i : ∀ σ H Q, t' σ H Q → t σ H Q) : PO X e t' := ⟨fun pins s σ H Q I q => h.run pins s σ H Q I (i σ H Q q)⟩
def rSl (fa : RE) (fl fh : Env' → Hs → Option (Option Int)) : RE := fun δ G => (fa δ G).bind fun x => (fl δ G).bind fun l => (fh δ G).bind fun h => slD G x l h
section
variable {X : Cx} {a e : Expr} {lo hi : Option Expr} {fa : RE} {fl fh : Env' → Hs → Option (Option Int)} {pos p2 : Pos}
theorem dp_none : DP X none (partD none) := PO.imp po_none fun σ H Q ⟨δ, G, γ, o, S, ef, q⟩ => by
  cases ef
  exact q H (Same.refl H)
theorem dp_some (h : DR X e fa) : DP X (some e) (partD (some fa)) := PO.imp (po_some h) fun σ H Q ⟨δ, G, γ, o, S, ef, q⟩ => by
  simp only [partD, Option.bind_eq_some_iff] at ef
  obtain ⟨x, e1, e2⟩ := ef
  split at e2
  · cases e2
    refine ⟨δ, G, γ, _, S, e1, fun v H1 s1 r1 => ?_⟩
    simp only [R] at r1
    exact ⟨_, r1, q H1 s1⟩
  · cases e2
theorem cut_rs {K : FK} {γ : List Addr} {H : Hp} {ds : List D} {vs : List V} (h : Rs K γ H ds vs) (lo hi : Option Int) : Rs K γ H (cutD ds lo hi) (cutV vs lo hi) := by
  unfold cutD cutV
  rw [h.length]
  exact (h.drop _).take _
theorem dr_sl_t (he : DR X a fa) (hl : DP X lo fl) (hu : DP X hi fh) : DR X (.Subscript a (.Slice lo hi none p2) pos) (fun δ G => (fa δ G).bind fun x => (fl δ G).bind fun l => (fh δ G).bind fun h => match x with
    | .tup ds => some (.tup (cutD ds l h))
    | _ => none) := PE.imp (pe_slice sl_tupA he hl hu) fun σ H Q ⟨δ, G, γ, d, S, ef, q⟩ => by
  simp only [Option.bind_eq_some_iff] at ef
  obtain ⟨x, e1, l, e2, h, e3, e4⟩ := ef
  split at e4
  · rename_i ds
    cases e4
    refine ⟨δ, G, γ, _, S, e1, fun v H1 s1 r1 => ⟨δ, G, γ, l, S.same s1, e2, fun H2 s2 => ⟨δ, G, γ, h, (S.same s1).same s2, e3, fun H3 s3 => ?_⟩⟩⟩
    have s13 := s1.trans (s2.trans s3)
    have r3 := R.same s3 (R.same s2 r1)
    have r3' := r3
    simp only [R] at r3
    obtain ⟨p, vs, rfl, h1, h2⟩ := r3
    refine ⟨p, vs, rfl, h1, fun z => ?_, fun _ t ht => ?_⟩
    · have : cutD ds l h = ds := by
        unfold cutD
        rw [h2.length, z.1, z.2, ← h2.length]
        simp
      rw [this] at q
      exact q _ H3 s13 r3'
    · obtain ⟨s4, r4⟩ := new_tup ht (cut_rs h2 l h)
      exact q _ _ (s13.trans s4) r4
  · cases e4
theorem dr_sl_l (he : DR X a fa) (hl : DP X lo fl) (hu : DP X hi fh) : DR X (.Subscript a (.Slice lo hi none p2) pos) (fun δ G => (fa δ G).bind fun x => (fl δ G).bind fun l => (fh δ G).bind fun h => (lstG G x).bind fun ds => some (.fl (cutD ds l h))) := PE.imp (pe_frz (pe_slice sl_list he hl hu)) fun σ H Q ⟨δ, G, γ, d, S, ef, q⟩ => by
  simp only [Option.bind_eq_some_iff, Option.some.injEq] at ef
  obtain ⟨x, e1, l, e2, h, e3, ds, e4, rfl⟩ := ef
  refine ⟨δ, G, γ, _, S, e1, fun v H1 s1 r1 => ⟨δ, G, γ, l, S.same s1, e2, fun H2 s2 => ⟨δ, G, γ, h, (S.same s1).same s2, e3, fun H3 s3 => ?_⟩⟩⟩
  have s13 := s1.trans (s2.trans s3)
  obtain ⟨p, vs, rfl, h1, h2⟩ := lstG_ok (S.same s13).toRo (R.same s3 (R.same s2 r1)) e4
  exact ⟨p, vs, rfl, .inl h1, fun t ht => frz_end ht (cut_rs h2 l h) fun v H4 s4 r4 => q v H4 (s13.trans s4) r4⟩
/-- xs[::-1] of a list -/
def rRevL (fa : RE) : RE := fun δ G => (fa δ G).bind fun x => (lstG G x).bind fun ds => some (.fl ds.reverse)
theorem dr_revL {k : Nat} {p1 p3 : Pos} (he : DR X a fa) : DR X (.Subscript a (.Slice none none (some (.UnaryOp .USub (.Constant (.int 1) k p1) p2)) p3) pos) (rRevL fa) := PE.imp (pe_frz (pe_revL he)) fun σ H Q ⟨δ, G, γ, d, S, ef, q⟩ => by
  simp only [rRevL, Option.bind_eq_some_iff, Option.some.injEq] at ef
  obtain ⟨x, e1, ds, e2, rfl⟩ := ef
  refine ⟨δ, G, γ, x, S, e1, fun v H1 s1 r1 => ?_⟩
  obtain ⟨p, vs, rfl, h1, h2⟩ := lstG_ok (S.same s1).toRo r1 e2
  exact ⟨p, vs, rfl, .inl h1, fun t ht => frz_end ht h2.reverse fun v H4 s4 r4 => q v H4 (s1.trans s4) r4⟩
/-- .. as a root -/
def eRevL (fa : RE) : EE := fun δ G => (fa δ G).bind fun x => (lstG G x).bind fun ds => some (.rf G.length, G ++ [.lst ds.reverse])
theorem de_revL {k : Nat} {p1 p3 : Pos} (he : DR X a fa) : DE X (.Subscript a (.Slice none none (some (.UnaryOp .USub (.Constant (.int 1) k p1) p2)) p3) pos) (eRevL fa) := PE.imp (pe_revL he) fun σ H Q ⟨δ, G, γ, d, G', S, ef, q⟩ => by
  simp only [eRevL, Option.bind_eq_some_iff, Option.some.injEq, Prod.mk.injEq] at ef
  obtain ⟨x, e1, ds, e2, rfl, rfl⟩ := ef
  refine ⟨δ, G, γ, x, S, e1, fun v H1 s1 r1 => ?_⟩
  obtain ⟨p, vs, rfl, h1, h2⟩ := lstG_ok (S.same s1).toRo r1 e2
  refine ⟨p, vs, rfl, .inl h1, fun t ht => ?_⟩
  obtain ⟨a2, S2, r2⟩ := (S.same s1).push ht h2.reverse
  exact q _ _ _ ((Aft.of_same s1).trans a2) S2 r2
/-- list(range(..)) -/
def rgL (f : List D → Option (List D)) (fs : RA) : EE := fun δ G => (fs δ G).bind fun ds => (f ds).bind fun xs => some (.rf G.length, G ++ [.lst xs])
theorem rs_range {K : FK} {γ : List Addr} {H : Hp} (a b : Int) : Rs K γ H (rangeD a (b - a).toNat) (rgV a b) := by
  refine Rs.mk (by simp [rangeD, rgV]) fun i d v e1 e2 => ?_
  unfold rangeD at e1
  unfold rgV at e2
  simp only [List.getElem?_map, Option.map_eq_some_iff] at e1 e2
  obtain ⟨j, h1, rfl⟩ := e1
  obtain ⟨j', h2, rfl⟩ := e2
  rw [h1] at h2
  cases h2
  simp only [R]
theorem de_listRg1 {p q : Pos} {a : Expr} {fa : RE} (hc : X.calm = true) (ha : DR X a fa) (hm : X.mg "list" = none) (hm2 : X.mg "range" = none) (hg : Gl X "list" := by rfl) (hg2 : Gl X "range" := by rfl)
    (na : starEach [a] X.env = (false, eval a X.env) :: starEach [] X.env := by rfl) (na2 : starEach [.Call (.Name "range" q) [a] [] p2] X.env = (false, eval (.Call (.Name "range" q) [a] [] p2) X.env) :: starEach [] X.env := by rfl) :
    DE X (.Call (.Name "list" p) [.Call (.Name "range" q) [a] [] p2] [] pos) (rgL rng1 (rCons fa rNil)) := PE.imp (pe_listRg hc hg hm (prg_1 hg2 hm2 ha na) na2) fun σ H Q ⟨δ, G, γ, d, G', S, ef, q⟩ => by
  simp only [rgL, rCons, rNil, Option.bind_eq_some_iff, Option.some.injEq, Prod.mk.injEq] at ef
  obtain ⟨ds, ⟨x, e1, xs, rfl, rfl⟩, ys, e3, rfl, rfl⟩ := ef
  unfold rng1 at e3
  split at e3
  case h_2 => cases e3
  rename_i j hj
  have hx : x = .int j := by simpa using hj
  subst hx
  split at e3
  case isFalse => cases e3
  rename_i hb
  cases e3
  refine ⟨δ, G, γ, _, S, e1, fun v H1 s1 r1 => ?_⟩
  simp only [R] at r1
  refine ⟨j, r1, ⟨by omega, by omega, by omega, by omega, by omega⟩, fun t ht => ?_⟩
  have := rs_range (K := X.F) (γ := γ) (H := H1) 0 j
  rw [Int.sub_zero] at this
  obtain ⟨a2, S2, r2⟩ := (S.same s1).push ht this
  exact q _ _ _ ((Aft.of_same s1).trans a2) S2 r2
end

/-! ### attributes of frozen instances -/
def rAttr (f : Str) (fa : RE) : RE := fun δ G => (fa δ G).bind fun x => match x with
  | .obj _ ns ds => (ns.zip ds).lookup f
  | _ => none
theorem zip_mem {α : Type} {f : Str} {d : α} : ∀ {ns : List Str} {ds : List α}, (ns.zip ds).lookup f = some d → f ∈ ns
  | [], _, e => by simp at e
  | _ :: _, [], e => by simp at e
  | n :: ns, x :: ds, e => by
    rw [List.zip_cons_cons, List.lookup_cons] at e
    cases hf : f == n with
    | true => exact List.mem_cons.mpr (.inl (eq_of_beq hf))
    | false =>
      rw [hf] at e
      exact List.mem_cons_of_mem _ (zip_mem e)
theorem zip_lookup {K : FK} {γ : List Addr} {H : Hp} {f : Str} : ∀ {ns : List Str} {ds : List D} {vs : List V} {d : D}, Rs K γ H ds vs → (ns.zip ds).lookup f = some d → ∃ v, (ns.zip vs).lookup f = some v ∧ R K γ H d v
  | [], ds, vs, d, _, e => by simp at e
  | n :: ns, [], vs, d, _, e => by simp at e
  | n :: ns, x :: ds, vs, d, r, e => by
    obtain ⟨v, r', rfl, h1, h2⟩ := r.of_cons
    rw [List.zip_cons_cons, List.lookup_cons] at e ⊢
    cases hf : f == n with
    | true =>
      rw [hf] at e
      cases e
      exact ⟨v, rfl, h1⟩
    | false =>
      rw [hf] at e
      exact zip_lookup h2 e
section
variable {X : Cx} {a : Expr} {f : Str} {fa : RE} {pos : Pos}
theorem dr_attr (ha : DR X a fa) (hb : attributeBase a f X.env (eval a X.env) = eval a X.env := by rfl) :
    DR X (.Attribute a f pos) (rAttr f fa) := PE.imp (pe_fld ha hb) fun σ H Q ⟨δ, G, γ, d, S, ef, q⟩ => by
  simp only [rAttr, Option.bind_eq_some_iff] at ef
  obtain ⟨x, e1, e2⟩ := ef
  split at e2
  · rename_i C ns ds
    refine ⟨δ, G, γ, _, S, e1, fun v H1 s1 r1 => ?_⟩
    simp only [R] at r1
    obtain ⟨p, dx, vs, C', rfl, h1, hc, h2⟩ := r1
    obtain ⟨w, h3, h4⟩ := zip_lookup h2 e2
    exact ⟨p, C', dx, _, w, rfl, h1, hc.1.2.1, hc.1.2.2.1 f (zip_mem e2), h3, q w H1 s1 h4⟩
  · cases e2
end
end FL
namespace FL
open PySem PySem.Spec PyProof.Rows L2

/-! ### operators of more than one kind -/
def fOr (g1 g2 : Hs → D → D → Option D) : Hs → D → D → Option D := fun G x y => match g1 G x y with
  | some d => some d
  | none => g2 G x y
def rOr2 (r1 r2 : R2) : R2 := fun x y H Q => r1 x y H Q ∨ r2 x y H Q
theorem opr_or {X : Cx} {f : Value → Value → Sem Value} {r1 r2 : R2} (h1 : OpR X f r1) (h2 : OpR X f r2) : OpR X f (rOr2 r1 r2) := by
  intro pins s σ H x y v u Q I rx ry h
  rcases h with h | h
  · exact h1 pins s σ H x y v u Q I rx ry h
  · exact h2 pins s σ H x y v u Q I rx ry h
theorem opg_or {K : FK} {r1 r2 : R2} {g1 g2 : Hs → D → D → Option D} (h1 : OpG K r1 g1) (h2 : OpG K r2 g2) : OpG K (rOr2 r1 r2) (fOr g1 g2) := by
  intro G γ H dx dy d v u Q r rx ry e q
  unfold fOr at e
  split at e
  · rename_i d' e'
    cases e
    exact .inl (h1 G γ H dx dy d v u Q r rx ry e' q)
  · exact .inr (h2 G γ H dx dy d v u Q r rx ry e q)
/-- list * int, a new frozen list -/
def fRepL : Hs → D → D → Option D := fun G x y => match y with
  | .int k => (lstG G x).bind fun ds => if k < 1000000000 ∧ -1000000000 < k ∧ ds.length * k.toNat ≤ 10000000 then some (.fl (List.replicate k.toNat ds).flatten) else none
  | _ => none
section
variable {X : Cx}
theorem op_repR : OpR X (binaryOp .Mult) rRepR := by
  intro pins s σ H x y v u Q I rx ry h
  obtain ⟨l, k, xs, rfl, rfl, hH, h1, h2, hz, q⟩ := h
  cases rx
  obtain ⟨t, rfl⟩ := ry
  obtain ⟨z, its, n, r, hl, e⟩ := lstR I hH
  have hlen : its.toArray.size * k.toNat ≤ sizeLine := by rw [List.size_toArray, ← hl]; exact hz
  have hcap : ¬ its.toArray.size * k.toNat > (2 ^ 63 - 1) / 8 := by
    have : (sizeLine : Nat) ≤ (2 ^ 63 - 1) / 8 := by decide
    omega
  have hfit : ¬ (!Builtin.List.listFitsIndex k) = true := by
    rw [fitsIndex_both h1 h2]
    exact Bool.false_ne_true
  have hlong : ¬ Builtin.List.listTooLong (its.toArray.size * k.toNat) = true := by
    rw [notLongL hlen]
    exact Bool.false_ne_true
  have hnew : List.foldl (fun x1 x2 => x1 ++ x2) #[] (List.replicate (if its.toArray.isEmpty = true then 0 else k.toNat) its.toArray) = (List.replicate k.toNat its).flatten.toArray := by
    have f0 : ∀ m : Nat, List.foldl (fun x1 x2 => x1 ++ x2) #[] (List.replicate m its.toArray) = (List.replicate m its).flatten.toArray := fun m => by
      have := foldl_rep its m []
      rw [List.nil_append] at this
      exact this
    rw [f0]
    cases its with
    | nil => simp
    | cons a r' => rw [if_neg (by simp)]
  refine wpAny_binaryOp_repeat_ref (T := "list") (U := "int") (by decide) ⟨_, e, rfl⟩ (fun s' => typeIs_int s' k t) noFill_list_mul F.fills_int_mul F.slot_int_rmul repeat_list F.slot_int_index.lookup
    (call_meets F.slot_int_rmul (typeIs_int s k t) F.entry_int_rmul (F.args_int_rmul_2 _ _) (int___rmul___int_list k t l its.toArray n)
      ⟨e, rfl, ⟨_, e, rfl⟩, call_meets F.slot_list_mul ⟨_, e, rfl⟩ F.entry_list_mul (F.args_list_mul_2 _ _) (AutoListH.list___mul___list_int_3 l its.toArray n k t hfit hcap hlong) ⟨e, ?_⟩⟩)
  rw [hnew]
  exact ⟨.ref _, _, I.lnew (t' := s.toks) (r.rep k.toNat) (by rw [PyProof.Rows.lm_len_rep_flat, Nat.mul_comm]; exact hz), rfl, q _ I.fresh⟩
end
theorem fRepL_ok {K : FK} : OpG K (fun x y H Q => rRepR x y H fun v H1 => ∃ p vs, v = .ref p ∧ H1 p = some (.lst vs) ∧ ∀ od, Q v (upd H1 p (.frz od (.lst vs)))) fRepL := by
  intro G γ H dx dy d v u Q r rx ry e q
  unfold fRepL at e
  split at e
  case h_2 => cases e
  rename_i k
  obtain ⟨ds, e1, e2⟩ := Option.bind_eq_some_iff.mp e
  split at e2
  case isFalse => cases e2
  rename_i hl
  cases e2
  simp only [R] at ry
  subst ry
  obtain ⟨p, vs, rfl, h1, h2⟩ := lstG_ok r rx e1
  refine ⟨p, k, vs, rfl, rfl, h1, by omega, by omega, line7' (by rw [← h2.length]; exact hl.2.2), fun t ht => frz_end ht ?_ q⟩
  clear hl
  generalize k.toNat = n
  induction n with
  | zero => exact Rs.nil
  | succ n ih =>
    rw [List.replicate_succ, List.replicate_succ, List.flatten_cons, List.flatten_cons]
    exact h2.append ih
abbrev OpB (X : Cx) (f : Value → Value → Sem Value) (g : Hs → D → D → Option D) : Prop := ∃ r : R2, OpR X f r ∧ OpG X.F r g
theorem OpB.or {X : Cx} {f : Value → Value → Sem Value} {g1 g2 : Hs → D → D → Option D} (h1 : OpB X f g1) (h2 : OpB X f g2) : OpB X f (fOr g1 g2) := by
  obtain ⟨r1, a1, b1⟩ := h1
  obtain ⟨r2, a2, b2⟩ := h2
  exact ⟨_, opr_or a1 a2, opg_or b1 b2⟩
abbrev g_addA := fOr fAdd (fOr fCatT fCatL)
abbrev g_mulA := fOr fMul fRepL
abbrev g_sub := fSub
abbrev g_mod := fMod
abbrev g_div := fDiv
abbrev g_ltA := fOr fLt fLtD
abbrev g_le := fLe
abbrev g_gtA := fOr fGt fGtD
abbrev g_geA := fOr fGe fGeD
abbrev g_eq := fEq
abbrev g_ne := fNe
abbrev g_in_ := fIn false
abbrev g_nin := fIn true
abbrev g_isA := fOr fIs fIsN
abbrev g_isnA := fOr fIsNot fNotN
section
variable {X : Cx} {j : Nat}
theorem w_addA (hr : RoomG j X.A) : OpB X (binaryOp .Add) g_addA := .or ⟨_, o_add.1, o_add.2⟩ (.or ⟨_, op_catA, fCatT_ok⟩ ⟨_, opr_frz op_catR, fCatL_ok⟩)
theorem w_mulA (hr : RoomG j X.A) : OpB X (binaryOp .Mult) g_mulA := .or ⟨_, o_mul.1, o_mul.2⟩ ⟨_, opr_frz op_repR, fRepL_ok⟩
theorem w_sub (hr : RoomG j X.A) : OpB X (binaryOp .Sub) g_sub := ⟨_, o_sub.1, o_sub.2⟩
theorem w_mod (hr : RoomG j X.A) : OpB X (binaryOp .Mod) g_mod := ⟨_, o_mod.1, o_mod.2⟩
theorem w_div (hr : RoomG j X.A) : OpB X (binaryOp .FloorDiv) g_div := ⟨_, o_div.1, o_div.2⟩
theorem w_ltA (hr : RoomG j X.A) : OpB X (compareOp .Lt) g_ltA := .or ⟨_, o_lt.1, o_lt.2⟩ ⟨_, op_ltD (room64 hr.toRoom), fLtD_ok⟩
theorem w_le (hr : RoomG j X.A) : OpB X (compareOp .LtE) g_le := ⟨_, o_le.1, o_le.2⟩
theorem w_gtA (hr : RoomG j X.A) : OpB X (compareOp .Gt) g_gtA := .or ⟨_, o_gt.1, o_gt.2⟩ ⟨_, op_gtD (room64 hr.toRoom), fGtD_ok⟩
theorem w_geA (hr : RoomG j X.A) : OpB X (compareOp .GtE) g_geA := .or ⟨_, o_ge.1, o_ge.2⟩ ⟨_, op_geD (room64 hr.toRoom), fGeD_ok⟩
theorem w_eq (hr : RoomG j X.A) : OpB X (compareOp .Eq) g_eq := ⟨_, op_eqD (room64 hr.toRoom), fEq_ok⟩
theorem w_ne (hr : RoomG j X.A) : OpB X (compareOp .NotEq) g_ne := ⟨_, op_neD (room64 hr.toRoom), fNe_ok⟩
theorem w_in_ (hr : RoomG j X.A) : OpB X (compareOp .In) g_in_ := ⟨_, op_inX (room65 hr.toRoom), fIn_ok⟩
theorem w_nin (hr : RoomG j X.A) : OpB X (compareOp .NotIn) g_nin := ⟨_, op_notInX (room65 hr.toRoom), fIn_ok⟩
theorem w_isA (hr : RoomG j X.A) : OpB X (compareOp .Is) g_isA := .or ⟨_, op_is_bl, fIs_ok⟩ ⟨_, op_isN, fIsN_ok⟩
theorem w_isnA (hr : RoomG j X.A) : OpB X (compareOp .IsNot) g_isnA := .or ⟨_, op_isnot_bl, fIsNot_ok⟩ ⟨_, op_notN, fNotN_ok⟩
end
end FL
namespace FL
open PySem PySem.Spec PyProof.Rows L2

section
variable {X : Cx} {a b c e : Expr} {es rest : List Expr} {pos p2 : Pos} {fa fb fc : RE} {ga gb gc : EE} {fs : RA} {gs : EA}
/-! ### - int -/
def rNeg (fa : RE) : RE := fun δ G => (fa δ G).bind fun x => match x with
  | .int i => some (.int (-i))
  | _ => none
theorem dr_neg (ha : DR X a fa) : DR X (.UnaryOp .USub a pos) (rNeg fa) := PE.imp (pe_un un_neg ha) fun σ H Q ⟨δ, G, γ, d, S, ef, q⟩ => by
  simp only [rNeg, Option.bind_eq_some_iff] at ef
  obtain ⟨x, e1, e2⟩ := ef
  split at e2
  · cases e2
    refine ⟨δ, G, γ, _, S, e1, fun v H1 s1 r1 => ?_⟩
    simp only [R] at r1
    exact ⟨_, r1, q _ H1 s1 (by simp only [R])⟩
  · cases e2

/-! ### t[a:b:c] of a tuple -/
def stepL {α : Type} (xs : List α) (lo hi : Option Int) (st : Int) : List α := (List.range (Builtin.Slice.slicePlaces (Builtin.Slice.sliceAdjust lo hi st (xs.length : Int)).1 (Builtin.Slice.sliceAdjust lo hi st (xs.length : Int)).2 st)).filterMap fun (k : Nat) => xs[((Builtin.Slice.sliceAdjust lo hi st (xs.length : Int)).1 + (k : Int) * st).toNat]?
def stepC {α : Type} (xs : List α) (lo hi : Option Int) (st : Int) : Nat := Builtin.Slice.slicePlaces (Builtin.Slice.sliceAdjust lo hi st (xs.length : Int)).1 (Builtin.Slice.sliceAdjust lo hi st (xs.length : Int)).2 st
theorem stepL_len {α : Type} (xs : List α) (lo hi : Option Int) (st : Int) : (stepL xs lo hi st).length ≤ stepC xs lo hi st := by
  unfold stepL
  refine Nat.le_trans (List.length_filterMap_le _ _) ?_
  rw [List.length_range]
  exact Nat.le_refl _
theorem Rs.picks {K : FK} {γ : List Addr} {H : Hp} {ds : List D} {vs : List V} (h : Rs K γ H ds vs) (f : Nat → Nat) : ∀ ks : List Nat, Rs K γ H (ks.filterMap fun k => ds[f k]?) (ks.filterMap fun k => vs[f k]?)
  | [] => Rs.nil
  | k :: ks => by
    rw [List.filterMap_cons, List.filterMap_cons]
    cases hd : ds[f k]? with
    | none =>
      have : vs[f k]? = none := by
        rw [List.getElem?_eq_none_iff] at hd ⊢
        rw [← h.length]
        exact hd
      rw [this]
      exact Rs.picks h f ks
    | some d =>
      obtain ⟨v, e1, e2⟩ := h.get hd
      rw [e1]
      exact Rs.cons e2 (Rs.picks h f ks)
theorem step_rs {K : FK} {γ : List Addr} {H : Hp} {ds : List D} {vs : List V} (h : Rs K γ H ds vs) (lo hi : Option Int) (st : Int) : Rs K γ H (stepL ds lo hi st) (stepL vs lo hi st) := by
  unfold stepL
  rw [h.length]
  exact h.picks (fun k => ((Builtin.Slice.sliceAdjust lo hi st (vs.length : Int)).1 + (k : Int) * st).toNat) _
theorem vals_picks {vs : List V} {us : List Value} (h : Vals vs us) (f : Nat → Nat) : ∀ ks : List Nat, Vals (ks.filterMap fun k => vs[f k]?) (ks.filterMap fun k => us[f k]?)
  | [] => .nil
  | k :: ks => by
    rw [List.filterMap_cons, List.filterMap_cons]
    cases hd : vs[f k]? with
    | none =>
      have : us[f k]? = none := by
        rw [List.getElem?_eq_none_iff] at hd ⊢
        rw [← h.length]
        exact hd
      rw [this]
      exact vals_picks h f ks
    | some d =>
      obtain ⟨v, e1, e2⟩ := h.get hd
      rw [e1]
      exact .cons e2 (vals_picks h f ks)
section
variable {prog : Program} {w : World} {A : Around} {E : Value → Shared → Prop} {s : Shared}
theorem sliceApplied_st {sl : Addr} {vl vu vs : Value} {lo hi : Option Int} {st : Int} {n : Nat} {Q : Int × Int × Nat → Shared → Prop} (hs : s.heap.IsSliceOf sl vl vu vs) (pl : IsPart vl lo) (pu : IsPart vu hi) (ps : IsPart vs (some st)) (h0 : st ≠ 0)
    (h : Q ((Builtin.Slice.sliceAdjust lo hi st (n : Int)).1, st, Builtin.Slice.slicePlaces (Builtin.Slice.sliceAdjust lo hi st (n : Int)).1 (Builtin.Slice.sliceAdjust lo hi st (n : Int)).2 st) s) : wpAny (model prog w) A (Builtin.Slice.sliceApplied (.ref sl) (pure (n : Int))) Q E s := by
  obtain ⟨os, hos, hcs, hds⟩ := id hs
  unfold Builtin.Slice.sliceApplied Builtin.Slice.sliceFields
  refine wpAny_bind (wpAny_bind (wpAny_field hos hds (x := vl) rfl (wpAny_bind (wpAny_field hos hds (x := vu) rfl (wpAny_bind (wpAny_field hos hds (x := vs) rfl (wpAny_pure ?_)))))))
  refine wpAny_bind (HT.slicePart_ ps ?_)
  show wpAny _ _ (if (st == 0) = true then _ else _) _ _ s
  rw [if_neg (by simpa using h0)]
  refine wpAny_bind (HT.slicePart_ pl (wpAny_bind (HT.slicePart_ pu (wpAny_bind (wpAny_pure ?_)))))
  exact wpAny_pure h
theorem getItem_tuple_st {t sl : Addr} {items : Array Value} {vl vu vs : Value} {lo hi : Option Int} {st : Int} {Q : Value → Shared → Prop} (ht : IsTup s.heap t items) (hs : s.heap.IsSliceOf sl vl vu vs) (pl : IsPart vl lo) (pu : IsPart vu hi) (ps : IsPart vs (some st)) (h0 : st ≠ 0) (h1 : st ≠ 1)
    (hc : stepC items.toList lo hi st ≤ sizeLine)
    (h : Q (.ref s.heap.objs.size) { s with heap := s.heap.push { cls := .type "tuple", data := .seq (stepL items.toList lo hi st).toArray } }) : wpAny (model prog w) A (getItem (.ref t) (.ref sl)) Q E s := by
  have hsz : sizeOk (.seq (stepL items.toList lo hi st).toArray) := by
    show (stepL items.toList lo hi st).toArray.size ≤ sizeLine
    rw [List.size_toArray]
    exact Nat.le_trans (stepL_len _ _ _ _) hc
  obtain ⟨os, hos, hcs, hds⟩ := id hs
  have hTs : s.TypeIs (.ref sl) "slice" := ⟨os, hos, hcs⟩
  unfold getItem
  try with_reducible refine wpAny_holding ?_
  first | refine wpAny_bind (wpAny_pure ?_) | skip
  refine wpAny_bind (wpAny_sequenceKey ht.typeIs (by decide) ?_)
  refine wpAny_bind (wpAny_callSpecial?_slot (name := Str.ofString "__getitem__") ht.typeIs PyProof.Rows.slot_tuple_getitem
    (wpAny_call_entry PyProof.Rows.slot_tuple_getitem ht.typeIs entry_tuple_getitem ?_ (args_tuple_getitem _ _)))
  show wpAny _ _ (Builtin.Tuple.tupleItemsOf (.ref t) >>= _) _ _ s
  refine wpAny_bind (tupleItemsOf_ ht ?_)
  refine wpAny_bind (wpAny_typeOf hTs ?_)
  rw [if_pos (by decide)]
  refine wpAny_bind (sliceApplied_st hs pl pu ps h0 ?_)
  have hno : ∀ (u : Int) (m : Nat), ¬ ((u == 0 && st == 1 && m == items.size) = true) := fun u m => by
    have : (st == 1) = false := by simpa using h1
    rw [this]
    simp
  show wpAny _ _ (if ((Builtin.Slice.sliceAdjust lo hi st (items.size : Int)).1 == 0 && st == 1 && _ == items.size) = true then _ else _) _ _ s
  rw [if_neg (hno _ _)]
  have e : ((List.range (Builtin.Slice.slicePlaces (Builtin.Slice.sliceAdjust lo hi st (items.size : Int)).1 (Builtin.Slice.sliceAdjust lo hi st (items.size : Int)).2 st)).filterMap fun (k : Nat) => items[((Builtin.Slice.sliceAdjust lo hi st (items.size : Int)).1 + (k : Int) * st).toNat]?).toArray = (stepL items.toList lo hi st).toArray := by
    unfold stepL
    rw [Array.length_toList]
    simp only [Array.getElem?_toList]
  rw [e]
  first
    | exact wpAny_bind (m := Builtin.Tuple.tupleExact _) (wpAny_newObj_type (wpAny_pure ⟨_, rfl, wpAny_pure h⟩) hsz)
    | exact wpAny_bind (m := Builtin.Tuple.tupleExact _) (wpAny_newObj_type (wpAny_bind (wpAny_pure (wpAny_pure ⟨_, rfl, wpAny_pure h⟩))) hsz)
    | exact wpAny_bind (wpAny_bind (m := Builtin.Tuple.tupleExact _) (wpAny_newObj_type (wpAny_pure (wpAny_pure ⟨_, rfl, wpAny_pure h⟩)) hsz))
    | exact wpAny_bind (wpAny_bind (m := Builtin.Tuple.tupleExact _) (wpAny_newObj_type (wpAny_pure ⟨_, rfl, wpAny_pure h⟩) hsz))
end
def tSlT3 (K : FK) (te : TE) (tl th ts : TO) : TE := fun σ H Q => te σ H fun x H1 => tl σ H1 fun l H2 => th σ H2 fun u H3 => ts σ H3 fun o H4 => ∃ p xs st, x = .ref p ∧ SqT K H4 p xs ∧ o = some st ∧ st ≠ 0 ∧ st ≠ 1 ∧ stepC xs l u st ≤ sizeLine ∧ ∀ q, H4 q = none → Q (.ref q) (upd H4 q (.tup (stepL xs l u st)))
theorem pe_slT3 {lo hi : Option Expr} {st : Expr} {te : TE} {tl th ts : TO} (he : PE X e te) (hl : PO X lo tl) (hu : PO X hi th) (hs : PO X (some st) ts) : PE X (.Subscript e (.Slice lo hi (some st) p2) pos) (tSlT3 X.F te tl th ts) := by
  refine ⟨fun pins s σ H Q I h => ?_⟩
  refine Subscript_ (thn (he.run pins s σ H _ I h) fun v s1 ⟨x, H1, I1, r1, q1⟩ => ?_)
  refine wpAny_Slice (thn (hl.run pins s1 σ H1 _ I1 q1) fun vl s2 ⟨l, H2, I2, pl, q2⟩ => ?_)
  refine thn (hu.run pins s2 σ H2 _ I2 q2) fun vu s3 ⟨u, H3, I3, pu, q3⟩ => ?_
  refine thn (hs.run pins s3 σ H3 _ I3 q3) fun vs s4 ⟨o, H4, I4, ps, q4⟩ => ?_
  obtain ⟨p, xs, k, rfl, hx, rfl, h0, h1, hc, q⟩ := q4
  cases r1
  have I5 : Inv X pins σ H4 { s4 with heap := s4.heap.push { cls := .type "slice", data := .fields #[vl, vu, vs] } } := I4.kept (t' := s4.toks) fun b ob q => Heap.get?_push_of_some _ q
  obtain ⟨its, r, ht, hz⟩ := I5.tuple hx
  have hlen := r.length
  show wpAny (model X.prog X.w) X.A (subscriptTail e (.Slice lo hi (some st) p2) (.ref p) (.ref s4.heap.objs.size)) (EP X pins σ Q) X.xe { s4 with heap := s4.heap.push { cls := .type "slice", data := .fields #[vl, vu, vs] } }
  refine tail_any (ops := [.ref p, .ref s4.heap.objs.size]) ht.typeIs (PyProof.Rows.slot_tuple_getitem.lookup) ?_ (by with_unfolding_all rfl)
  have ec : stepC its l u k = stepC xs l u k := by
    unfold stepC
    rw [hlen]
  refine getItem_tuple_st ht (Heap.IsSliceOf.new _ vl vu vs) pl pu ps h0 h1 (by rw [List.toList_toArray, ec]; exact hc) ?_
  rw [List.toList_toArray]
  have rp : Vals (stepL xs l u k) (stepL its l u k) := by
    unfold stepL
    rw [hlen]
    exact vals_picks r (fun j => ((Builtin.Slice.sliceAdjust l u k (its.length : Int)).1 + (j : Int) * k).toNat) _
  refine ⟨.ref _, _, I5.laid (t' := s4.toks) (o := .tup (stepL xs l u k)) (fun b ob q => Heap.get?_push_of_some _ q) (Nat.le_refl _) ?_, rfl, q _ (I5.hok.fresh (Nat.le_refl _))⟩
  exact ⟨Nat.le_trans (stepL_len _ _ _ _) hc, _, rp, ⟨_, Heap.get?_push_size _ rfl, rfl, _, rfl⟩⟩
def rSt (fa : RE) (fl fh fs : Env' → Hs → Option (Option Int)) : RE := fun δ G => (fa δ G).bind fun x => (fl δ G).bind fun l => (fh δ G).bind fun h => (fs δ G).bind fun o => match x, o with
  | .tup ds, some st => if st ≠ 0 ∧ st ≠ 1 ∧ stepC ds l h st ≤ 10000000 then some (.tup (stepL ds l h st)) else none
  | _, _ => none
theorem dr_st {lo hi : Option Expr} {st : Expr} {fl fh fs : Env' → Hs → Option (Option Int)} (he : DR X a fa) (hl : DP X lo fl) (hu : DP X hi fh) (hs : DP X (some st) fs) : DR X (.Subscript a (.Slice lo hi (some st) p2) pos) (rSt fa fl fh fs) := PE.imp (pe_slT3 he hl hu hs) fun σ H Q ⟨δ, G, γ, d, S, ef, q⟩ => by
  simp only [rSt, Option.bind_eq_some_iff] at ef
  obtain ⟨x, e1, l, e2, h, e3, o, e4, e5⟩ := ef
  split at e5
  case h_2 => cases e5
  rename_i ds st' 
  split at e5
  case isFalse => cases e5
  rename_i hc
  cases e5
  refine ⟨δ, G, γ, _, S, e1, fun v H1 s1 r1 => ⟨δ, G, γ, l, S.same s1, e2, fun H2 s2 => ⟨δ, G, γ, h, (S.same s1).same s2, e3, fun H3 s3 => ⟨δ, G, γ, _, ((S.same s1).same s2).same s3, e4, fun H4 s4 => ?_⟩⟩⟩⟩
  have s14 := s1.trans (s2.trans (s3.trans s4))
  have r4 := R.same s4 (R.same s3 (R.same s2 r1))
  simp only [R] at r4
  obtain ⟨p, vs, rfl, h1, h2⟩ := r4
  refine ⟨p, vs, st', rfl, h1, rfl, hc.1, hc.2.1, ?_, fun t ht => ?_⟩
  · have : stepC vs l h st' = stepC ds l h st' := by
      unfold stepC
      rw [h2.length]
    rw [this]
    exact line7' hc.2.2
  · obtain ⟨s5, r5⟩ := new_tup ht (step_rs h2 l h st')
    exact q _ _ (s14.trans s5) r5
def rSlT (fa : RE) (fl fh : Env' → Hs → Option (Option Int)) : RE := fun δ G => (fa δ G).bind fun x => (fl δ G).bind fun l => (fh δ G).bind fun h => match x with
    | .tup ds => some (.tup (cutD ds l h))
    | _ => none
theorem dr_slT {lo hi : Option Expr} {fl fh : Env' → Hs → Option (Option Int)} (he : DR X a fa) (hl : DP X lo fl) (hu : DP X hi fh) : DR X (.Subscript a (.Slice lo hi none p2) pos) (rSlT fa fl fh) := dr_sl_t he hl hu
def rSlL (fa : RE) (fl fh : Env' → Hs → Option (Option Int)) : RE := fun δ G => (fa δ G).bind fun x => (fl δ G).bind fun l => (fh δ G).bind fun h => (lstG G x).bind fun ds => some (.fl (cutD ds l h))
theorem dr_slL {lo hi : Option Expr} {fl fh : Env' → Hs → Option (Option Int)} (he : DR X a fa) (hl : DP X lo fl) (hu : DP X hi fh) : DR X (.Subscript a (.Slice lo hi none p2) pos) (rSlL fa fl fh) := dr_sl_l he hl hu
end
end FL
namespace FL
open PySem PySem.Spec PyProof.Rows L2

section
variable {X : Cx} {a b c e tg iter elt : Expr} {ifs : List Expr} {scope : Scope} {es rest : List Expr} {pos spos py : Pos} {fa fb fc : RE} {ga gb gc : EE} {fs : RA} {gs : EA} {st : Stmt} {i : Nat} {t : TE} {p : Bool}
/-! ### range(i, j, c) -/
def rangeS (lo c : Int) (n : Nat) : List D := (List.range n).map fun i => .int (lo + (i : Nat) * c)
def rng3 : List D → Option (List D)
  | [.int i, .int j, .int c] => if c ≠ 0 ∧ c.natAbs < 1073741824 ∧ Builtin.Range.small i j c = true ∧ 0 ≤ Builtin.Range.rangeSize i j c then some (rangeS i c (Builtin.Range.rangeSize i j c).toNat) else none
  | _ => none
theorem itOk_rangeC {K : FK} {γ : List Addr} {H : Hp} {p : Bool} (lo c : Int) (n : Nat) : ItOk K p γ (rangeS lo c n) (Itc lo c n) H := by
  intro H1 s i
  unfold rangeS
  refine ⟨fun hi => (by simpa using hi : i < n), fun hi => (by simpa using hi : n ≤ i), fun hlt x H2 y => ?_⟩
  obtain ⟨rfl, rfl⟩ := y
  refine ⟨Same.refl _, ?_⟩
  have hi : i < n := by simpa using hlt
  exact ⟨.int (lo + i * c), by simp [hi], by simp only [R]⟩
theorem dir_rng3 {q : Pos} (ha : DRA X [a, b, c] fs) (hm : X.mg "range" = none) (hg : Gl X "range" := by rfl)
    (hs : starEach [a, b, c] X.env = (false, eval a X.env) :: starEach [b, c] X.env := by rfl) (hpl : (backTo pos (starEach [b, c] X.env)).any (·.1) = false := by rfl) :
    DIR X p tg (.Call (.Name "range" q) [a, b, c] [] pos) (iRgR rng3 fs) := PI.imp (pi_range3 hg hm ha hs hpl) fun σ H Q ⟨δ, G, γ, ds, S, ef, q⟩ => by
  obtain ⟨xs, e1, e2⟩ := Option.bind_eq_some_iff.mp ef
  refine ⟨δ, G, γ, xs, S, e1, fun vs H1 s1 r1 => ?_⟩
  unfold rng3 at e2
  split at e2
  case h_2 => cases e2
  rename_i i j k
  split at e2
  case isFalse => cases e2
  rename_i hc
  cases e2
  obtain ⟨v, r', rfl, h1, h2⟩ := r1.of_cons
  obtain ⟨v2, v3, rfl, h3, h4⟩ := h2.two
  simp only [R] at h1 h3 h4
  subst h1 h3 h4
  exact ⟨i, j, k, _, rfl, ⟨hc.1, hc.2.1, hc.2.2.1, (Int.toNat_of_nonneg hc.2.2.2).symm⟩, q _ H1 s1 (itOk_rangeC i k _)⟩

/-! ### name = [..] on one line -/
def tFrzI (i : Nat) (t : TS) : TS := fun D σ H => t { D with nx := fun σ' H' => ∃ p vs, σ'[i]? = some (some (.ref p)) ∧ H' p = some (.lst vs) ∧ ∀ od, D.nx σ' (upd H' p (.frz od (.lst vs))) } σ H
theorem ps_frzI {t : TS} (h : PS X st t) : PS X st (tFrzI i t) := by
  refine ⟨fun pins s σ H D I hw => ?_⟩
  refine thn (h.run pins s σ H _ I hw) fun f s1 q => ?_
  cases f with
  | next =>
    obtain ⟨σ', H', I1, p, vs, _, hp, q⟩ := q
    obtain ⟨od, I2⟩ := I1.lock hp True.intro
    exact ⟨σ', _, I2, q od⟩
  | brk => exact q
  | cont => exact q
  | ret u => exact q
theorem ds_setE (himp : ∀ σ H Q, lE X.F ga σ H Q → t σ H Q) (h : PS X st (tAsg t (gName i))) : DS X st (sAsg ga (setN i)) := PS.imp h fun D σ H hh => himp σ H _ (asg_e (gg_name i) D σ H hh)
theorem ds_setF (himp : ∀ σ H Q, lE X.F ga σ H Q → tFrz t σ H Q) (h : PS X st (tAsg t (gName i))) : DS X st (sAsg ga (setN i)) := PS.imp (ps_frzI (i := i) h) fun D σ H hh => by
  have hl : i < σ.length := by
    obtain ⟨δ, G, γ, k, δ', G', S, ef, q⟩ := hh
    simp only [sAsg, Option.bind_eq_some_iff, Option.some.injEq, Prod.mk.injEq] at ef
    obtain ⟨⟨d, G1⟩, e1, δ1, e2, rfl, rfl, rfl⟩ := ef
    unfold setN at e2
    split at e2
    · rw [← S.dl]; assumption
    · cases e2
  have h2 : lE X.F ga σ H (fun v H1 => D.nx (σ.set i (some v)) H1) := asg_e (gg_name i) D σ H hh
  have h3 := himp σ H _ h2
  have e : (fun (x : V) (H1 : Hp) => gName i x σ H1 (fun σ' H' => ∃ p vs, σ'[i]? = some (some (.ref p)) ∧ H' p = some (.lst vs) ∧ ∀ od, D.nx σ' (upd H' p (.frz od (.lst vs))))) =
      fun v H1 => ∃ p vs, v = V.ref p ∧ H1 p = some (.lst vs) ∧ ∀ od, D.nx (σ.set i (some v)) (upd H1 p (.frz od (.lst vs))) := by
    funext x H1
    show (∃ p vs, (σ.set i (some x))[i]? = some (some (V.ref p)) ∧ H1 p = some (HO.lst vs) ∧ ∀ od, D.nx (σ.set i (some x)) (upd H1 p (.frz od (.lst vs)))) = _
    rw [List.getElem?_set_self hl]
    apply propext
    constructor
    · rintro ⟨p, vs, e, h⟩
      simp only [Option.some.injEq] at e
      exact ⟨p, vs, e, h⟩
    · rintro ⟨p, vs, e, h⟩
      exact ⟨p, vs, by rw [e], h⟩
  show t σ H _
  rw [e]
  exact h3
theorem lE_ofR {K : FK} {σ : L2.St} {H : Hp} {Q : VK} (h : lE K (ofR fa) σ H Q) : lR K fa σ H Q := by
  obtain ⟨δ, G, γ, d, G', S, ef, q⟩ := h
  simp only [ofR, Option.bind_eq_some_iff, Option.some.injEq, Prod.mk.injEq] at ef
  obtain ⟨d', e1, e2, e3⟩ := ef
  subst e2 e3
  exact ⟨δ, G, γ, d', S, e1, fun v H' s r => q v H' γ (Aft.of_same s) (S.same s) r⟩
section
variable {set : Sets} {g : TG} {is : List Nat} {y : Str}
theorem ds_setLcR (i : Nat) {src : RA} {cond : RT} {fe : RE} (own : List (Str × Nat)) (hc : X.calm = true) (hN : X.N.Nodup) (hi : DIR X true tg iter src) (ok : BlkOk X.N X.env.scope scope own)
    (hp : ∀ (s : Shared) (H : Hp) (C : Addr) (cl : List (Str × Addr)) (fp : List Addr), PG (X.blk s H scope (compEnvC scope cl C X.env) fp) tg g) (hg : GG X.F g set is)
    (ht : ∀ (s : Shared) (H : Hp) (C : Addr) (cl : List (Str × Addr)) (fp : List Addr), DRTs (X.blk s H scope (compEnvC scope cl C X.env) fp) ifs cond)
    (he : ∀ (s : Shared) (H : Hp) (C : Addr) (cl : List (Str × Addr)) (fp : List Addr), DR (X.blk s H scope (compEnvC scope cl C X.env) fp) elt fe)
    (hv : ∀ i ∈ is, i ∈ own.map (·.2) := by decide) (hs : ∀ x, foldedSetIterable iter X.env x = pure x := by intro _; rfl)
    (hy : X.N[i]? = some y := by rfl) (hyl : X.env.scope.names.lookup y = some .local := by rfl) (hsw : swapsWith (.ListComp elt [⟨tg, iter, ifs, 0⟩] scope pos) (some (.Name y py)) spos.line X.env = pure true := by rfl) :
    DS X (.Assign [.Name y py] (.ListComp elt [⟨tg, iter, ifs, 0⟩] scope pos) spos) (sAsg (ofR (rLc src set cond fe (own.map (·.2)))) (setN i)) :=
  ds_setF (fun σ H Q h => lc_r hg hv σ H Q (lE_ofR h)) (ps_setLc hc hN hy hyl hsw hi ok hp ht he hs)
theorem ds_setLcE (i : Nat) {src : EA} {cond : ET} {fe : EE} (own : List (Str × Nat)) (hc : X.calm = true) (hN : X.N.Nodup) (hi : DI X false tg iter src) (ok : BlkOk X.N X.env.scope scope own)
    (hp : ∀ (s : Shared) (H : Hp) (C : Addr) (cl : List (Str × Addr)) (fp : List Addr), PG (X.blk s H scope (compEnvC scope cl C X.env) fp) tg g) (hg : GG X.F g set is)
    (ht : ∀ (s : Shared) (H : Hp) (C : Addr) (cl : List (Str × Addr)) (fp : List Addr), DETs (X.blk s H scope (compEnvC scope cl C X.env) fp) ifs cond)
    (he : ∀ (s : Shared) (H : Hp) (C : Addr) (cl : List (Str × Addr)) (fp : List Addr), DE (X.blk s H scope (compEnvC scope cl C X.env) fp) elt fe)
    (hv : ∀ i ∈ is, i ∈ own.map (·.2) := by decide) (hs : ∀ x, foldedSetIterable iter X.env x = pure x := by intro _; rfl)
    (hy : X.N[i]? = some y := by rfl) (hyl : X.env.scope.names.lookup y = some .local := by rfl) (hsw : swapsWith (.ListComp elt [⟨tg, iter, ifs, 0⟩] scope pos) (some (.Name y py)) spos.line X.env = pure true := by rfl) :
    DS X (.Assign [.Name y py] (.ListComp elt [⟨tg, iter, ifs, 0⟩] scope pos) spos) (sAsg (eLc src set cond fe (own.map (·.2))) (setN i)) :=
  ds_setF (fun σ H Q h => lc_e hg hv σ H Q h) (ps_setLc hc hN hy hyl hsw hi ok hp ht he hs)
theorem ds_setLcL (i : Nat) {src : EA} {cond : ET} {fe : EE} (own : List (Str × Nat)) (hc : X.calm = true) (hN : X.N.Nodup) (hi : DI X false tg iter src) (ok : BlkOk X.N X.env.scope scope own)
    (hp : ∀ (s : Shared) (H : Hp) (C : Addr) (cl : List (Str × Addr)) (fp : List Addr), PG (X.blk s H scope (compEnvC scope cl C X.env) fp) tg g) (hg : GG X.F g set is)
    (ht : ∀ (s : Shared) (H : Hp) (C : Addr) (cl : List (Str × Addr)) (fp : List Addr), DETs (X.blk s H scope (compEnvC scope cl C X.env) fp) ifs cond)
    (he : ∀ (s : Shared) (H : Hp) (C : Addr) (cl : List (Str × Addr)) (fp : List Addr), DE (X.blk s H scope (compEnvC scope cl C X.env) fp) elt fe)
    (hv : ∀ i ∈ is, i ∈ own.map (·.2) := by decide) (hs : ∀ x, foldedSetIterable iter X.env x = pure x := by intro _; rfl)
    (hy : X.N[i]? = some y := by rfl) (hyl : X.env.scope.names.lookup y = some .local := by rfl) (hsw : swapsWith (.ListComp elt [⟨tg, iter, ifs, 0⟩] scope pos) (some (.Name y py)) spos.line X.env = pure true := by rfl) :
    DS X (.Assign [.Name y py] (.ListComp elt [⟨tg, iter, ifs, 0⟩] scope pos) spos) (sAsg (eLcL src set cond fe (own.map (·.2))) (setN i)) :=
  ds_setE (fun σ H Q h => lc_l hg hv σ H Q h) (ps_setLc hc hN hy hyl hsw hi ok hp ht he hs)
end

/-! ### what is never run -/
def sNever : SS := fun _ _ => none
theorem ps_never : PS X st (fun _ _ _ => False) := ⟨fun _ _ _ _ _ _ h => h.elim⟩
theorem ds_never : DS X st sNever := PS.imp ps_never fun D σ H ⟨δ, G, γ, k, δ', G', S, ef, q⟩ => by cases ef

/-! ### list(..) as a root -/
def eListR (fa : RE) : EE := fun δ G => (fa δ G).bind fun x => (seqG G x).bind fun ds => some (.rf G.length, G ++ [.lst ds])
theorem de_listR {np : Pos} (ha : DR X a fa) (hm : X.mg "list" = none) (hg : Gl X "list" := by rfl) (hs : starEach [a] X.env = (false, eval a X.env) :: starEach [] X.env := by rfl) :
    DE X (.Call (.Name "list" np) [a] [] pos) (eListR fa) := PE.imp (pe_callTy call_list_of hg hm (by decide +kernel) (pa_cons ha pa_nil hs) (by decide) (by decide) hs rfl) fun σ H Q ⟨δ, G, γ, d, G', S, ef, q⟩ => by
  simp only [eListR, Option.bind_eq_some_iff, Option.some.injEq, Prod.mk.injEq] at ef
  obtain ⟨x, e1, ds, e2, rfl, rfl⟩ := ef
  refine ⟨δ, G, γ, x, S, e1, fun v H1 s1 r1 => ?_⟩
  obtain ⟨p, vs, rfl, h1, h2⟩ := seqG_ok (S.same s1).toRo r1 e2
  refine ⟨p, vs, rfl, h1.imp (fun z => .inl z) id, fun l hl => ?_⟩
  obtain ⟨a2, S2, r2⟩ := (S.same s1).push hl h2
  exact q _ _ _ ((Aft.of_same s1).trans a2) S2 r2

/-! ### repr -/
def rRepr (K : FK) : List V → Hp → VK → Prop := fun xs H Q => ∃ x d, xs = [x] ∧ Dp K H x d ∧ d.showable = true ∧ d.shown.length ≤ sizeLine ∧ d.depth ≤ 60 ∧ d.hasDict = false ∧ Q (.str d.shown) H
theorem call_reprD {j : Nat} (hr : RoomG j X.A) : CallR X (.builtin "repr") (rRepr X.F) := by
  intro pins s σ H xs us Q I r h
  obtain ⟨x, d, rfl, hd, hs, hz, hp, hn, q⟩ := h
  obtain ⟨u, rfl, ru⟩ := vals1 r
  obtain ⟨as, rd⟩ := Dp.reads I d x u hd ru
  have hu := hr.un
  cases rd with
  | none => exact PySem.P.repr_of_none ⟨.str _, H, I.tok _, ⟨_, rfl⟩, q⟩
  | bool b => exact PySem.P.repr_of_bool ⟨.str _, H, I.tok _, ⟨_, rfl⟩, q⟩
  | int i t => exact PySem.P.repr_of_int (by simpa [PyData.showable] using hs) ⟨.str _, H, I.tok _, ⟨_, rfl⟩, q⟩
  | str x t => exact PySem.P.repr_of_str ⟨.str _, H, I.tok _, ⟨_, rfl⟩, q⟩ (by simpa only [PyData.shown] using hz)
  | list h1 h2 h3 h4 =>
    exact repr_of_reads' (.list h1 h2 h3 h4) hs (PyData.noDict_hsm hn) hr.gd (by omega) (fun _ _ e => e) (fun h' u tk hk => ⟨.str _, H, I.kept (t' := tk) hk, ⟨u, rfl⟩, q⟩) hz
  | tuple h1 h2 h3 h4 =>
    exact repr_of_reads' (.tuple h1 h2 h3 h4) hs (PyData.noDict_hsm hn) hr.gd (by omega) (fun _ _ e => e) (fun h' u tk hk => ⟨.str _, H, I.kept (t' := tk) hk, ⟨u, rfl⟩, q⟩) hz
  | dict h1 h2 h3 h4 h5 => simp [PyData.hasDict] at hn
mutual
def D.sh : D → Bool
  | .non => true | .bl _ => true | .str _ => true
  | .int i => decide (i.natAbs.log2 < 1920)
  | .tup ds => shs ds | .fl ds => shs ds
  | _ => false
def shs : List D → Bool
  | [] => true
  | d :: ds => d.sh && shs ds
end
mutual
theorem D.sh_ok : ∀ d : D, d.sh = true → d.py.showable = true
  | .non, _ => by simp only [D.py, PyData.showable]
  | .bl _, _ => by simp only [D.py, PyData.showable]
  | .str _, _ => by simp only [D.py, PyData.showable]
  | .int _, h => by simpa only [D.py, PyData.showable, D.sh] using h
  | .tup ds, h => by
    simp only [D.py, PyData.showable]
    exact shs_ok ds (by simpa only [D.sh] using h)
  | .fl ds, h => by
    simp only [D.py, PyData.showable]
    exact shs_ok ds (by simpa only [D.sh] using h)
  | .obj _ _ _, h => by simp only [D.sh] at h; cases h
  | .scr _, h => by simp only [D.sh] at h; cases h
  | .fd _ _, h => by simp only [D.sh] at h; cases h
  | .rf _, h => by simp only [D.sh] at h; cases h
theorem shs_ok : ∀ ds : List D, shs ds = true → PyData.showableAll (pys ds) = true
  | [], _ => by simp only [pys, PyData.showableAll]
  | d :: ds, h => by
    simp only [shs, Bool.and_eq_true] at h
    simp only [pys, PyData.showableAll, Bool.and_eq_true]
    exact ⟨D.sh_ok d h.1, shs_ok ds h.2⟩
end
def gRepr : Hs → List D → Option D := fun _ ds => match ds with
  | [d] => if d.ok = true ∧ d.sh = true ∧ d.dep ≤ 60 ∧ d.py.shown.length ≤ 10000000 then some (.str d.py.shown) else none
  | _ => none
theorem gRepr_ok {K : FK} : CallG K (rRepr K) gRepr := by
  intro G γ H ds d vs Q r rs e q
  unfold gRepr at e
  split at e
  · split at e
    · rename_i hc
      cases e
      obtain ⟨v, rfl, h⟩ := rs.one
      rename_i x
      have hd := D.depth x
      exact ⟨v, x.py, rfl, R.dp x v hc.1 h, x.sh_ok hc.2.1, line7' hc.2.2.2, by omega, PyData.hasDict_of_canLay _ (x.lay hc.1), q _ H (Same.refl H) (by simp only [R])⟩
    · cases e
  · cases e
end
end FL
namespace PySem
open Sem (wp)
open AutoSeq1 (wpAny_loadPart')
set_option maxHeartbeats 1000000 in
theorem meets_enumerate_newB1 {v : Value} {o : Obj} {H : Heap → Prop} (B : Begins v o H) :
    Meets (Builtin.«enumerate.__new__» ⟨[.type "enumerate", v], []⟩) (fun _ R s => H s.heap ∧
      R (.ok (.ret (.ref (s.heap.push o).objs.size))) { s with heap := (s.heap.push o).push { cls := .type "enumerate", data := .fields #[.none, .bool false, .ref s.heap.objs.size, rawInt 0, .none, .none] } }) :=
  .of_wp fun prog w A R s h => by
    obtain ⟨hp, g, d, tk, os⟩ := s; obtain ⟨h1, h⟩ := h
    have hsub := sub_enumerate
    have q1 : ∀ {A' : Around} {E : Value → Shared → Prop} {Q : Value → Shared → Prop}, Q (.ref hp.objs.size) ⟨hp.push o, g, d, tk, os⟩ → wpAny (model prog w) A' (pyIter v) Q E ⟨hp, g, d, tk, os⟩ :=
      fun q => B.iter prog w _ _ ⟨hp, g, d, tk, os⟩ _ h1 q
    wp_walk using q1
    refine wpAny_stack_any fun st => wpAny_pure ?_
    split
    · rename_i c _ _ _ _ _
      cases (c == Value.type "enumerate")
      · wp_walk using q1
        exact ⟨_, rfl, h⟩
      · wp_walk using q1
        exact ⟨_, rfl, h⟩
    · wp_walk using q1
      exact ⟨_, rfl, h⟩
section
variable {prog : Program} {w : World} {A : Around} {E : Value → Shared → Prop} {s : Shared}
theorem enum_begins1 {v : Value} {o : Obj} {H : Heap → Prop} {Q : Value → Shared → Prop} (B : Begins v o H) (h1 : H s.heap)
    (h : ∀ h', IsEnum h' (s.heap.objs.size + 1) s.heap.objs.size 0 .none → h'.get? s.heap.objs.size = some o → h'.objs.size = s.heap.objs.size + 2 →
      (∀ b o, s.heap.get? b = some o → h'.get? b = some o) → Q (.ref (s.heap.objs.size + 1)) { s with heap := h' }) :
    wpAny (model prog w) A (call (.type "enumerate") [v]) Q E s := by
  refine callType_new F.called_enumerate (by decide) (F.typeCall_enumerate_1 _) (F.newCall_enumerate_1 _) (fun obj => F.args_object_init_2 obj _) F.entry_enumerate_new
    (meets_enumerate_newB1 B) ⟨h1, ?_⟩
  have hz : (s.heap.push o).objs.size = s.heap.objs.size + 1 := Heap.size_push ..
  show _ ∧ _
  rw [hz]
  have he : IsEnum ((s.heap.push o).push { cls := .type "enumerate", data := .fields #[.none, .bool false, .ref s.heap.objs.size, rawInt 0, .none, .none] }) (s.heap.objs.size + 1) s.heap.objs.size 0 .none := by
    have := Heap.get?_push_size (s.heap.push o) (o := { cls := .type "enumerate", data := .fields #[.none, .bool false, .ref s.heap.objs.size, rawInt 0, .none, .none] }) rfl
    rw [hz] at this; exact this
  refine ⟨⟨_, he, rfl⟩, h _ he (Heap.get?_push_of_some _ (Heap.get?_push_size _ B.free)) (by rw [Heap.size_push, hz]) fun b o x => Heap.get?_push_of_some _ (Heap.get?_push_of_some _ x)⟩
end
end PySem
namespace FL
open PySem PySem.Spec PyProof.Rows L2
/-- the tuple at a, each item in a new pair with its number -/
def IteT (K : PySem.W.Frag) (a : Addr) : It :=
  ⟨fun i H => ∃ (xs : List V) (x : V), SqT K H a xs ∧ xs[i]? = some x, fun i H v H' => ∃ T x, v = .ref T ∧ H T = none ∧ H' = upd H T (.tup [.int (i : Nat), x]) ∧ ∀ xs, SqT K H a xs → xs[i]? = some x, fun i H => ∃ xs : List V, SqT K H a xs ∧ xs.length ≤ i⟩
theorem turn_enumT {P : Program} {w : World} {K : PySem.W.Frag} {elts : List Expr} {kk : Nat} {tpos : Pos} (a e it : Addr) :
    Turn P w K (.Tuple elts kk tpos) (IteT K a) [e, it] e (fun i h => (∃ old, IsEnum h e it ((i : Nat) : Int) old) ∧ h.IsTupleIter it a i ∧ e ≠ it) where
  mem := by simp
  obj := fun i h st b hb => by
    obtain ⟨⟨old, he⟩, ⟨o, ho, hc, hd⟩, _⟩ := st
    have e' : b = e ∨ b = it := by simpa using hb
    rcases e' with z | z
    · rw [z]; exact ⟨_, he, fun v q => nomatch q⟩
    · rw [z]; exact ⟨o, ho, fun v q => by rw [hd] at q; cases q⟩
  keep := fun i h h' st k => let ⟨⟨old, he⟩, hi, hne⟩ := st; ⟨⟨old, k e (by simp) _ he⟩, hi.at fun o q => k it (by simp) o q, hne⟩
  item := by
    intro X hP hw hK hc i pins s σ H E I hf st hg
    subst hP hw hK
    obtain ⟨⟨old, he⟩, hit, hne⟩ := st
    obtain ⟨xs, x, hq, hx⟩ := hg
    obtain ⟨its, rv, p, hz⟩ := I.tuple hq
    obtain ⟨u, hu, ru⟩ := rv.get hx
    have hel : e < s.heap.objs.size := Heap.lt_size he
    have hil : it < s.heap.objs.size := by obtain ⟨_, q, _⟩ := hit; exact Heap.lt_size q
    have hai : a ≠ it := fun z => by
      obtain ⟨o, q, c, _⟩ := hit
      obtain ⟨o', q', c', _⟩ := p
      rw [z, q] at q'
      cases q'
      rw [c] at c'
      exact absurd c' (by decide)
    have hea : e ∉ [it, a] := fun z => by
      have z' : e = it ∨ e = a := by simpa using z
      rcases z' with z | z
      · exact hne z
      · obtain ⟨o', q', c', _⟩ := p
        rw [← z] at q'
        have he' : s.heap.get? e = _ := he
        rw [he'] at q'
        cases q'
        have c2 : Value.type "enumerate" = Value.type "tuple" := c'
        exact absurd c2 (by decide)
    have hh : X.A.in1.handled = none := I.ok.hd hc
    refine wpAny_pyNext_enum_itemD (Draws.tuple hh it a hai its.toArray) he ⟨hit, p⟩ (by simpa using (List.getElem?_eq_some_iff.mp hu).1) hne hea fun x' h' tk hP ho st' hT hsz hk => ?_
    have ex : x' = u := by
      have hP' : its.toArray[i]? = some x' := hP
      rw [List.getElem?_toArray, hu] at hP'
      exact (Option.some.inj hP').symm
    subst ex
    refine ⟨_, rfl, wpAny_letOwnedTupleGo_enum (s := { s with heap := h', toks := tk + 1 }) ho fun h'' he' sb => ?_⟩
    have hT2 : h''.get? s.heap.objs.size = some { cls := .type "tuple", data := .seq #[.int i tk, x'] } := (sb.2 _ (Nat.ne_of_gt hel)).trans hT
    have new : ObjOk X.prog X.w (upd H s.heap.objs.size (.tup [.int (i : Nat), x])) h'' s.heap.objs.size (.tup [.int (i : Nat), x]) :=
      ⟨by show 2 ≤ sizeLine; decide, [.int i tk, x'], .cons ⟨_, rfl⟩ (.cons ru .nil), ⟨_, hT2, rfl, _, rfl⟩⟩
    have I1 : L2.Inv X pins σ (upd H s.heap.objs.size (.tup [.int (i : Nat), x])) { s with heap := h'', toks := tk + 1 } :=
      I.turnedNew (ch := [e, it]) (fun b ob hb q => (sb.2 b (fun z => hb (by simp [z]))).trans (hk b ob (fun z => hb (by simp [z])) (fun z => hb (by simp [z])) q)) hf (Nat.le_refl _) new
    refine ⟨.ref s.heap.objs.size, _, I1, rfl, ⟨_, x, rfl, I.hok.fresh (Nat.le_refl _), rfl, fun ys hy => ?_⟩, ⟨⟨x', ?_⟩, st'.1.at fun o q => (sb.2 it (Ne.symm hne)).trans q, hne⟩, fun b hb => ?_⟩
    · obtain ⟨its2, rv2, p2, hz2⟩ := I.tuple hy
      have : ys = xs := I.tuple_inj hy hq
      rw [this]; exact hx
    · have e1 : ((i + 1 : Nat) : Int) = (i : Int) + 1 := by omega
      rw [e1]; exact he'
    · have hb' : b < s.heap.objs.size := by
        have e' : b = e ∨ b = it := by simpa using hb
        rcases e' with z | z
        · rw [z]; exact hel
        · rw [z]; exact hil
      rw [upd_ne (Nat.ne_of_lt hb')]
      exact (hf b hb).1
  done := by
    intro X hP hw hK hc i pins s σ H E I hf st hg
    subst hP hw hK
    obtain ⟨⟨old, he⟩, hit, hne⟩ := st
    obtain ⟨xs, hq, hx⟩ := hg
    obtain ⟨its, rv, p, hz⟩ := I.tuple hq
    obtain ⟨f0, f1, f2, f3, f4, f5⟩ := hf it (by simp)
    have hl := rv.length
    have hh : X.A.in1.handled = none := I.ok.hd hc
    have hT : s.TypeIs (.ref e) "enumerate" := ⟨_, he, rfl⟩
    have hn : its.toArray[i]? = none := by
      rw [Array.getElem?_eq_none_iff, List.size_toArray]
      omega
    have fin : ∀ h', Heap.ExtBut it s.heap h' → L2.Inv X pins σ H { s with heap := h' } := fun h' eb => I.turned (t' := s.toks) (fun b o hb e => eb b o hb e) f0 f1 f3 f4 f5
    unfold pyNext
    refine wpAny_bind (wpAny_attempt (wpAny_callSpecial?_slot (name := Str.ofString "__next__") hT F.slot_enumerate_next
      (wpAny_call_entry F.slot_enumerate_next hT F.entry_enumerate_next ?_ (F.args_enumerate_next_1 _))))
    show wpAny _ _ (field (.ref e) 2 >>= _) _ _ _
    refine wpAny_bind (wpAny_field he rfl (x := .ref it) rfl ?_)
    refine wpAny_bind (wpAny_nextOf_tuple_end hh hit p hn fun h' x he' hx' => ?_)
    obtain ⟨o, ho, hcl⟩ := hx'
    refine wpAny_bind (wpAny_isInstance (T := "StopIteration") (b := true) ⟨o, ho, hcl⟩ isSubtype_stop ?_)
    exact wpAny_pure ⟨rfl, fin _ he'⟩
  self := fun A i s Q E st h => let ⟨⟨_, he⟩, _⟩ := st; wpAny_pyIter_enum he h
def iEnumT (K : PySem.W.Frag) (ta : TA) : TI := fun σ H R => ta σ H fun vs H1 => ∃ a xs, vs = [.ref a] ∧ SqT K H1 a xs ∧ R (IteT K a) H1
theorem pi_enumT {X : Cx} {e : Expr} {ta : TA} {p pos tpos : Pos} {elts : List Expr} {kk : Nat} (hg : Gl X "enumerate") (hm : X.mg "enumerate" = none) (ha : PA X [e] ta) (hs : starEach [e] X.env = [(false, eval e X.env)] := by rfl) :
    PI X (.Tuple elts kk tpos) (.Call (.Name "enumerate" p) [e] [] pos) (iEnumT X.F ta) := by
  refine ⟨fun pins s σ H R I h => ?_⟩
  refine Call_ (ld_blt I hg hm boot_enumerate (PyProof.Rows.callWith_type1 (thn (ha.run pos pins s σ H _ I h) fun us s1 ⟨vs, H1, I1, r1, q1⟩ => ?_) hs rfl))
  obtain ⟨a, xs, ex, hq, q⟩ := q1
  subst ex
  cases r1 with
  | cons r rr =>
    cases rr
    cases r
    obtain ⟨its, rv, p', hz⟩ := I1.tuple hq
    refine enum_begins1 (begins_tuple a its.toArray) p' fun h' he hit hsz hk => wpAny_pyIter_enum he ?_
    have I2 : L2.Inv X pins σ H1 { s1 with heap := h' } := I1.kept (t' := s1.toks) hk
    refine ⟨s1.heap.objs.size + 1, [s1.heap.objs.size + 1, s1.heap.objs.size], _, _, H1, rfl, I2, turn_enumT a (s1.heap.objs.size + 1) s1.heap.objs.size, ⟨⟨.none, he⟩, ⟨_, hit, rfl, rfl⟩, Nat.succ_ne_self _⟩, fun b hb => ?_, q⟩
    have e' : b = s1.heap.objs.size + 1 ∨ b = s1.heap.objs.size := by simpa using hb
    have hle : s1.heap.objs.size ≤ b := by
      rcases e' with z | z
      · rw [z]; exact Nat.le_add_right _ _
      · rw [z]; exact Nat.le_refl _
    exact I1.fpOk hle (I1.hok.fresh hle)
/-- 0, 1, .. beside the items -/
def numD (ds : List D) : List D := ds.zipIdx.map fun p => .tup [.int (p.2 : Nat), p.1]
theorem numD_len (ds : List D) : (numD ds).length = ds.length := by simp [numD]
theorem numD_get {ds : List D} {i : Nat} {d : D} (h : ds[i]? = some d) : (numD ds)[i]? = some (.tup [.int (i : Nat), d]) := by
  simp [numD, List.getElem?_zipIdx, h]
section
variable {K : FK} {γ : List Addr} {H : Hp} {p : Bool}
theorem itOk_enumT {a : Addr} {ds : List D} {vs : List V} (h : SqT K H a vs) (r : Rs K γ H ds vs) : ItOk K p γ (numD ds) (IteT K a) H := by
  intro H1 s i
  have h1 := s.kp.sqT h
  have r1 := Rs.mono s.kp Pre.refl _ _ r
  rw [numD_len]
  refine ⟨fun hi => ?_, fun hi => ⟨vs, h1, by rw [← r1.length]; exact hi⟩, fun hlt x H2 y => ?_⟩
  · obtain ⟨v, e, _⟩ := r1.get (List.getElem?_eq_getElem hi)
    exact ⟨vs, v, h1, e⟩
  · obtain ⟨T, u, rfl, hT, rfl, f⟩ := y
    obtain ⟨d, e1, e2⟩ := r1.get' (f vs h1)
    obtain ⟨s2, r2⟩ := new_tup (xs := [.int (i : Nat), d]) (vs := [.int (i : Nat), u]) hT (Rs.cons (by simp only [R]) (Rs.cons e2 Rs.nil))
    exact ⟨s2, _, numD_get e1, r2⟩
theorem itOk_enumL {a : Addr} {ds : List D} {vs : List V} (h : Rd H a (.lst vs)) (hp : p = true ∨ SqF H a vs) (r : Rs K γ H ds vs) : ItOk K p γ (numD ds) (Ite K a) H := by
  intro H1 s i
  have h1 : SqL K H1 a vs := by
    rcases hp with hp | hp
    · subst hp
      have s' : Same H H1 := by simpa [Stp] using s
      rcases h with h | ⟨o, h⟩
      · exact .inl (.inl (s' _ _ h))
      · exact .inl (.inr ⟨o, s' _ _ h⟩)
    · exact (s.kp.sqF hp).sq
  have r1 := Rs.mono s.kp Pre.refl _ _ r
  rw [numD_len]
  refine ⟨fun hi => ?_, fun hi => ⟨vs, h1, by rw [← r1.length]; exact hi⟩, fun hlt x H2 y => ?_⟩
  · obtain ⟨v, e, _⟩ := r1.get (List.getElem?_eq_getElem hi)
    exact ⟨vs, v, h1, e⟩
  · obtain ⟨T, u, rfl, hT, rfl, f⟩ := y
    obtain ⟨d, e1, e2⟩ := r1.get' (f vs h1)
    obtain ⟨s2, r2⟩ := new_tup (xs := [.int (i : Nat), d]) (vs := [.int (i : Nat), u]) hT (Rs.cons (by simp only [R]) (Rs.cons e2 Rs.nil))
    exact ⟨s2, _, numD_get e1, r2⟩
end
section
variable {X : Cx} {e : Expr} {fa : RE} {ga : EE} {q pos tpos : Pos} {elts : List Expr} {kk : Nat} {p : Bool}
def iEnT (f : RE) : RA := fun δ G => (f δ G).bind fun x => match x with
  | .tup ds => some (numD ds)
  | _ => none
theorem dir_enT (ha : DR X e fa) (hm : X.mg "enumerate" = none) (hg : Gl X "enumerate" := by rfl) (hs : starEach [e] X.env = [(false, eval e X.env)] := by rfl) :
    DIR X p (.Tuple elts kk tpos) (.Call (.Name "enumerate" q) [e] [] pos) (iEnT fa) := PI.imp (pi_enumT hg hm (pa_cons ha pa_nil hs) hs) fun σ H Q ⟨δ, G, γ, ds, S, ef, q⟩ => by
  obtain ⟨x, e1, e2⟩ := Option.bind_eq_some_iff.mp ef
  split at e2
  case h_2 => cases e2
  cases e2
  refine ⟨δ, G, γ, _, S, e1, fun v H1 s1 r1 => ?_⟩
  simp only [R] at r1
  obtain ⟨a, vs, rfl, h1, h2⟩ := r1
  exact ⟨a, vs, rfl, h1, q _ H1 s1 (itOk_enumT h1 h2)⟩
/-- a list that the block leaves as it is -/
def iEnL (f : RE) : RA := fun δ G => (f δ G).bind fun x => (lstG G x).bind fun ds => some (numD ds)
theorem dir_enL (ha : DR X e fa) (hm : X.mg "enumerate" = none) (hg : Gl X "enumerate" := by rfl) (hs : starEach [e] X.env = [(false, eval e X.env)] := by rfl) :
    DIR X true (.Tuple elts kk tpos) (.Call (.Name "enumerate" q) [e] [] pos) (iEnL fa) := PI.imp (pi_enum hg hm (pa_cons ha pa_nil hs) hs) fun σ H Q ⟨δ, G, γ, ds, S, ef, q⟩ => by
  simp only [iEnL, Option.bind_eq_some_iff, Option.some.injEq] at ef
  obtain ⟨x, e1, xs, e2, rfl⟩ := ef
  refine ⟨δ, G, γ, _, S, e1, fun v H1 s1 r1 => ?_⟩
  obtain ⟨a, vs, rfl, h1, h2⟩ := lstG_ok (S.same s1).toRo r1 e2
  exact ⟨a, vs, rfl, .inl h1, q _ H1 s1 (itOk_enumL h1 (.inl rfl) h2)⟩
/-- a frozen list -/
def iEnF (f : EE) : EA := fun δ G => (f δ G).bind fun x => match x.1 with
  | .fl ds => some (numD ds, x.2)
  | _ => none
theorem di_enF (ha : DE X e ga) (hm : X.mg "enumerate" = none) (hg : Gl X "enumerate" := by rfl) (hs : starEach [e] X.env = [(false, eval e X.env)] := by rfl) :
    DI X p (.Tuple elts kk tpos) (.Call (.Name "enumerate" q) [e] [] pos) (iEnF ga) := PI.imp (pi_enum hg hm (pa_cons ha pa_nil hs) hs) fun σ H Q ⟨δ, G, γ, ds, G', S, ef, q⟩ => by
  simp only [iEnF, Option.bind_eq_some_iff] at ef
  obtain ⟨⟨x, G1⟩, e1, e2⟩ := ef
  split at e2
  case h_2 => cases e2
  rename_i xs hx
  have hx' : x = .fl xs := hx
  subst hx'
  cases e2
  refine ⟨δ, G, γ, _, _, S, e1, fun v H1 γ1 a1 S1 r1 => ?_⟩
  simp only [R] at r1
  obtain ⟨a, vs, rfl, h1, h2⟩ := r1
  exact ⟨a, vs, rfl, h1.sq, q _ H1 γ1 a1 S1 (itOk_enumL (by obtain ⟨o, h⟩ := h1; exact .inr ⟨o, h⟩) (.inr h1) h2)⟩
end
end FL
namespace FL
open PySem PySem.Spec PyProof.Rows L2

/-! ### a class of frozen instances: __init__ checks, then sets each field from a slot -/
mutual
theorem R.off {K : FK} {γ : List Addr} {H H' : Hp} {x C dx : Addr} (hx : H x = some (.ins C dx [])) (k : ∀ b o, H b = some o → Imm o = true → b ≠ x → H' b = some o) : ∀ (d : D) (v : V), R K γ H d v → R K γ H' d v
  | .non, v, h => by simpa only [R] using h
  | .bl b, v, h => by simpa only [R] using h
  | .int i, v, h => by simpa only [R] using h
  | .str x, v, h => by simpa only [R] using h
  | .tup ds, v, h => by
    simp only [R] at h ⊢
    obtain ⟨a, vs, e, h1, h2⟩ := h
    refine ⟨a, vs, e, ?_, Rs.off hx k ds vs h2⟩
    rcases h1 with (h1 | ⟨o, h1⟩) | h1
    · exact .inl (.inl (k _ _ h1 rfl fun z => by rw [z, hx] at h1; cases h1))
    · exact .inl (.inr ⟨o, k _ _ h1 rfl fun z => by rw [z, hx] at h1; cases h1⟩)
    · exact .inr h1
  | .fl ds, v, h => by
    simp only [R] at h ⊢
    obtain ⟨a, vs, e, ⟨o, h1⟩, h2⟩ := h
    exact ⟨a, vs, e, ⟨o, k _ _ h1 rfl fun z => by rw [z, hx] at h1; cases h1⟩, Rs.off hx k ds vs h2⟩
  | .obj y ns ds, v, h => by
    simp only [R] at h ⊢
    obtain ⟨a, dx', vs, C', e, h1, hc, h2⟩ := h
    refine ⟨a, dx', vs, C', e, k _ _ h1 (imm_ins hc.2.1 hc.2.2 h2.length) fun z => ?_, hc, Rs.off hx k ds vs h2⟩
    rw [z, hx] at h1
    have hl := h2.length
    have e2 : ([] : List (Str × V)) = ns.zip vs := by
      have h1' : some (HO.ins C dx []) = some (HO.ins C' dx' (ns.zip vs)) := h1
      injection h1' with h1'
      injection h1'
    have e3 := congrArg List.length e2
    rw [List.length_zip, ← hl, ← hc.2.1, Nat.min_self] at e3
    exact hc.1.2.2.2 (List.eq_nil_of_length_eq_zero e3.symm)
  | .scr ns, v, h => by
    simp only [R] at h ⊢
    obtain ⟨a, e, h1⟩ := h
    exact ⟨a, e, h1.imp (fun ⟨o, h1⟩ => ⟨o, k _ _ h1 rfl (fun z => by rw [z, hx] at h1; cases h1)⟩) id⟩
  | .fd ks ds, v, h => by
    simp only [R] at h ⊢
    obtain ⟨a, o, vs, e, h1, hl, h2⟩ := h
    exact ⟨a, o, vs, e, k _ _ h1 rfl (fun z => by rw [z, hx] at h1; cases h1), hl, Rs.off hx k ds vs h2⟩
  | .rf n, v, h => by simpa only [R] using h
theorem Rs.off {K : FK} {γ : List Addr} {H H' : Hp} {x C dx : Addr} (hx : H x = some (.ins C dx [])) (k : ∀ b o, H b = some o → Imm o = true → b ≠ x → H' b = some o) : ∀ (ds : List D) (vs : List V), Rs K γ H ds vs → Rs K γ H' ds vs
  | [], vs, h => by
    rw [h.of_nil]
    exact Rs.nil
  | d :: ds, vs, h => by
    obtain ⟨v, r, rfl, h1, h2⟩ := h.of_cons
    exact Rs.cons (R.off hx k d v h1) (Rs.off hx k ds r h2)
end
def pickD (δ : Env') : List Nat → Option (List D)
  | [] => some []
  | i :: is => (rVar i δ []).bind fun d => (pickD δ is).bind fun ds => some (d :: ds)
def putAll : List (Str × V) → List Str → List V → List (Str × V)
  | fs, f :: ns, w :: ws => putAll (putF f w fs) ns ws
  | fs, _, _ => fs
theorem putF_new {f : Str} {w : V} : ∀ {fs : List (Str × V)}, f ∉ fs.map (·.1) → putF f w fs = fs ++ [(f, w)]
  | [], _ => rfl
  | (g, y) :: r, h => by
    have h1 : g ≠ f := fun z => h (by simp [z])
    rw [show putF f w ((g, y) :: r) = (if g = f then (g, w) :: r else (g, y) :: putF f w r) from rfl, if_neg h1, putF_new (fun z => h (by simp at z ⊢; exact .inr z))]
    rfl
theorem putAll_eq : ∀ {ns : List Str} {ws : List V} {fs : List (Str × V)}, ns.Nodup → (∀ f ∈ ns, f ∉ fs.map (·.1)) → ns.length = ws.length → putAll fs ns ws = fs ++ ns.zip ws
  | [], [], fs, _, _, _ => by simp [putAll]
  | [], _ :: _, _, _, _, h => by simp at h
  | _ :: _, [], _, _, _, h => by simp at h
  | f :: ns, w :: ws, fs, nd, hf, hl => by
    rw [putAll, putF_new (hf f List.mem_cons_self), putAll_eq (List.nodup_cons.mp nd).2 (fun g hg z => ?_) (by simpa using hl), List.zip_cons_cons, List.append_assoc]
    · rfl
    · rw [List.map_append, List.mem_append] at z
      rcases z with z | z
      · exact hf g (List.mem_cons_of_mem _ hg) z
      · have : g = f := by simpa using z
        subst this
        exact (List.nodup_cons.mp nd).1 hg
def slotV (σ : L2.St) : List Nat → List V → Prop
  | [], ws => ws = []
  | i :: is, ws => ∃ w r, ws = w :: r ∧ σ[i]? = some (some w) ∧ slotV σ is r
theorem slotV_len {σ : L2.St} : ∀ {is : List Nat} {ws : List V}, slotV σ is ws → ws.length = is.length
  | [], ws, h => by
    have : ws = [] := h
    rw [this]
    rfl
  | i :: is, ws, h => by
    obtain ⟨w, r, rfl, _, h2⟩ := h
    simp [slotV_len h2]
/-- the sets alone -/
def tK (K : FK) (C : Addr) (L : List (Str × Nat)) : TS := fun D σ H => ∃ x dx fs ws, σ[0]? = some (some (.ref x)) ∧ H x = some (.ins C dx fs) ∧ fs.length + L.length < 1000 ∧ slotV σ (L.map (·.2)) ws ∧ D.nx σ (upd H x (.ins C dx (putAll fs (L.map (·.1)) ws)))
theorem len_putF (f : Str) (v : V) : ∀ fs : List (Str × V), (putF f v fs).length ≤ fs.length + 1
  | [] => by simp [putF]
  | (g, y) :: r => by
    rw [show putF f v ((g, y) :: r) = (if g = f then (g, v) :: r else (g, y) :: putF f v r) from rfl]
    split
    · simp
    · simpa using len_putF f v r
section
variable {X : Cx} {st : Stmt} {sts : List Stmt} {C : Addr} {ns : List Str} {is : List Nat} {g h : SS}
theorem pk_sets_nil {f : Str} {i : Nat} (h : PS X st (sFld X.F (tVar 0) (tVar i) f)) (c : Cls X.F C) (n : NoAttr X.F C f) : PSs X [st] (tK X.F C [(f, i)]) := PSs.imp (pss_one h) fun D σ H ⟨x, dx, fs, ws, h0, hx, hl, hs, q⟩ => by
  obtain ⟨w, r, rfl, h1, h2⟩ := hs
  obtain rfl : r = [] := h2
  exact ⟨w, h1, .ref x, h0, x, C, dx, fs, rfl, hx, c, n, by simp at hl; omega, q⟩
theorem pk_sets_cons {f : Str} {i : Nat} {L : List (Str × Nat)} (h : PS X st (sFld X.F (tVar 0) (tVar i) f)) (c : Cls X.F C) (n : NoAttr X.F C f) (hr : PSs X sts (tK X.F C L)) : PSs X (st :: sts) (tK X.F C ((f, i) :: L)) := PSs.imp (pss_cons h hr) fun D σ H ⟨x, dx, fs, ws, h0, hx, hl, hs, q⟩ => by
  obtain ⟨w, r, rfl, h1, h2⟩ := hs
  have hl' := len_putF f w fs
  refine ⟨w, h1, .ref x, h0, x, C, dx, fs, rfl, hx, c, n, by simp at hl; omega, x, dx, putF f w fs, r, h0, upd_same, by simp at hl; omega, h2, ?_⟩
  rw [upd_upd]
  exact q
/-- checks, then the sets -/
def tI (K : FK) (x : Str) (C : Addr) (ns : List Str) (is : List Nat) (h : SS) : TS := fun D σ H => ∃ δ G γ a δ' G' out, Sx K H δ G σ γ ∧ γ[0]? = some a ∧ PySem.W.nsIn K mainGlobals x = some (some (.ref C)) ∧ h δ G = some (.nx, δ', G') ∧ δ'[0]? = some (some (.rf 0)) ∧ G'[0]? = some (.ins x [] []) ∧ pickD δ' is = some out ∧
  ∀ σ' H1 γ1 ws dx, Aft γ H γ1 H1 → H1 a = some (.ins C dx []) → Rs K γ1 H1 out ws → D.nx σ' (upd H1 a (.ins C dx (ns.zip ws)))
theorem dsi_cons {x : Str} (h1 : DS X st g) (h2 : PSs X sts (tI X.F x C ns is h)) : PSs X (st :: sts) (tI X.F x C ns is (sSeq g h)) := PSs.imp (pss_cons h1 h2) fun D σ H ⟨δ, G, γ, a, δ', G', out, S, hγ, hx, e, e0, eg, ep, q⟩ => by
  simp only [sSeq, Option.bind_eq_some_iff] at e
  obtain ⟨⟨c1, δ1, G1⟩, e1, e2⟩ := e
  refine ⟨δ, G, γ, c1, δ1, G1, S, e1, fun σ1 H1 γ1 a1 S1 => ?_⟩
  cases c1 with
  | nx => exact ⟨δ1, G1, γ1, a, δ', G', out, S1, a1.pr 0 a hγ, hx, e2, e0, eg, ep, fun σ2 H2 γ2 ws dx a2 hd r2 => q σ2 H2 γ2 ws dx (a1.trans a2) hd r2⟩
  | bk => cases e2
  | ct => cases e2
  | rt d => cases e2
theorem pick_ok {K : FK} {H : Hp} {δ : Env'} {G : Hs} {σ : L2.St} {γ : List Addr} (S : Sx K H δ G σ γ) : ∀ {is : List Nat} {out : List D}, pickD δ is = some out → ∃ ws, slotV σ is ws ∧ Rs K γ H out ws
  | [], out, e => by
    cases e
    exact ⟨[], rfl, Rs.nil⟩
  | i :: is, out, e => by
    simp only [pickD, Option.bind_eq_some_iff, Option.some.injEq] at e
    obtain ⟨d, e1, ds, e2, rfl⟩ := e
    obtain ⟨ws, h1, h2⟩ := pick_ok S e2
    unfold rVar at e1
    split at e1
    · rename_i d' ed
      cases e1
      obtain ⟨v, h3, h4⟩ := S.sl i _ ed
      exact ⟨v :: ws, ⟨v, ws, rfl, h3, h1⟩, Rs.cons h4 h2⟩
    · cases e1
theorem pickD_len {δ : Env'} : ∀ {is : List Nat} {out : List D}, pickD δ is = some out → out.length = is.length
  | [], out, e => by cases e; rfl
  | i :: is, out, e => by
    simp only [pickD, Option.bind_eq_some_iff, Option.some.injEq] at e
    obtain ⟨d, e1, ds, e2, rfl⟩ := e
    simp [pickD_len e2]
theorem dsi_sets {x : Str} (hs : PSs X sts (tK X.F C (ns.zip is))) (hn : ns.Nodup) (hl : ns.length = is.length) (hl2 : ns.length < 1000) : PSs X sts (tI X.F x C ns is sNil) := PSs.imp hs fun D σ H ⟨δ, G, γ, a, δ', G', out, S, hγ, hC, e, e0, eg, ep, q⟩ => by
  cases e
  obtain ⟨v0, h0, r0⟩ := S.sl 0 _ e0
  simp only [R] at r0
  obtain ⟨x', rfl, hx'⟩ := r0
  rw [hγ] at hx'
  cases hx'
  obtain ⟨C', dx, vs, hx, ⟨⟨hC', _⟩, _⟩, _⟩ := S.toRo.at eg hγ
  have eC : (some (some (Value.ref C)) : Option (Option Value)) = some (some (.ref C')) := hC.symm.trans hC'
  cases eC
  have hx : H a = some (.ins C dx []) := hx
  obtain ⟨ws, h1, h2⟩ := pick_ok S ep
  have m2 : (ns.zip is).map (·.2) = is := List.map_snd_zip (by omega)
  have m1 : (ns.zip is).map (·.1) = ns := List.map_fst_zip (by omega)
  have hw := slotV_len h1
  refine ⟨a, dx, [], ws, h0, hx, by simp; omega, by rw [m2]; exact h1, ?_⟩
  rw [m1, putAll_eq hn (by simp) (by omega), List.nil_append]
  exact q σ H γ ws dx Aft.refl hx h2
end
/-- what __init__ leaves: the attributes' values -/
def fnI (x : Str) (n : Nat) (is : List Nat) (body : SS) : List D → Option (List D) := fun ds => (body (slots n (.rf 0 :: ds)) [.ins x [] []]).bind fun y => match y.1 with
  | .nx => match y.2.1[0]? with
    | some (some (D.rf 0)) => match y.2.2[0]? with
      | some (GO.ins z [] []) => if z = x then pickD y.2.1 is else none
      | _ => none
    | _ => none
  | _ => none
def spI (K : FK) (np : Nat) (C : Addr) (ns : List Str) (F : List D → Option (List D)) : Sp := fun vs H Q _ => ∃ (x dx : Addr) (us : List V) (ds out : List D), vs = .ref x :: us ∧ us.length = np ∧ H x = some (.ins C dx []) ∧ Rs K [] H ds us ∧ F ds = some out ∧ ims out = true ∧
  ∀ ws H' H1 dx', (∀ b o, b ≠ x → H b = some o → H1 b = some o) → H1 x = some (.ins C dx' []) → Rs K [] H1 out ws → H' = upd H1 x (.ins C dx' (ns.zip ws)) → Q .non H'
section
variable {P : Program} {K : FK} {mg : Str → Option Value} {base : Heap}
theorem makI {x qual : Str} {C : Addr} {st : Stmt} {f : Addr} {fd : FuncData} {N ps : List Str} {ns : List Str} {is : List Nat} {k : Nat} {body : SS} (M : Mk K C f) (hm : mg x = some (.ref C)) (hc : ObjC K x C ns) (F : C8.Fun K "__init__" qual st f fd) (b : Binds K fd ("self" :: ps) []) (S : FnScope N ("self" :: ps) (C8.fnScope st))
    (hbody : ∀ (cdv : Value) (A : Around) (outer : List Env) (s : Shared) (H : Hp) (E : XK), RoomG k (A.deeper (envOfC qual (C8.fnScope st) s.heap.objs.size f cdv)) →
      PSs (cxOf C8.CX0 P K.wd K mg base N qual (C8.fnScope st) f cdv A outer s H E).nox (C8.fnBody st) (tI K x C ns is body)) : C8.MakG P K.wd K mg base (k + 1) x C (spI K ps.length C ns (fnI x N.length is body)) [] := by
  refine C8.makG M hm F b .nil S (fun vs H Q E h => ?_) fun cdv A outer s H vs Q E hr h => ⟨_, hbody cdv A outer s H E hr, ?_⟩
  · obtain ⟨x, dx, us, ds, out, rfl, hl, _⟩ := h
    simp [hl]
  · obtain ⟨a, dx, us, ds, out, rfl, hl, hx, r, e, him, q⟩ := h
    unfold fnI at e
    obtain ⟨⟨c, δ', G'⟩, e1, e2⟩ := Option.bind_eq_some_iff.mp e
    have ro : Ro K H [.ins x [] []] [a] := ⟨rfl, by simp, fun b z => by
      have : b = a := by simpa using z
      rw [this, hx]; simp, fun j o b e1 e2 => by
      cases j with
      | zero =>
        simp at e1 e2
        subst e1 e2
        exact ⟨C, dx, [], hx, ⟨⟨hc.1, hc.2.1, fun f hf => by simp at hf⟩, rfl, by decide⟩, Rs.nil⟩
      | succ j => simp at e1⟩
    cases c with
    | nx =>
      simp only at e2
      split at e2
      case h_2 => cases e2
      rename_i h0
      split at e2
      case h_2 => cases e2
      rename_i z eg
      split at e2
      case isFalse => cases e2
      rename_i ez
      subst ez
      refine ⟨slots N.length (.rf 0 :: ds), [.ins z [] []], [a], a, δ', G', out, start_ok ro (Rs.cons (by simp only [R]; exact ⟨a, rfl, rfl⟩) (Rs.mono Kp.refl (fun k a h => by simp at h) _ _ r)), rfl, hc.1, e1, h0, eg, e2, fun σ' H1 γ1 ws dx1 A1 hd r1 => ?_⟩
      exact q ws _ H1 dx1 (fun b o nb eb => A1.tr b o eb (.inl (by simpa using nb))) hd (Rs.im out ws him r1) rfl
    | rt d => cases e2
    | bk => cases e2
    | ct => cases e2
end
/-! C(..) -/
def mkF (x : Str) (ns : List Str) (F : List D → Option (List D)) : List D → Option D := fun ds => (F ds).bind fun out => if ims out = true ∧ ns.length = out.length ∧ immN ns = true then some (.obj x ns out) else none
section
variable {X : Cx} {k j : Nat} {x : Str} {C : Addr} {p pos : Pos} {e : Expr} {es : List Expr} {fs : RA} {gs : EA} {np : Nat} {ns : List Str} {F : List D → Option (List D)}
theorem mk_end {K : FK} {γ : List Addr} {H1 : Hp} {ds out : List D} {vs : List V} {Q : VK} (hc : ObjC K x C ns) (hnl : ns.length = out.length ∧ immN ns = true) (hl : vs.length = np) (r : Rs K [] H1 ds vs) (e : F ds = some out) (him : ims out = true)
    (q : ∀ v H', Same H1 H' → R K γ H' (.obj x ns out) v → Q v H') : ∀ xx dx, H1 xx = none → H1 dx = none → dx ≠ xx → spI K np C ns F (.ref xx :: (vs ++ [])) (upd (upd H1 dx (.own xx)) xx (.ins C dx [])) (fun v H2 => v = .non ∧ Q (.ref xx) H2) C8.E0 := by
  intro xx dx h1 h2 hne
  have s0 : Same H1 (upd (upd H1 dx (.own xx)) xx (.ins C dx [])) := fun b o eb => by
    rw [upd_ne (ne_of_none eb h1), upd_ne (ne_of_none eb h2)]
    exact eb
  rw [List.append_nil]
  refine ⟨xx, dx, vs, ds, out, rfl, hl, upd_same, Rs.same s0 r, e, him, fun ws H' H2 dx' s2 hx2 r2 eH => ⟨rfl, ?_⟩⟩
  subst eH
  refine q _ _ (fun b o eb => ?_) ?_
  · have nb := ne_of_none eb h1
    rw [upd_ne nb]
    exact s2 _ _ nb (s0 b o eb)
  · simp only [R]
    exact ⟨xx, dx', ws, C, rfl, upd_same, ⟨hc, hnl⟩, Rs.im out ws him (Rs.off hx2 (fun b o eb _ hb => by rw [upd_ne hb]; exact eb) out ws r2)⟩
theorem dr_mk (hc : ObjC X.F x C ns) (c : C8.MakG X.prog X.w X.F X.mg X.base k x C (spI X.F np C ns F) []) (hr : RoomG j X.A) (ha : DRA X (e :: es) fs) (hk : k + 1 ≤ j := by decide) (hg : Gl X x := by rfl)
    (hdb : (x == ("__debug__" : Str)) = false := by decide) (he : starEach (e :: es) X.env = (false, eval e X.env) :: starEach es X.env := by rfl) (hpl : (backTo pos (starEach es X.env)).any (·.1) = false := by rfl) :
    DR X (.Call (.Name x p) (e :: es) [] pos) (rCallP np (mkF x ns F) fs) := PE.imp (C8.pe_mkG c hr hk hg ha hdb he hpl) fun σ H Q ⟨δ, G, γ, d, S, ef, q⟩ => by
  simp only [rCallP, Option.bind_eq_some_iff] at ef
  obtain ⟨ds, e1, e2⟩ := ef
  split at e2
  case isFalse => cases e2
  rename_i hi
  unfold mkF at e2
  obtain ⟨out, e3, e4⟩ := Option.bind_eq_some_iff.mp e2
  split at e4
  case isFalse => cases e4
  rename_i ho
  cases e4
  exact ⟨δ, G, γ, ds, S, e1, fun vs H1 s1 r1 => mk_end (γ := γ) hc ho.2 (by rw [← r1.length]; exact hi.2) (Rs.im ds vs hi.1 r1) e3 ho.1 fun v H2 s2 r2 => q v H2 (s1.trans s2) r2⟩
theorem de_mk (hc : ObjC X.F x C ns) (c : C8.MakG X.prog X.w X.F X.mg X.base k x C (spI X.F np C ns F) []) (hr : RoomG j X.A) (ha : DEA X (e :: es) gs) (hk : k + 1 ≤ j := by decide) (hg : Gl X x := by rfl)
    (hdb : (x == ("__debug__" : Str)) = false := by decide) (he : starEach (e :: es) X.env = (false, eval e X.env) :: starEach es X.env := by rfl) (hpl : (backTo pos (starEach es X.env)).any (·.1) = false := by rfl) :
    DE X (.Call (.Name x p) (e :: es) [] pos) (eCallP np (mkF x ns F) gs) := PE.imp (C8.pe_mkG c hr hk hg ha hdb he hpl) fun σ H Q ⟨δ, G, γ, d, G', S, ef, q⟩ => by
  simp only [eCallP, Option.bind_eq_some_iff] at ef
  obtain ⟨⟨ds, G1⟩, e1, e2⟩ := ef
  split at e2
  case isFalse => cases e2
  rename_i hi
  obtain ⟨d', e3, e4⟩ := Option.bind_eq_some_iff.mp e2
  cases e4
  unfold mkF at e3
  obtain ⟨out, e5, e6⟩ := Option.bind_eq_some_iff.mp e3
  split at e6
  case isFalse => cases e6
  rename_i ho
  cases e6
  exact ⟨δ, G, γ, ds, G1, S, e1, fun vs H1 γ1 a1 S1 r1 => mk_end (γ := γ1) hc ho.2 (by rw [← r1.length]; exact hi.2) (Rs.im ds vs hi.1 r1) e5 ho.1 fun v H2 s2 r2 => q v H2 γ1 (a1.trans (Aft.of_same s2)) (S1.same s2) r2⟩
end
end FL
namespace FL
open PySem PySem.Spec PyProof.Rows L2

/-! ### dicts at a root, keys tuples without texts -/
section
variable {X : Cx} {pins : List (Addr × Obj)} {σ : L2.St} {H H' : Hp} {s : Shared} {γ : List Addr} {a b : Addr}
mutual
theorem R.nest (I : L2.Inv X pins σ H s) : ∀ (d : D) (k : NestedKey) (v : V) (u : Value), nk d = some k → R X.F γ H d v → RelV v u → NestedIs s.heap k u
  | .non, k, v, u, e, r, w => by
    simp only [nk, Option.some.injEq] at e; subst e
    simp only [R] at r; subst r
    cases (show u = .none from w)
    exact .none
  | .bl b, k, v, u, e, r, w => by
    simp only [nk, Option.some.injEq] at e; subst e
    simp only [R] at r; subst r
    cases (show u = .bool b from w)
    exact .bool rfl
  | .int i, k, v, u, e, r, w => by
    simp only [nk, Option.some.injEq] at e; subst e
    simp only [R] at r; subst r
    obtain ⟨t, rfl⟩ := (show ∃ t, u = .int i t from w)
    exact .int i t
  | .tup ds, k, v, u, e, r, w => by
    simp only [nk, Option.map_eq_some_iff] at e
    obtain ⟨ks, e1, rfl⟩ := e
    simp only [R] at r
    obtain ⟨a, vs, rfl, h1, h2⟩ := r
    cases (show u = .ref a from w)
    obtain ⟨its, rv, ⟨o, ho, hc, n, hd⟩, _⟩ := I.tuple h1
    exact .tup ho hc hd (by rw [List.toList_toArray]; exact Rs.nest I ds ks vs its e1 h2 rv)
  | .str x, k, v, u, e, r, w => by
    simp only [nk, Option.some.injEq] at e; subst e
    simp only [R] at r; subst r
    obtain ⟨t, rfl⟩ := (show ∃ t, u = .str x t from w)
    exact .text x t
  | .fl _, _, _, _, e, _, _ => by simp [nk] at e
  | .obj _ _ _, _, _, _, e, _, _ => by simp [nk] at e
  | .scr _, _, _, _, e, _, _ => by simp [nk] at e
  | .fd _ _, _, _, _, e, _, _ => by simp [nk] at e
  | .rf _, _, _, _, e, _, _ => by simp [nk] at e
theorem Rs.nest (I : L2.Inv X pins σ H s) : ∀ (ds : List D) (ks : List NestedKey) (vs : List V) (us : List Value), nks ds = some ks → Rs X.F γ H ds vs → Vals vs us → NestedAll s.heap ks us
  | [], ks, vs, us, e, r, w => by
    simp only [nks, Option.some.injEq] at e; subst e
    rw [r.of_nil] at w
    cases w
    exact .nil
  | d :: ds, ks, vs, us, e, r, w => by
    simp only [nks, Option.bind_eq_some_iff, Option.some.injEq] at e
    obtain ⟨k, e1, ks', e2, rfl⟩ := e
    obtain ⟨v, vs', rfl, h1, h2⟩ := r.of_cons
    cases w with
    | cons w1 w2 => exact .cons (R.nest I d k v _ e1 h1 w1) (Rs.nest I ds ks' vs' _ e2 h2 w2)
end
theorem DK.is (I : L2.Inv X pins σ H s) : ∀ {kvs : List (D × D)} {xs : List (NestedKey × Addr × Value)}, DK X.F γ H kvs xs → ∀ x ∈ xs, (nestedKind X.prog X.w).is s.heap x.1 x.2.1
  | [], xs, h, x, hx => by
    have : xs = [] := h
    rw [this] at hx
    simp at hx
  | (k, d) :: r, xs, h, x, hx => by
    obtain ⟨q, b, u, t, v, rfl, h1, h2, h3, h4, h5⟩ := h
    rcases List.mem_cons.mp hx with rfl | hx
    · exact ⟨R.nest I k q (.ref b) (.ref b) h1.1 h2 rfl, h1.2.1⟩
    · exact DK.is I h5 x hx
theorem DK.len {K : FK} : ∀ {kvs : List (D × D)} {xs : List (NestedKey × Addr × Value)}, DK K γ H kvs xs → xs.length = kvs.length
  | [], xs, h => by
    have : xs = [] := h
    rw [this]
    rfl
  | (k, d) :: r, xs, h => by
    obtain ⟨q, b, u, t, v, rfl, h1, h2, h3, h4, h5⟩ := h
    simp [DK.len h5]
theorem ents_eq (P : Program) (K : FK) (xs : List (NestedKey × Addr × Value)) : xs.map (entryOfKey (nestedKind P K.wd)) = xs.map (ent0 K) := rfl
/-- the dict's object -/
theorem dct_at {kvs : List (D × D)} (I : L2.Inv X pins σ H s) (h : RG X.F γ H (.dct kvs) a) : ∃ xs ep, H a = some (dctO X.F a xs ep) ∧ DK X.F γ H kvs xs ∧ (a == sysModules) = false ∧ xs.length ≤ sizeLine ∧ s.heap.DictOfH (nestedKind X.prog X.w) a xs ∧
    ∃ o es, s.heap.get? a = some o ∧ o.ExactDict ∧ o.data = .dict es ep ∧ es.toList = xs.map (ent0 X.F) := by
  obtain ⟨xs, ep, h1, hn, h2⟩ := h
  obtain ⟨⟨z, hl, o, es, ho, hx, hd, he⟩, _⟩ := (show ObjOk X.prog X.w H s.heap a (dctO X.F a xs ep) from I.hok a _ h1)
  exact ⟨xs, ep, h1, h2, z, hl, ⟨o, es, ep, ho, hx, hd, by exact he, h2.is I, hn⟩, o, es, ho, hx, hd, he⟩
theorem dct_ok {P : Program} {K : FK} {h' : Heap} {xs : List (NestedKey × Addr × Value)} (z : (a == sysModules) = false) (hl : xs.length ≤ sizeLine) (dd : h'.DictOfH (nestedKind P K.wd) a xs) : ∃ ep, ∀ H', ObjOk P K.wd H' h' a (dctO K a xs ep) := by
  obtain ⟨o, es, ep, ho, hx, hd, he, _, _⟩ := dd
  refine ⟨ep, fun H' => ⟨⟨z, hl, o, es, ho, hx, hd, he⟩, ⟨o, ho⟩, fun h1 h2 ⟨z1, hl1, o1, es1, e1, r1⟩ k => ⟨z1, hl1, o1, es1, k o1 e1, r1⟩⟩⟩
/-- what stands at a key -/
def valD (kvs : List (D × D)) (k : NestedKey) : Option D := (kvs.find? fun p => decide (nk p.1 = some k)).map (·.2)
def putD (kvs : List (D × D)) (kd d : D) : List (D × D) := if (kvs.any fun p => decide (nk p.1 = nk kd)) = true then kvs.map fun p => if nk p.1 = nk kd then (p.1, d) else p else kvs ++ [(kd, d)]
theorem DK.val {K : FK} {k : NestedKey} : ∀ {kvs : List (D × D)} {xs : List (NestedKey × Addr × Value)}, DK K γ H kvs xs → (valD kvs k = none ∧ atKey xs k = none) ∨ ∃ d b u v, valD kvs k = some d ∧ atKey xs k = some (b, u) ∧ RelV v u ∧ R K γ H d v
  | [], xs, h => by
    have : xs = [] := h
    subst this
    exact .inl ⟨rfl, rfl⟩
  | (kd, d) :: r, xs, h => by
    obtain ⟨q, b, u, t, v, rfl, h1, h2, h3, h4, h5⟩ := h
    unfold valD atKey
    rw [List.find?_cons, List.find?_cons, h1.1]
    by_cases hq : q = k
    · subst hq
      right
      exact ⟨d, b, u, v, by simp, by simp, h3, h4⟩
    · have e1 : decide ((some q : Option NestedKey) = some k) = false := decide_eq_false fun z => hq (Option.some.inj z)
      have e2 : decide (q = k) = false := decide_eq_false hq
      simp only [e1, e2]
      exact DK.val h5
theorem DK.any {K : FK} {k : NestedKey} : ∀ {kvs : List (D × D)} {xs : List (NestedKey × Addr × Value)}, DK K γ H kvs xs → (kvs.any fun p => decide (nk p.1 = some k)) = (atKey xs k).isSome
  | [], xs, h => by
    have : xs = [] := h
    subst this
    rfl
  | (kd, d) :: r, xs, h => by
    obtain ⟨q, b, u, t, v, rfl, h1, h2, h3, h4, h5⟩ := h
    have ih := DK.any (k := k) h5
    unfold atKey at ih ⊢
    rw [List.any_cons, List.find?_cons, h1.1]
    by_cases hq : q = k
    · subst hq
      simp
    · have e1 : decide ((some q : Option NestedKey) = some k) = false := decide_eq_false fun z => hq (Option.some.inj z)
      have e2 : decide (q = k) = false := decide_eq_false hq
      simp only [e1, e2, Bool.false_or]
      exact ih
theorem DK.map {K : FK} {k : NestedKey} {kd d : D} {u : Value} {v : V} (hk : nk kd = some k) (hv : RelV v u) (hr : R K γ H d v) : ∀ {kvs : List (D × D)} {xs : List (NestedKey × Addr × Value)}, DK K γ H kvs xs → DK K γ H (kvs.map fun p => if nk p.1 = nk kd then (p.1, d) else p) (xs.map (putAt k u))
  | [], xs, h => by
    have : xs = [] := h
    subst this
    rfl
  | (kd', d') :: r, xs, h => by
    obtain ⟨q, b, u', t, v', rfl, h1, h2, h3, h4, h5⟩ := h
    have ih := DK.map hk hv hr h5
    rw [List.map_cons, List.map_cons]
    by_cases hq : q = k
    · subst hq
      have e1 : nk kd' = nk kd := h1.1.trans hk.symm
      simp only [e1, if_true, putAt]
      exact ⟨q, b, u, _, v, rfl, h1, h2, hv, hr, ih⟩
    · have e1 : nk kd' ≠ nk kd := fun z => hq (by rw [h1.1, hk] at z; exact Option.some.inj z)
      simp only [e1, if_false, putAt, hq]
      exact ⟨q, b, u', _, v', rfl, h1, h2, h3, h4, ih⟩
theorem DK.app {K : FK} {k : NestedKey} {kd d : D} {b : Addr} {u : Value} {v : V} (hk : nk kd = some k ∧ k.depth ≤ 8 ∧ ∃ ts, kd = .tup ts) (hb : R K γ H kd (.ref b)) (hv : RelV v u) (hr : R K γ H d v) : ∀ {kvs : List (D × D)} {xs : List (NestedKey × Addr × Value)}, DK K γ H kvs xs → DK K γ H (kvs ++ [(kd, d)]) (xs ++ [(k, b, u)])
  | [], xs, h => by
    have : xs = [] := h
    subst this
    exact ⟨k, b, u, [], v, rfl, hk, hb, hv, hr, rfl⟩
  | (kd', d') :: r, xs, h => by
    obtain ⟨q, b', u', t, v', rfl, h1, h2, h3, h4, h5⟩ := h
    exact ⟨q, b', u', t ++ [(k, b, u)], v', rfl, h1, h2, h3, h4, DK.app hk hb hv hr h5⟩
theorem DK.put {K : FK} {k : NestedKey} {kd d : D} {b : Addr} {u : Value} {v : V} {kvs : List (D × D)} {xs : List (NestedKey × Addr × Value)} (hk : nk kd = some k ∧ k.depth ≤ 8 ∧ ∃ ts, kd = .tup ts) (hb : R K γ H kd (.ref b)) (hv : RelV v u) (hr : R K γ H d v) (h : DK K γ H kvs xs) :
    DK K γ H (putD kvs kd d) (storedH xs k b u) := by
  unfold putD storedH
  rw [hk.1, h.any]
  split
  · have := DK.map hk.1 hv hr h
    rw [hk.1] at this
    exact this
  · exact DK.app hk hb hv hr h
/-- a root written, in general -/
theorem Sx.write {K : FK} {δ : Env'} {G : Hs} {k : Nat} {o' : GO} {ho : HO} (S : Sx K H δ G σ γ) (hk : γ[k]? = some a) (hg : k < G.length) (mu : ∀ o, H a = some o → Imm o = false) (h : RG K γ (upd H a ho) o' a) :
    Aft γ H γ (upd H a ho) ∧ Sx K (upd H a ho) δ (G.set k o') σ γ := by
  have ma : a ∈ γ := List.mem_of_getElem? hk
  have kp : Kp H (upd H a ho) := fun b o e i => by
    rw [upd_ne]
    · exact e
    · intro z
      subst z
      rw [mu o e] at i
      cases i
  refine ⟨⟨fun b o e i => ?_, fun b e => ?_, List.prefix_rfl, fun b z => .inl z⟩, ⟨⟨by simp [S.len], S.nd, fun b z => ?_, fun j o b e1 e2 => ?_⟩, S.dl, fun i d e => ?_⟩⟩
  · rcases i with i | i
    · rw [upd_ne (fun z => i (by rw [z]; exact ma))]
      exact e
    · exact kp b o e i
  · unfold upd
    split
    · simp
    · exact e
  · unfold upd
    split
    · simp
    · exact S.ex b z
  · by_cases hj : j = k
    · subst hj
      rw [hk] at e2
      cases e2
      rw [List.getElem?_set_self hg] at e1
      cases e1
      exact h
    · rw [List.getElem?_set_ne (Ne.symm hj)] at e1
      have nb : b ≠ a := fun z => by
        subst z
        obtain ⟨h1, e1'⟩ := List.getElem?_eq_some_iff.mp hk
        obtain ⟨h2, e2'⟩ := List.getElem?_eq_some_iff.mp e2
        exact hj ((List.getElem_inj S.nd).mp (e2'.trans e1'.symm))
      have q := S.rt j o b e1 e2
      cases o with
      | lst ds =>
        obtain ⟨ws, h1, h2⟩ := q
        exact ⟨ws, by rw [upd_ne nb]; exact h1, Rs.mono kp Pre.refl _ _ h2⟩
      | dct kvs =>
        obtain ⟨xs, ep, h1, hn, h2⟩ := q
        exact ⟨xs, ep, by rw [upd_ne nb]; exact h1, hn, h2.mono kp Pre.refl⟩
      | ins nx ns ds =>
        obtain ⟨C, dx, ws, h1, hc, h2⟩ := q
        exact ⟨C, dx, ws, by rw [upd_ne nb]; exact h1, hc, Rs.mono kp Pre.refl _ _ h2⟩
      | dead => trivial
  · obtain ⟨v, h1, h2⟩ := S.sl i d e
    exact ⟨v, h1, R.mono kp Pre.refl _ _ h2⟩
/-- a new root, in general -/
theorem Sx.pushO {K : FK} {δ : Env'} {G : Hs} {p : Addr} {o : GO} {ho : HO} (S : Sx K H δ G σ γ) (hp : H p = none) (h : RG K (γ ++ [p]) (upd H p ho) o p) :
    Aft γ H (γ ++ [p]) (upd H p ho) ∧ Sx K (upd H p ho) δ (G ++ [o]) σ (γ ++ [p]) ∧ R K (γ ++ [p]) (upd H p ho) (.rf G.length) (.ref p) := by
  have s := same_upd (o := ho) hp
  have np : p ∉ γ := fun z => S.ex p z hp
  refine ⟨⟨fun b o e _ => s b o e, fun b e => Same.none' s e, List.prefix_append _ _, fun a z => ?_⟩, ⟨⟨?_, ?_, fun a z => ?_, fun k o a e1 e2 => ?_⟩, S.dl, fun i d e => ?_⟩, ?_⟩
  · rcases List.mem_append.mp z with z | z
    · exact .inl z
    · have : a = p := by simpa using z
      subst this
      exact .inr hp
  · simp [S.len]
  · rw [List.nodup_append]
    exact ⟨S.nd, by simp, fun a ha b hb e => by
      have : b = p := by simpa using hb
      subst this
      subst e
      exact np ha⟩
  · rcases List.mem_append.mp z with z | z
    · exact Same.none' s (S.ex a z)
    · have : a = p := by simpa using z
      subst this
      rw [upd_same]
      simp
  · by_cases hk : k < G.length
    · rw [List.getElem?_append_left hk] at e1
      rw [List.getElem?_append_left (by rw [← S.len]; exact hk)] at e2
      exact RG.pre Pre.app (RG.same s (S.rt k o a e1 e2))
    · have hk' : k = G.length := by
        have := (List.getElem?_eq_some_iff.mp e1).1
        simp at this
        omega
      subst hk'
      rw [List.getElem?_append_right (Nat.le_refl _)] at e1
      rw [S.len, List.getElem?_append_right (Nat.le_refl _)] at e2
      simp at e1 e2
      subst e1 e2
      exact h
  · obtain ⟨v, h1, h2⟩ := S.sl i d e
    exact ⟨v, h1, R.mono (Kp.of_same s) Pre.app _ _ h2⟩
  · simp only [R]
    exact ⟨p, rfl, by rw [S.len, List.getElem?_append_right (Nat.le_refl _)]; simp⟩
end

/-! d[k] -/
def dctG (G : Hs) : D → Option (List (D × D))
  | .rf k => match G[k]? with
    | some (.dct kvs) => some kvs
    | _ => none
  | _ => none
theorem dctG_ok {K : FK} {γ : List Addr} {H : Hp} {G : Hs} {d : D} {v : V} {kvs : List (D × D)} (r : Ro K H G γ) (h : R K γ H d v) (e : dctG G d = some kvs) : ∃ a k, d = .rf k ∧ v = .ref a ∧ γ[k]? = some a ∧ G[k]? = some (.dct kvs) ∧ RG K γ H (.dct kvs) a := by
  unfold dctG at e
  split at e
  · rename_i k
    split at e
    · rename_i eg
      cases e
      simp only [R] at h
      obtain ⟨a, rfl, h1⟩ := h
      exact ⟨a, k, rfl, rfl, h1, eg, r.at eg h1⟩
    · cases e
  · cases e
def keyD : D → Option NestedKey
  | .tup ds => (nk (.tup ds)).bind fun k => if k.depth ≤ 8 then some k else none
  | _ => none
theorem keyD_ok {d : D} {k : NestedKey} (h : keyD d = some k) : nk d = some k ∧ k.depth ≤ 8 ∧ ∃ ts, d = .tup ts := by
  unfold keyD at h
  split at h
  · obtain ⟨q, e1, e2⟩ := Option.bind_eq_some_iff.mp h
    split at e2
    · cases e2
      exact ⟨e1, by assumption, _, rfl⟩
    · cases e2
  · cases h
theorem key_ref {K : FK} {γ : List Addr} {H : Hp} {d : D} {k : NestedKey} {v : V} (h : keyD d = some k) (r : R K γ H d v) : ∃ b, v = .ref b := by
  obtain ⟨_, _, ts, rfl⟩ := keyD_ok h
  simp only [R] at r
  obtain ⟨a, vs, rfl, _⟩ := r
  exact ⟨a, rfl⟩
def ixDct : Hs → D → D → Option D := fun G x y => (dctG G x).bind fun kvs => (keyD y).bind fun k => valD kvs k
def rIxDct (K : FK) : R2 := fun x y H Q => ∃ (a b : Addr) (γ : List Addr) (kvs : List (D × D)) (kd d : D) (k : NestedKey), x = .ref a ∧ y = .ref b ∧ RG K γ H (.dct kvs) a ∧ R K γ H kd (.ref b) ∧ keyD kd = some k ∧ valD kvs k = some d ∧ ∀ v, R K γ H d v → Q v H
section
variable {X : Cx} {a b e f o : Expr} {pos pos' apos cpos : Pos} {fa fb fc : RE} {ga gb gc : EE}
theorem room_n {j : Nat} (hr : RoomG j X.A) : X.A.in1.units + 8 < cLine := by
  have h := hr.un
  show X.A.units + 1 + 8 < cLine
  omega
theorem ix_dct {j : Nat} (hr : RoomG j X.A) : IxR X (rIxDct X.F) := by
  intro value slice pins s σ H x y v u Q I rx ry h hs
  obtain ⟨a, b, γ, kvs, kd, d, k, rfl, rfl, rg, rk, ek, ev, q⟩ := h
  cases (show v = Value.ref a from rx)
  cases (show u = Value.ref b from ry)
  obtain ⟨xs, ep, ha, dk, z, hl, dd, _⟩ := dct_at I rg
  obtain ⟨hk1, hk2, _⟩ := keyD_ok ek
  rcases dk.val (k := k) with ⟨e1, _⟩ | ⟨d', b', u', v', e1, e2, r1, r2⟩
  · rw [ev] at e1; cases e1
  · rw [ev] at e1
    cases e1
    refine tail_any (ops := [.ref a, .ref b]) dd.typeIs PySem.F.slot_dict_getitem.lookup ?_ hs
    exact wpAny_getItem_heap (knd := nestedKind X.prog X.w) (k := k) (room_n hr) ⟨R.nest I kd k (.ref b) (.ref b) hk1 rk rfl, hk2⟩ dd e2 ⟨v', H, I.tok _, r1, q v' r2⟩
theorem ixDct_ok {K : FK} : OpG K (rIxDct K) ixDct := by
  intro G γ H dx dy d v u Q r rx ry e q
  simp only [ixDct, Option.bind_eq_some_iff] at e
  obtain ⟨kvs, e1, k, e2, e3⟩ := e
  obtain ⟨a, i, rfl, rfl, hi, eg, rg⟩ := dctG_ok r rx e1
  obtain ⟨b, rfl⟩ := key_ref e2 ry
  exact ⟨a, b, γ, kvs, dy, d, k, rfl, rfl, rg, ry, e2, e3, fun v hv => q v H (Same.refl H) hv⟩
/-- frozen dicts, keys ints and texts -/
def valF (kvs : List (L2.Key × D)) (k : L2.Key) : Option D := (kvs.find? fun p => decide (p.1 = k)).map (·.2)
def keyK : D → Option L2.Key
  | .int i => some (.inl i)
  | .str x => some (.inr x)
  | _ => none
def ixFd : Hs → D → D → Option D := fun _ x y => match x with
  | .fd ks ds => (keyK y).bind fun k => valF (ks.zip ds) k
  | _ => none
def rIxFd : R2 := fun x y H Q => ∃ (a : Addr) (kvs : List (L2.Key × V)) (k : L2.Key) (v : V), x = .ref a ∧ Rd H a (.dK kvs) ∧ y = kV k ∧ valV kvs k = some v ∧ Q v H
theorem ix_fd {j : Nat} (hr : RoomG j X.A) : IxR X rIxFd := by
  intro value slice pins s σ H x y v u Q I rx ry h hs
  obtain ⟨a, kvs, k, w, rfl, hd, rfl, hv, q⟩ := h
  cases (show v = Value.ref a from rx)
  have g : DGet H a (kV k) (some w) := .inl ⟨kvs, k, hd, rfl, hv.symm⟩
  refine tail_any (ops := [.ref a, u]) (dict_typeIs I g) PySem.F.slot_dict_getitem.lookup ?_ hs
  exact d_getItem (by have := hr.un; omega) I g ry fun w' s3 I3 rw' => ⟨w, H, I3, rw', q⟩
theorem zip_val {K : FK} {γ : List Addr} {H : Hp} {k : L2.Key} : ∀ {ks : List L2.Key} {ds : List D} {vs : List V} {d : D}, Rs K γ H ds vs → valF (ks.zip ds) k = some d → ∃ v, valV (ks.zip vs) k = some v ∧ R K γ H d v
  | [], _, _, _, _, e => by simp [valF] at e
  | _ :: _, [], _, _, _, e => by simp [valF] at e
  | c :: ks, x :: ds, vs, d, r, e => by
    obtain ⟨v, vs', rfl, h1, h2⟩ := r.of_cons
    unfold valF at e
    unfold valV
    rw [List.zip_cons_cons, List.find?_cons] at e ⊢
    by_cases hc : c = k
    · subst hc
      simp only [decide_true] at e ⊢
      cases e
      exact ⟨v, rfl, h1⟩
    · simp only [decide_eq_false hc] at e ⊢
      exact zip_val h2 e
theorem ixFd_ok {K : FK} : OpG K rIxFd ixFd := by
  intro G γ H dx dy d v u Q r rx ry e q
  unfold ixFd at e
  split at e
  case h_2 => cases e
  rename_i ks ds
  obtain ⟨k, e1, e2⟩ := Option.bind_eq_some_iff.mp e
  simp only [R] at rx
  obtain ⟨a, o, vs, rfl, h1, hl, h2⟩ := rx
  obtain ⟨w, e3, e4⟩ := zip_val h2 e2
  refine ⟨a, _, k, w, rfl, .inr ⟨o, h1⟩, ?_, e3, q w H (Same.refl H) e4⟩
  unfold keyK at e1
  split at e1
  · cases e1
    simp only [R] at ry
    exact ry
  · cases e1
    simp only [R] at ry
    exact ry
  · cases e1
/-- a subscript of any kind -/
abbrev ixA := fOr ixD (fOr ixDct ixFd)
theorem w_ix {j : Nat} (hr : RoomG j X.A) : ∃ r : R2, IxR X r ∧ OpG X.F r ixA :=
  ⟨_, ix_seq.or ((ix_dct hr).or (ix_fd hr)), opg_or ixD_ok (opg_or ixDct_ok ixFd_ok)⟩
theorem dr_ixA {j : Nat} (hr : RoomG j X.A) (ha : DR X a fa) (hb : DR X b fb) (hs : PlainIx b := by exact fun _ _ => rfl) : DR X (.Subscript a b pos) (rBin ixA fa fb) := by
  obtain ⟨r, h1, h2⟩ := w_ix hr
  exact PE.imp (pe_ix h1 ha hb hs) (bin_r h2)
theorem de_ixA {j : Nat} (hr : RoomG j X.A) (ha : DE X a ga) (hb : DE X b gb) (hs : PlainIx b := by exact fun _ _ => rfl) : DE X (.Subscript a b pos) (eBin ixA ga gb) := by
  obtain ⟨r, h1, h2⟩ := w_ix hr
  exact PE.imp (pe_ix h1 ha hb hs) (bin_e h2)
end
end FL
namespace FL
open PySem PySem.Spec PyProof.Rows L2

/-! ### a[i] = v: a list, a dict at a root -/
theorem PSet.or {X : Cx} {r r' : TSet} (h : PSet X r) (h' : PSet X r') : PSet X (fun o i v H Q => r o i v H Q ∨ r' o i v H Q) := by
  intro pins s σ H o i v ov iv u Q I ro ri rv q
  rcases q with q | q
  · exact h pins s σ H o i v ov iv u Q I ro ri rv q
  · exact h' pins s σ H o i v ov iv u Q I ro ri rv q
def rSetN (K : FK) : TSet := fun o i v H Q => ∃ (a b : Addr) (γ : List Addr) (kvs : List (D × D)) (kd d : D) (k : NestedKey), o = .ref a ∧ i = .ref b ∧ RG K γ H (.dct kvs) a ∧ R K γ H kd (.ref b) ∧ keyD kd = some k ∧ R K γ H d v ∧ kvs.length ≤ 1000000 ∧
  ∀ ho, RG K γ (upd H a ho) (.dct (putD kvs kd d)) a → Q (upd H a ho)
section
variable {X : Cx} {j : Nat}
theorem set_dct (hr : RoomG j X.A) : PSet X (rSetN X.F) := by
  intro pins s σ H o i v ov iv u Q I ro ri rv h
  obtain ⟨a, b, γ, kvs, kd, d, k, rfl, rfl, rg, rk, ek, rd, hl, q⟩ := h
  cases (show ov = Value.ref a from ro)
  cases (show iv = Value.ref b from ri)
  obtain ⟨xs, ep, ha, dk, z, hz, dd, _⟩ := dct_at I rg
  obtain ⟨hk1, hk2, hk3⟩ := keyD_ok ek
  have len := dk.len
  refine wpAny_setItem_heap (hsz := hz) (knd := nestedKind X.prog X.w) (k := k) (room_n hr) ⟨R.nest I kd k (.ref b) (.ref b) hk1 rk rfl, hk2⟩ dd fun h' dd' hs => ?_
  have hl' : (storedH xs k b u).length ≤ sizeLine := by
    have h1 : (storedH xs k b u).length ≤ xs.length + 1 := by
      unfold storedH
      split
      · simp
      · simp
    have h2 : (1000001 : Nat) ≤ sizeLine := by decide
    omega
  obtain ⟨ep', ok⟩ := dct_ok (K := X.F) z hl' dd'
  have he : ∃ q, h'.get? a = some q := let ⟨q, _, _, hq, _⟩ := dd'; ⟨q, hq⟩
  have kp : Kp H (upd H a (dctO X.F a (storedH xs k b u) ep')) := fun c o e i => by
    rw [upd_ne]
    · exact e
    · intro zz
      subst zz
      rw [ha] at e
      cases e
      cases i
  refine ⟨_, d_write I (by rw [ha]; exact True.intro) hs he (ok _), q _ ⟨_, ep', upd_same, ?_, ?_⟩⟩
  · obtain ⟨_, _, _, _, _, _, _, _, hn⟩ := dd'
    exact hn
  · exact (dk.put ⟨hk1, hk2, hk3⟩ rk rv rd).mono kp Pre.refl
end
/-- the store by values -/
def stD (x y z : D) (G : Hs) : Option Hs := match x with
  | .rf k => match G[k]? with
    | some (.lst ds) => match y with
      | .int i => (ixN ds.length i).bind fun j => some (G.set k (.lst (ds.set j z)))
      | _ => none
    | some (.dct kvs) => (keyD y).bind fun _ => if kvs.length ≤ 1000000 then some (G.set k (.dct (putD kvs y z))) else none
    | _ => none
  | _ => none
def sPut (fv fo fi : EE) : SS := fun δ G => (fv δ G).bind fun z => (fo δ z.2).bind fun x => (fi δ x.2).bind fun y => (stD x.1 y.1 z.1 y.2).bind fun G' => some (.nx, δ, G')
section
variable {X : Cx} {j : Nat} {o i value : Expr} {fv fo fi : EE} {pos pos' : Pos}
theorem ds_put (hr : RoomG j X.A) (hv : DE X value fv) (ho : DE X o fo) (hi : DE X i fi) (hs : swapsWithSole [.Subscript o i pos'] value pos.line X.env = pure false := by rfl) (hw : swappedStores [.Subscript o i pos'] value X.env = pure none := by rfl)
    (h1 : (assignEach [.Subscript o i pos'] X.env).map (·.2) = [assign (.Subscript o i pos') X.env] := by rfl)
    (hz : ∀ v, assign (.Subscript o i pos') X.env v = (do
      let ov ← holding [v] (eval o X.env)
      let iv ← holding [v, ov] (eval i X.env)
      standAt pos'
      holding [v, ov, iv] (setItem ov iv v)
      release [v, ov, iv] []) := by intro _; rfl) : DS X (.Assign [.Subscript o i pos'] value pos) (sPut fv fo fi) :=
  PS.imp (ps_asg hv (pg_sub ho hi (PSet.or set_list (set_dct hr)) hz) hs hw h1) fun D σ H ⟨δ, G, γ, k, δ', G', S, ef, q⟩ => by
  simp only [sPut, Option.bind_eq_some_iff, Option.some.injEq, Prod.mk.injEq] at ef
  obtain ⟨⟨z, G1⟩, e1, ⟨x, G2⟩, e2, ⟨y, G3⟩, e3, G4, e4, rfl, rfl, rfl⟩ := ef
  refine ⟨δ, G, γ, z, G1, S, e1, fun v H1 γ1 a1 S1 r1 => ?_⟩
  refine ⟨δ, G1, γ1, x, G2, S1, e2, fun u H2 γ2 a2 S2 r2 => ⟨δ, G2, γ2, y, G3, S2, e3, fun w H3 γ3 a3 S3 r3 => ?_⟩⟩
  have rz := R.aft a3 (R.aft a2 r1)
  have rx := R.aft a3 r2
  have e4 : stD x y z G3 = some G4 := e4
  unfold stD at e4
  split at e4
  case h_2 => cases e4
  rename_i n
  simp only [R] at rx
  obtain ⟨a, rfl, hn⟩ := rx
  split at e4
  · rename_i ds eg
    split at e4
    case h_2 => cases e4
    rename_i c
    simp only [Option.bind_eq_some_iff, Option.some.injEq] at e4
    obtain ⟨m, e5, rfl⟩ := e4
    simp only [R] at r3
    subst r3
    obtain ⟨vs, h2, h3⟩ := S3.toRo.at eg hn
    refine .inl ⟨a, vs, c, m, rfl, rfl, h2, by rw [← h3.length]; exact e5, ?_⟩
    obtain ⟨a4, S4⟩ := S3.put hn eg h2 (h3.set rz m)
    exact q σ _ γ3 (a1.trans (a2.trans (a3.trans a4))) S4
  · rename_i kvs eg
    obtain ⟨kk, e5, e6⟩ := Option.bind_eq_some_iff.mp e4
    split at e6
    case isFalse => cases e6
    rename_i hl
    cases e6
    obtain ⟨b, rfl⟩ := key_ref e5 r3
    have rg := S3.toRo.at eg hn
    refine .inr ⟨a, b, γ3, kvs, y, z, kk, rfl, rfl, rg, r3, e5, rz, hl, fun ho rg' => ?_⟩
    have mu : ∀ o, H3 a = some o → Imm o = false := fun o eo => by
      obtain ⟨xs, ep, h1, _⟩ := rg
      rw [h1] at eo
      cases eo
      rfl
    obtain ⟨a4, S4⟩ := S3.write hn (List.getElem?_eq_some_iff.mp eg).1 mu rg'
    exact q σ _ γ3 (a1.trans (a2.trans (a3.trans a4))) S4
  · cases e4
end
end FL
namespace FL
open PySem PySem.Spec PyProof.Rows L2

section
variable {X : Cx} {j : Nat} {a b e f o tg : Expr} {pos apos cpos : Pos} {fa fb fc : RE} {ga gb gc : EE} {ty tx td : TE}
/-! ### d.get(k, x) -/
def tNGet2 (K : FK) (td ty tx : TE) : TE := fun σ H Q => td σ H fun x H1 => ∃ a, x = .ref a ∧ (∃ γ kvs, RG K γ H1 (.dct kvs) a) ∧ ty σ H1 fun y H2 => tx σ H2 fun z H3 =>
  ∃ (b : Addr) (γ : List Addr) (kvs : List (D × D)) (kd : D) (k : NestedKey), y = .ref b ∧ RG K γ H3 (.dct kvs) a ∧ R K γ H3 kd (.ref b) ∧ keyD kd = some k ∧ (∀ d, valD kvs k = some d → ∀ v, R K γ H3 d v → Q v H3) ∧ (valD kvs k = none → Q z H3)
theorem pe_nget2 (hr : RoomG j X.A) (ho : PE X o td) (he : PE X e ty) (hf : PE X f tx) (m : M2 X o "get" apos e f cpos) : PE X (.Call (.Attribute o "get" apos) [e, f] [] cpos) (tNGet2 X.F td ty tx) := by
  refine ⟨fun pins s σ H Q I h => ?_⟩
  refine wpAny_Call_method m.base m.few m.line PySem.F.plainAttrs_dict PySem.F.slot_dict_get PySem.F.type_dict_get (thn (ho.run pins s σ H _ I h) fun u s1 ⟨x, H1, I1, rx, a, ex, ⟨γ, kvs, rg⟩, q1⟩ => ?_)
  subst ex
  obtain rfl : u = Value.ref a := rx
  obtain ⟨xs, ep, ha, dk, z, hz, dd, ob, es, h1, h2, _⟩ := dct_at I1 rg
  refine ⟨dd.typeIs, fun b q => ?_, ?_⟩
  · cases q
    exact ⟨ob, h1, h2.2.1⟩
  rw [m.trees]
  refine Calls.callWith_builtin rfl (Calls.evalArgs_plain (Calls.spliced_cons (thn (he.run pins s1 σ H1 _ I1 q1) fun iv s2 ⟨y, H2, I2, ry, q2⟩ =>
    Calls.spliced_cons (thn (hf.run pins s2 σ H2 _ I2 q2) fun fv s3 ⟨zz, H3, I3, rz, b, γ3, kvs3, kd, k, ey, rg3, rk, ek, qs, qn⟩ => Calls.spliced_nil ?_))))
  subst ey
  cases (show iv = Value.ref b from ry)
  obtain ⟨xs3, ep3, ha3, dk3, z3, hz3, dd3, _⟩ := dct_at I3 rg3
  obtain ⟨hk1, hk2, _⟩ := keyD_ok ek
  refine call_meetsIn PySem.F.slot_dict_get dd3.typeIs PySem.F.entry_dict_get (PySem.F.args_dict_get_3 _ _ _) (meetsH_dict_get_default (nestedKind X.prog X.w) a b z3 fv) ⟨room_n hr, k, xs3, ⟨R.nest I3 kd k (.ref b) (.ref b) hk1 rk rfl, hk2⟩, dd3, ?_⟩
  rcases dk3.val (k := k) with ⟨e1, e2⟩ | ⟨d', b', u', v', e1, e2, r1, r2⟩
  · rw [e2]
    exact ⟨zz, H3, I3.tok _, rz, qn e1⟩
  · rw [e2]
    exact ⟨v', H3, I3.tok _, r1, qs d' e1 v' r2⟩
def rGet2 (fo fk fx : RE) : RE := fun δ G => (fo δ G).bind fun x => (dctG G x).bind fun kvs => (fk δ G).bind fun y => (fx δ G).bind fun z => (keyD y).bind fun k => match valD kvs k with
  | some d => some d
  | none => some z
theorem dr_get2 (hr : RoomG j X.A) (ho : DR X o fa) (he : DR X e fb) (hf : DR X f fc) (m : M2 X o "get" apos e f cpos := by exact ⟨rfl, rfl, rfl, rfl⟩) : DR X (.Call (.Attribute o "get" apos) [e, f] [] cpos) (rGet2 fa fb fc) := PE.imp (pe_nget2 hr ho he hf m) fun σ H Q ⟨δ, G, γ, d, S, ef, q⟩ => by
  simp only [rGet2, Option.bind_eq_some_iff] at ef
  obtain ⟨x, e1, kvs, e2, y, e3, z, e4, k, e5, e6⟩ := ef
  refine ⟨δ, G, γ, x, S, e1, fun v H1 s1 r1 => ?_⟩
  obtain ⟨a, i, rfl, rfl, hi, eg, rg⟩ := dctG_ok (S.same s1).toRo r1 e2
  refine ⟨a, rfl, ⟨γ, kvs, rg⟩, δ, G, γ, y, S.same s1, e3, fun u H2 s2 r2 => ⟨δ, G, γ, z, (S.same s1).same s2, e4, fun w H3 s3 r3 => ?_⟩⟩
  have s13 := s1.trans (s2.trans s3)
  obtain ⟨b, rfl⟩ := key_ref e5 r2
  refine ⟨b, γ, kvs, y, k, rfl, (S.same s13).toRo.at eg hi, R.same s3 r2, e5, fun d' ed v hv => ?_, fun ed => ?_⟩
  · rw [ed] at e6
    cases e6
    exact q v H3 s13 hv
  · rw [ed] at e6
    cases e6
    exact q w H3 s13 r3

/-! ### displays with tuple keys: a root -/
def lKV (K : FK) (f : Env' → Hs → Option (List (D × D))) (σ : L2.St) (H : Hp) (Q : List (V × V) → Hp → Prop) : Prop := ∃ δ G γ kvs, Sx K H δ G σ γ ∧ f δ G = some kvs ∧ ∀ ps H', Same H H' → (∃ vs us, ps = vs.zip us ∧ vs.length = us.length ∧ Rs K γ H' (kvs.map (·.1)) vs ∧ Rs K γ H' (kvs.map (·.2)) us) → Q ps H'
structure DKV (X : Cx) (pos : Pos) (keys : List (Option Expr)) (values : List Expr) (f : Env' → Hs → Option (List (D × D))) : Prop where
  ex : ∃ trs, PPs X pos keys values trs ∧ ∀ σ H Q, lKV X.F f σ H Q → tPairs trs σ H Q
def kvNil : Env' → Hs → Option (List (D × D)) := fun _ _ => some []
def kvCons (fk fv : RE) (f : Env' → Hs → Option (List (D × D))) : Env' → Hs → Option (List (D × D)) := fun δ G => (fk δ G).bind fun x => (fv δ G).bind fun y => (f δ G).bind fun r => some ((x, y) :: r)
theorem dkv_nil : DKV X pos [] [] kvNil := ⟨[], pps_nil, fun σ H Q ⟨δ, G, γ, kvs, S, ef, q⟩ => by
  cases ef
  exact q [] H (Same.refl H) ⟨[], [], rfl, rfl, Rs.nil, Rs.nil⟩⟩
theorem dkv_cons {k v : Expr} {keys : List (Option Expr)} {values : List Expr} {g : Env' → Hs → Option (List (D × D))} (hk : DR X k fa) (hv : DR X v fb) (hr : DKV X pos keys values g) : DKV X pos (some k :: keys) (v :: values) (kvCons fa fb g) := by
  obtain ⟨trs, h1, h2⟩ := hr.ex
  refine ⟨_, pps_cons hk hv h1, fun σ H Q ⟨δ, G, γ, kvs, S, ef, q⟩ => ?_⟩
  simp only [kvCons, Option.bind_eq_some_iff, Option.some.injEq] at ef
  obtain ⟨x, e1, y, e2, r, e3, rfl⟩ := ef
  refine ⟨δ, G, γ, x, S, e1, fun v H1 s1 r1 => ⟨δ, G, γ, y, S.same s1, e2, fun u H2 s2 r2 => h2 σ H2 _ ⟨δ, G, γ, r, (S.same s1).same s2, e3, fun ps H3 s3 hp => ?_⟩⟩⟩
  obtain ⟨vs, us, rfl, hl, p1, p2⟩ := hp
  exact q _ H3 (s1.trans (s2.trans s3)) ⟨v :: vs, u :: us, rfl, by simp [hl], Rs.cons (R.same s3 (R.same s2 r1)) p1, Rs.cons (R.same s3 r2) p2⟩
def mergeD (kvs : List (D × D)) : List (D × D) := kvs.foldl (fun acc p => putD acc p.1 p.2) []
def dctOk (kvs : List (D × D)) : Bool := kvs.all (fun p => (keyD p.1).isSome) && decide (kvs.length ≤ 15)
def eDct (f : Env' → Hs → Option (List (D × D))) : EE := fun δ G => (f δ G).bind fun kvs => if dctOk kvs = true then some (.rf G.length, G ++ [.dct (mergeD kvs)]) else none
/-- the pairs, as they are stored -/
theorem carriesN {pins : List (Addr × Obj)} {σ : L2.St} {H : Hp} {s : Shared} {γ : List Addr} (I : L2.Inv X pins σ H s) : ∀ {kvs : List (D × D)} {vs us : List V} {ws : List (Value × Value)}, (∀ p ∈ kvs, (keyD p.1).isSome = true) → Rs X.F γ H (kvs.map (·.1)) vs → Rs X.F γ H (kvs.map (·.2)) us → VV (vs.zip us) ws →
    ∃ ps : List (NestedKey × Addr × Value), CarriesH (nestedKind X.prog X.w) s.heap ws ps ∧ ps.length = kvs.length ∧ ∀ (acc : List (D × D)) (xs : List (NestedKey × Addr × Value)), DK X.F γ H acc xs → DK X.F γ H (kvs.foldl (fun acc p => putD acc p.1 p.2) acc) (storedAllH xs ps)
  | [], vs, us, ws, _, r1, r2, w => by
    rw [r1.of_nil] at w
    cases w
    exact ⟨[], trivial, rfl, fun acc xs h => h⟩
  | (kd, d) :: kvs, vs, us, ws, hk, r1, r2, w => by
    obtain ⟨v, vs', rfl, a1, a2⟩ := Rs.of_cons (d := kd) (ds := kvs.map (·.1)) r1
    obtain ⟨u, us', rfl, b1, b2⟩ := Rs.of_cons (d := d) (ds := kvs.map (·.2)) r2
    have hkd := hk _ List.mem_cons_self
    obtain ⟨k, ek⟩ := Option.isSome_iff_exists.mp hkd
    obtain ⟨b, rfl⟩ := key_ref ek a1
    obtain ⟨hk1, hk2, hk3⟩ := keyD_ok ek
    rw [List.zip_cons_cons] at w
    cases w with
    | @cons p q ps qs hpq t =>
      obtain ⟨w1, w2⟩ := hpq
      obtain ⟨q1, q2⟩ := q
      cases (show q1 = Value.ref b from w1)
      obtain ⟨ps', c, hl, hput⟩ := carriesN I (fun p hp => hk p (List.mem_cons_of_mem _ hp)) a2 b2 t
      exact ⟨(k, b, q2) :: ps', ⟨rfl, rfl, ⟨R.nest I kd k (.ref b) (.ref b) hk1 a1 rfl, hk2⟩, c⟩, by simp [hl], fun acc xs h => hput _ _ (h.put ⟨hk1, hk2, hk3⟩ a1 w2 b1)⟩
theorem storedAll_keys : ∀ (ps : List (NestedKey × Addr × Value)) (xs : List (NestedKey × Addr × Value)), (storedAllH xs ps).length ≤ xs.length + ps.length
  | [], xs => by simp [storedAllH]
  | p :: ps, xs => by
    have h := storedAll_keys ps (storedH xs p.1 p.2.1 p.2.2)
    have h1 : (storedH xs p.1 p.2.1 p.2.2).length ≤ xs.length + 1 := by
      unfold storedH
      split
      · simp
      · simp
    show (storedAllH (storedH xs p.1 p.2.1 p.2.2) ps).length ≤ _
    rw [List.length_cons]
    omega
def tDN (K : FK) (trs : List (TE × TE)) : TE := fun σ H Q => ∀ p, H p = none → tPairs trs σ (upd H p (dctO K p [] 0)) fun ps H2 => H2 p = some (dctO K p [] 0) ∧ ∃ (γ : List Addr) (kvs : List (D × D)) (vs us : List V), ps = vs.zip us ∧ Rs K γ H2 (kvs.map (·.1)) vs ∧ Rs K γ H2 (kvs.map (·.2)) us ∧ dctOk kvs = true ∧
  ∀ ho xs ep, ho = dctO K p xs ep → (xs.map (·.1)).Nodup → DK K γ H2 (mergeD kvs) xs → Q (.ref p) (upd H2 p ho)
theorem pe_dn {keys : List (Option Expr)} {values : List Expr} {trs : List (TE × TE)} (hr : RoomG j X.A) (h : PPs X pos keys values trs) (hall : keys.all (·.isSome) = true) (hl : keys.length = values.length) (h0 : keys ≠ []) (h15 : keys.length ≤ 15) :
    PE X (.Dict keys values pos) (tDN X.F trs) := by
  refine ⟨fun pins s σ H Q I q => ?_⟩
  have hn := I.hok.fresh (Nat.le_refl s.heap.objs.size)
  have zz : (s.heap.objs.size == sysModules) = false := beq_eq_false_iff_ne.mpr (Ne.symm (Nat.ne_of_lt I.big))
  have I1 := I.laid (a := s.heap.objs.size) (o := dctO X.F s.heap.objs.size [] 0) (h' := s.heap.push { cls := .type "dict", data := .dict #[] }) (t' := s.toks) (fun _ _ q => Heap.get?_push_of_some _ q) (Nat.le_refl _)
    ⟨⟨zz, Nat.zero_le _, _, #[], Heap.get?_push_size _ rfl, ⟨rfl, rfl, rfl⟩, rfl, rfl⟩, ⟨_, Heap.get?_push_size _ rfl⟩, fun h1 h2 ⟨z1, hl1, o1, es1, e1, r1⟩ k => ⟨z1, hl1, o1, es1, k o1 e1, r1⟩⟩
  have hpl := pairTrees_length keys values X.env pos hall hl
  rw [arm_eval_Dict, zip_pairTrees keys values X.env pos hall hl, dictDisplay_pairs (pairTrees keys values X.env pos) (fun z => h0 (by rw [z] at hpl; exact List.eq_nil_of_length_eq_zero hpl.symm)) (by omega)]
  have hu : (nestedKind X.prog X.w).room X.A := by
    show X.A.units + 8 < cLine
    have := hr.un
    omega
  refine wpAny_bind (wpAny_standAt (wpAny_bind (wpAny_subDictH (knd := nestedKind X.prog X.w) (Q := fun d s' => wpAny (model X.prog X.w) X.A (pure (Value.ref d)) (EP X pins σ Q) X.xe s') hu (by omega) ?_)))
  refine thn (h.run pins _ σ _ _ I1 (q _ hn)) fun ws s2 ⟨ps, H2, I2, rel, e, γ, kvs, vs, us, ep, r1, r2, ok, q2⟩ => ?_
  subst ep
  simp only [dctOk, Bool.and_eq_true, List.all_eq_true, decide_eq_true_eq] at ok
  obtain ⟨cs, c, hcl, hput⟩ := carriesN I2 ok.1 r1 r2 rel
  obtain ⟨⟨_, _, o, es, ho, hx, hd, he⟩, _⟩ := (show ObjOk X.prog X.w H2 s2.heap s.heap.objs.size (dctO X.F s.heap.objs.size [] 0) from I2.hok _ _ e)
  have dk0 : DK X.F γ H2 [] [] := rfl
  have dk1 := hput [] [] dk0
  refine ⟨cs, c, ⟨o, es, 0, ho, hx, hd, by rw [he]; rfl, fun x hx => (by simp at hx), List.nodup_nil⟩, fun h' tk dd' hs => wpAny_pure ?_⟩
  have hsl := storedAll_keys cs []
  have hsz : (storedAllH [] cs).length ≤ sizeLine := by
    have : (15 : Nat) ≤ sizeLine := by decide
    simp at hsl
    omega
  obtain ⟨ep', ok'⟩ := dct_ok (K := X.F) zz hsz dd'
  have hex : ∃ q, h'.get? s.heap.objs.size = some q := let ⟨q, _, _, hq, _⟩ := dd'; ⟨q, hq⟩
  have hnd : ((storedAllH [] cs).map (·.1)).Nodup := by
    obtain ⟨_, _, _, _, _, _, _, _, hn⟩ := dd'
    exact hn
  exact ⟨.ref s.heap.objs.size, _, d_write I2 (by rw [e]; exact True.intro) hs hex (ok' _), rfl, q2 _ _ ep' rfl hnd dk1⟩
theorem de_dct {keys : List (Option Expr)} {values : List Expr} {g : Env' → Hs → Option (List (D × D))} (hr : RoomG j X.A) (h : DKV X pos keys values g) (hall : keys.all (·.isSome) = true := by rfl) (hl : keys.length = values.length := by rfl) (h0 : keys ≠ [] := by simp) (h15 : keys.length ≤ 15 := by decide) :
    DE X (.Dict keys values pos) (eDct g) := by
  obtain ⟨trs, h1, h2⟩ := h.ex
  refine PE.imp (pe_dn hr h1 hall hl h0 h15) fun σ H Q ⟨δ, G, γ, d, G', S, ef, q⟩ p hp => h2 σ _ _ ?_
  simp only [eDct, Option.bind_eq_some_iff] at ef
  obtain ⟨kvs, e1, e2⟩ := ef
  split at e2
  case isFalse => cases e2
  rename_i ok
  cases e2
  have s1 := same_upd (o := dctO X.F p [] 0) hp
  refine ⟨δ, G, γ, kvs, S.same s1, e1, fun ps H2 s2 hps => ?_⟩
  obtain ⟨vs, us, rfl, hvl, r1, r2⟩ := hps
  refine ⟨s2 _ _ upd_same, γ, kvs, vs, us, rfl, r1, r2, ok, fun ho xs ep eho hn dk => ?_⟩
  subst eho
  have np : p ∉ γ := fun z => S.ex p z hp
  have hp2 : H2 p = some (dctO X.F p [] 0) := s2 _ _ upd_same
  have kp : Kp H2 (upd H2 p (dctO X.F p xs ep)) := fun c o e i => by
    rw [upd_ne]
    · exact e
    · intro zz
      subst zz
      rw [hp2] at e
      cases e
      cases i
  have S2 : Sx X.F H2 δ G σ γ := (S.same s1).same s2
  -- a new root, its address already laid
  have S3 : Sx X.F (upd H2 p (dctO X.F p xs ep)) δ G σ γ :=
    { len := S2.len
      nd := S2.nd
      ex := fun b z => by
        unfold upd
        split
        · simp
        · exact S2.ex b z
      rt := fun k x b e1 e2 => by
        have nb : b ≠ p := fun z => np (by rw [← z]; exact List.mem_of_getElem? e2)
        have q := S2.rt k x b e1 e2
        cases x with
        | lst ds =>
          obtain ⟨ws, h1, h2⟩ := q
          exact ⟨ws, by rw [upd_ne nb]; exact h1, Rs.mono kp Pre.refl _ _ h2⟩
        | dct kvs =>
          obtain ⟨xs, ep, h1, hn, h2⟩ := q
          exact ⟨xs, ep, by rw [upd_ne nb]; exact h1, hn, h2.mono kp Pre.refl⟩
        | ins nx ns ds =>
          obtain ⟨C, dx, ws, h1, hc, h2⟩ := q
          exact ⟨C, dx, ws, by rw [upd_ne nb]; exact h1, hc, Rs.mono kp Pre.refl _ _ h2⟩
        | dead => trivial
      dl := S2.dl
      sl := fun i d e => by
        obtain ⟨v, h1, h2⟩ := S2.sl i d e
        exact ⟨v, h1, R.mono kp Pre.refl _ _ h2⟩ }
  have fin : ∀ {K : FK} {HH : Hp} (S3 : Sx K HH δ G σ γ), HH p ≠ none → RG K (γ ++ [p]) HH (.dct (mergeD kvs)) p → Sx K HH δ (G ++ [.dct (mergeD kvs)]) σ (γ ++ [p]) := by
    intro K HH S3 hex rg
    refine ⟨⟨by simp [S3.len], ?_, fun b z => ?_, fun k o b e1 e2 => ?_⟩, S3.dl, fun i d e => ?_⟩
    · rw [List.nodup_append]
      exact ⟨S3.nd, by simp, fun a ha b hb e => by
        have : b = p := by simpa using hb
        subst this
        subst e
        exact np ha⟩
    · rcases List.mem_append.mp z with z | z
      · exact S3.ex b z
      · have : b = p := by simpa using z
        subst this
        exact hex
    · by_cases hk : k < G.length
      · rw [List.getElem?_append_left hk] at e1
        rw [List.getElem?_append_left (by rw [← S3.len]; exact hk)] at e2
        exact RG.pre Pre.app (S3.rt k o b e1 e2)
      · have hk' : k = G.length := by
          have := (List.getElem?_eq_some_iff.mp e1).1
          simp at this
          omega
        subst hk'
        rw [List.getElem?_append_right (Nat.le_refl _)] at e1
        rw [S3.len, List.getElem?_append_right (Nat.le_refl _)] at e2
        simp at e1 e2
        subst e1 e2
        exact rg
    · obtain ⟨v, h1, h2⟩ := S3.sl i d e
      exact ⟨v, h1, R.mono Kp.refl Pre.app _ _ h2⟩
  have S4 := fin S3 (by rw [upd_same]; simp) ⟨xs, ep, upd_same, hn, dk.mono kp Pre.app⟩
  refine q _ _ (γ ++ [p]) ⟨fun b o eb _ => ?_, fun b eb => ?_, List.prefix_append _ _, fun b z => ?_⟩ S4 ?_
  · rw [upd_ne (ne_of_none eb hp)]
    exact s2 _ _ (s1 _ _ eb)
  · unfold upd
    split
    · simp
    · exact Same.none' s2 (Same.none' s1 eb)
  · rcases List.mem_append.mp z with z | z
    · exact .inl z
    · have : b = p := by simpa using z
      subst this
      exact .inr hp
  · simp only [R]
    exact ⟨p, rfl, by rw [S.len, List.getElem?_append_right (Nat.le_refl _)]; simp⟩
/-- {} -/
def eDct0 : EE := fun _ G => some (.rf G.length, G ++ [.dct []])
theorem de_dct0 : DE X (.Dict [] [] pos) eDct0 := by
  refine ⟨fun pins s σ H Q I ⟨δ, G, γ, d, G', S, ef, q⟩ => ?_⟩
  cases ef
  have hn := I.hok.fresh (Nat.le_refl s.heap.objs.size)
  have zz : (s.heap.objs.size == sysModules) = false := beq_eq_false_iff_ne.mpr (Ne.symm (Nat.ne_of_lt I.big))
  have I1 := I.laid (a := s.heap.objs.size) (o := dctO X.F s.heap.objs.size [] 0) (h' := s.heap.push { cls := .type "dict", data := .dict #[] }) (t' := s.toks) (fun _ _ q => Heap.get?_push_of_some _ q) (Nat.le_refl _)
    ⟨⟨zz, Nat.zero_le _, _, #[], Heap.get?_push_size _ rfl, ⟨rfl, rfl, rfl⟩, rfl, rfl⟩, ⟨_, Heap.get?_push_size _ rfl⟩, fun h1 h2 ⟨z1, hl1, o1, es1, e1, r1⟩ k => ⟨z1, hl1, o1, es1, k o1 e1, r1⟩⟩
  obtain ⟨a2, S2, r2⟩ := S.pushO (o := .dct []) (ho := dctO X.F s.heap.objs.size [] 0) hn ⟨[], 0, upd_same, List.nodup_nil, rfl⟩
  exact wpAny_Dict_empty ⟨.ref s.heap.objs.size, _, I1, rfl, q _ _ _ a2 S2 r2⟩
end
end FL
namespace FL
open PySem PySem.Spec PyProof.Rows L2

section
variable {X : Cx} {j : Nat} {a b e f o tg : Expr} {pos apos cpos : Pos} {fa fb fc : RE} {ga gb gc : EE} {ty tx td : TE} {p : Bool}
/-! ### for k in d, where the dict stays -/
def Itn (K : FK) (a : Addr) (xs : List (NestedKey × Addr × Value)) (ep : Nat) : It :=
  ⟨fun i H => H a = some (dctO K a xs ep) ∧ i < xs.length, fun i H x H' => H' = H ∧ ∃ q, xs[i]? = some q ∧ x = .ref q.2.1, fun i H => H a = some (dctO K a xs ep) ∧ xs.length ≤ i⟩
theorem dct_obj {P : Program} {K : FK} {H : Hp} {h : Heap} {a : Addr} {xs : List (NestedKey × Addr × Value)} {ep : Nat} (ok : HOk P K.wd H h) (e : H a = some (dctO K a xs ep)) : (a == sysModules) = false ∧ xs.length ≤ sizeLine ∧ ∃ o es, h.get? a = some o ∧ o.ExactDict ∧ o.data = .dict es ep ∧ es.toList = xs.map (ent0 K) := by
  obtain ⟨⟨z, hl, r⟩, _⟩ := (show ObjOk P K.wd H h a (dctO K a xs ep) from ok a _ e)
  exact ⟨z, hl, r⟩
theorem ents_size {K : FK} {es : Array DictEntry} {xs : List (NestedKey × Addr × Value)} (he : es.toList = xs.map (ent0 K)) : es.size = xs.length := by
  have := congrArg List.length he
  simpa using this
theorem ents_get {K : FK} {es : Array DictEntry} {xs : List (NestedKey × Addr × Value)} (he : es.toList = xs.map (ent0 K)) {i : Nat} {q : NestedKey × Addr × Value} (h : xs[i]? = some q) : es[i]? = some (ent0 K q) := by
  rw [← Array.getElem?_toList, he, List.getElem?_map, h]
  rfl
theorem turn_n {P : Program} {K : FK} {d : Addr} {xs : List (NestedKey × Addr × Value)} {ep : Nat} (it : Addr) : Turn P K.wd K tg (Itn K d xs ep) [it] it (fun i h => h.IsKeyIter it d i xs.length ep) where
  mem := by simp
  obj := fun i h st b hb => by
    have e : b = it := by simpa using hb
    subst e
    obtain ⟨oi, e, c, dd⟩ := st
    exact ⟨oi, e, fun v z => by rw [dd] at z; cases z⟩
  keep := fun i h h' st k => st.at fun oi e => k it (by simp) oi e
  item := by
    intro X hP hw hK hc i pins s σ H E I hf st hg
    obtain ⟨Kf, Kw⟩ := K
    subst hP
    cases hw
    cases hK
    obtain ⟨hd, hi⟩ := hg
    obtain ⟨f0, f1, f2, f3, f4, f5⟩ := hf it (by simp)
    obtain ⟨z, hl, o, es, ho, hx, hdt, he⟩ := dct_obj I.hok hd
    have hq : xs[i]? = some xs[i] := List.getElem?_eq_getElem hi
    refine next_key_item st ho hdt (ents_size he) (ents_get he hq) fun h' st' sb => ?_
    have I1 : L2.Inv X pins σ H { s with heap := h' } := I.turned (t' := s.toks) (fun b ob hb e => (sb.2 b hb).trans e) f0 f1 f3 f4 f5
    obtain ⟨oi, e, c, dd⟩ := id st'
    exact ⟨_, rfl, go_of (s := { s with heap := h' }) e c dd (by decide) ⟨.ref xs[i].2.1, H, I1, rfl, ⟨rfl, _, hq, rfl⟩, st', fun b hb => (hf b hb).1⟩⟩
  done := by
    intro X hP hw hK hc i pins s σ H E I hf st hg
    obtain ⟨Kf, Kw⟩ := K
    subst hP
    cases hw
    cases hK
    obtain ⟨hd, hi⟩ := hg
    obtain ⟨f0, f1, f2, f3, f4, f5⟩ := hf it (by simp)
    obtain ⟨z, hl, o, es, ho, hx, hdt, he⟩ := dct_obj I.hok hd
    exact next_key_end (I.ok.hd hc) st ho hdt (ents_size he) hi fun h' eb => ⟨rfl, I.turned (t' := s.toks) (fun b ob hb e => eb b ob hb e) f0 f1 f3 f4 f5⟩
  self := fun A i s Q E st h => wpAny_pyIter_keyiter st h
def iN (K : FK) (td : TE) : TI := fun σ H R => td σ H fun x H1 => ∃ d xs ep, x = .ref d ∧ H1 d = some (dctO K d xs ep) ∧ R (Itn K d xs ep) H1
theorem pi_n (he : PE X e td) : PI X tg e (iN X.F td) := by
  refine ⟨fun pins s σ H R I h => ?_⟩
  refine thn (he.run pins s σ H _ I h) fun u s1 ⟨x, H1, I1, rx, d, xs, ep, ex, hd, q⟩ => ?_
  subst ex
  obtain rfl : u = Value.ref d := rx
  obtain ⟨z, hl, o, es, ho, hx, hdt, he⟩ := dct_obj I1.hok hd
  refine iter_keys z ho hx hdt (pi_one (tk := s1.toks) I1 _ (turn_n (K := X.F) _) ⟨_, Heap.get?_push_size _ rfl, rfl, ?_⟩ q)
  rw [ents_size he] <;> rfl
theorem DK.get {K : FK} {γ : List Addr} {H : Hp} : ∀ {kvs : List (D × D)} {xs : List (NestedKey × Addr × Value)} {i : Nat} {q : NestedKey × Addr × Value}, DK K γ H kvs xs → xs[i]? = some q → ∃ d, (kvs.map (·.1))[i]? = some d ∧ R K γ H d (.ref q.2.1)
  | [], xs, i, q, h, e => by
    have : xs = [] := h
    rw [this] at e
    simp at e
  | (k, d) :: r, xs, i, q, h, e => by
    obtain ⟨q0, b, u, t, v, rfl, h1, h2, h3, h4, h5⟩ := h
    cases i with
    | zero =>
      have : (q0, b, u) = q := by simpa using e
      subst this
      exact ⟨k, rfl, h2⟩
    | succ i =>
      obtain ⟨d', e1, e2⟩ := DK.get (i := i) h5 (by simpa using e)
      exact ⟨d', by simpa using e1, e2⟩
theorem itOk_n {K : FK} {γ : List Addr} {H : Hp} {a : Addr} {kvs : List (D × D)} {xs : List (NestedKey × Addr × Value)} {ep : Nat} (h : H a = some (dctO K a xs ep)) (dk : DK K γ H kvs xs) : ItOk K true γ (kvs.map (·.1)) (Itn K a xs ep) H := by
  intro H1 s i
  have s' : Same H H1 := by simpa [Stp] using s
  have h1 := s' _ _ h
  have dk1 := dk.mono (Kp.of_same s') (Pre.refl (γ := γ))
  have hl := dk.len
  rw [List.length_map]
  refine ⟨fun hi => ⟨h1, by omega⟩, fun hi => ⟨h1, by omega⟩, fun hlt x H2 y => ?_⟩
  obtain ⟨rfl, q, e1, rfl⟩ := y
  obtain ⟨d, e2, e3⟩ := dk1.get e1
  exact ⟨Same.refl _, d, e2, e3⟩
def iDctR (f : RE) : RA := fun δ G => (f δ G).bind fun x => (dctG G x).bind fun kvs => some (kvs.map (·.1))
theorem dir_dct (h : DR X e fa) : DIR X true tg e (iDctR fa) := PI.imp (pi_n h) fun σ H Q ⟨δ, G, γ, ds, S, ef, q⟩ => by
  simp only [iDctR, Option.bind_eq_some_iff, Option.some.injEq] at ef
  obtain ⟨x, e1, kvs, e2, rfl⟩ := ef
  refine ⟨δ, G, γ, x, S, e1, fun v H1 s1 r1 => ?_⟩
  obtain ⟨a, i, rfl, rfl, hi, eg, xs, ep, h1, hn, dk⟩ := dctG_ok (S.same s1).toRo r1 e2
  exact ⟨a, xs, ep, rfl, h1, q _ H1 s1 (itOk_n h1 dk)⟩

/-! ### sorted(d) -/
def rSrtN (K : FK) : List V → Hp → VK → Prop := fun vs H Q => ∃ (a : Addr) (γ : List Addr) (kvs : List (D × D)), vs = [V.ref a] ∧ RG K γ H (.dct kvs) a ∧ sortable (kvs.map (·.1)) = true ∧
  ∀ ws p, Rs K γ H (srtd (kvs.map (·.1))) ws → H p = none → Q (.ref p) (upd H p (.lst ws))
theorem DK.rs {K : FK} {γ : List Addr} {H : Hp} : ∀ {kvs : List (D × D)} {xs : List (NestedKey × Addr × Value)}, DK K γ H kvs xs → Rs K γ H (kvs.map (·.1)) (xs.map fun x => V.ref x.2.1)
  | [], xs, h => by
    have : xs = [] := h
    rw [this]
    exact Rs.nil
  | (k, d) :: r, xs, h => by
    obtain ⟨q0, b, u, t, v, rfl, h1, h2, h3, h4, h5⟩ := h
    exact Rs.cons h2 (DK.rs h5)
mutual
theorem reads_in {h : Heap} : ∀ {v : Value} {d : PyData} {as : List Addr}, Reads h v d as → d.hasDict = false → ∃ as', Reads h v d as' ∧ ∀ a ∈ as', a < h.objs.size
  | _, _, _, .none, _ => ⟨_, .none, fun a z => by simp at z⟩
  | _, _, _, .bool b, _ => ⟨_, .bool b, fun a z => by simp at z⟩
  | _, _, _, .int i t, _ => ⟨_, .int i t, fun a z => by simp at z⟩
  | _, _, _, .str x t, _ => ⟨_, .str x t, fun a z => by simp at z⟩
  | _, _, _, .list (a := a) h1 h2 h3 h4, hn => by
    obtain ⟨as', r, hl⟩ := readsAll_in h4 (by simpa [PyData.hasDict] using hn)
    refine ⟨_, .list h1 h2 h3 r, fun b z => ?_⟩
    rcases List.mem_cons.mp z with rfl | z
    · exact Heap.lt_size h1
    · exact hl b z
  | _, _, _, .tuple h1 h2 h3 h4, hn => by
    obtain ⟨as', r, hl⟩ := readsAll_in h4 (by simpa [PyData.hasDict] using hn)
    exact ⟨_, .tuple h1 h2 h3 r, hl⟩
  | _, _, _, .dict h1 h2 h3 h4 h5, hn => by simp [PyData.hasDict] at hn
theorem readsAll_in {h : Heap} : ∀ {vs : List Value} {ds : List PyData} {as : List Addr}, ReadsAll h vs ds as → PyData.hasDictAll ds = false → ∃ as', ReadsAll h vs ds as' ∧ ∀ a ∈ as', a < h.objs.size
  | _, _, _, .nil, _ => ⟨_, .nil, fun a z => by simp at z⟩
  | _, _, _, .cons h1 h2, hn => by
    simp only [PyData.hasDictAll, Bool.or_eq_false_iff] at hn
    obtain ⟨a1, r1, l1⟩ := reads_in h1 hn.1
    obtain ⟨a2, r2, l2⟩ := readsAll_in h2 hn.2
    refine ⟨_, .cons r1 r2, fun b z => ?_⟩
    rcases List.mem_append.mp z with z | z
    · exact l1 b z
    · exact l2 b z
end
theorem cr_srtN (hc : X.calm = true) (hr : RoomG j X.A) : CallR X (.builtin "sorted") (rSrtN X.F) := by
  intro pins s σ H vs us Q I r h
  obtain ⟨a, γ, kvs, rfl, rg, so, q⟩ := h
  obtain ⟨u, rfl, ru⟩ := vals1 r
  obtain rfl : u = Value.ref a := ru
  obtain ⟨xs, ep, ha, dk, z, hl, dd, o, es, ho, hx, hd, he⟩ := dct_at I rg
  obtain ⟨h1, h2, h3, h4⟩ := sortable_facts so
  have hsz := ents_size he
  refine Calls.call_function_entry PyProof.Rows.kind_sorted PyProof.Rows.plain_sorted PyProof.Rows.entry_sorted (PyProof.Rows.args_sorted1 _) ?_
  unfold Builtin.«sorted»
  refine wpAny_bind (m := checkCount "sorted" 1 1 _) (wpAny_pure ?_)
  refine wpAny_bind (PySem.W.kdu_collect (A := X.A.in1) (kdl_raw z hx hd) (I.ok.hd hc) ho (by omega) fun h' tk acc hk hacc => ?_)
  have ea : acc.toList = xs.map fun x => Value.ref x.2.1 := by
    have hal : acc.toList.length = xs.length := by rw [Array.length_toList, hacc.1]; exact hsz
    apply List.ext_getElem?
    intro i
    rw [List.getElem?_map]
    cases hj : acc.toList[i]? with
    | none =>
      have h1 := List.getElem?_eq_none_iff.mp hj
      rw [List.getElem?_eq_none (by omega)]
      rfl
    | some v =>
      obtain ⟨en, hen, hv⟩ := hacc.2 i v (by rw [← Array.getElem?_toList]; exact hj)
      have hi : i < xs.length := by
        have := (List.getElem?_eq_some_iff.mp hj).1
        omega
      have hq : xs[i]? = some xs[i] := List.getElem?_eq_getElem hi
      rw [ents_get he hq] at hen
      cases hen
      rw [hq, hv]
      rfl
  have I1 : L2.Inv X pins σ H { s with heap := h', toks := tk } := I.kept hk
  have rv : Vals (xs.map fun x => V.ref x.2.1) acc.toList := by
    rw [ea]
    have := vals_refs (xs.map fun x => x.2.1)
    rw [List.map_map, List.map_map] at this
    exact this
  have e1 := each_of dk.rs rv
  have hlen : acc.toList.length = kvs.length := by rw [ea, List.length_map]; exact dk.len
  have hz7 : acc.toList.length ≤ sizeLine := by rw [ea, List.length_map]; exact hl
  refine wpAny_bind (wpAny_newList ?_ hz7)
  show wpAny _ _ _ _ _ { s with heap := h'.push (seqObj "list" acc.toList.toArray 0), toks := tk }
  have hoL : (h'.push (seqObj "list" acc.toList.toArray 0)).get? h'.objs.size = some (seqObj "list" acc.toList.toArray 0) := Heap.get?_push_size _ rfl
  have e2 : PySem.W.EachIs (fun v b => ∃ as, Reads (h'.push (seqObj "list" acc.toList.toArray 0)) v (D.py b) as ∧ h'.objs.size ∉ as) acc.toList (kvs.map (·.1)) := EachIs.imp' e1 fun u d hd ⟨v, w, rr⟩ => by
    obtain ⟨as, rd⟩ := Dp.reads I1 d.py v u (R.dp d v (h2 d hd).1 rr) w
    obtain ⟨as', rd', lt⟩ := reads_in rd (PyData.hasDict_of_canLay _ (d.lay (h2 d hd).1))
    exact ⟨as', PyProof.Rows.Reads.keeps (fun _ _ e => Heap.get?_push_of_some _ e) rd', fun zz => Nat.lt_irrefl _ (lt _ zz)⟩
  refine wpAny_bind (wpAny_holding (PySem.W.list_sort_data (enc := D.py) hoL e1 e2 ?_ ?_ (by rw [List.length_map, ← hlen]; exact hz7) (fun d hd => ?_) fun out hol hout => ?_))
  · intro d hd d' hd'
    obtain ⟨x, hx, rfl⟩ := List.mem_map.mp hd
    obtain ⟨y, hy, rfl⟩ := List.mem_map.mp hd'
    exact h1 x hx y hy
  · rcases h4 with h4 | h4
    · left
      intro d hd
      obtain ⟨x, hx, rfl⟩ := List.mem_map.mp hd
      obtain ⟨y, r, rfl⟩ := h4 x hx
      exact ⟨y.py, pys r, by simp only [D.py, pys]⟩
    · right
      intro d hd
      obtain ⟨x, hx, rfl⟩ := List.mem_map.mp hd
      exact h4 x hx
  · have q1 := (h2 d hd).2
    have q2 := D.depth d
    have q3 := hr.un
    show X.A.units + 1 + 1 + _ < _
    omega
  · obtain ⟨ws, w1, w2⟩ := of_each hout
    obtain ⟨e', he'⟩ := PyProof.Rows.sortedHeap_at (vs := acc.toList) (out := List.toArray out) hoL
    refine wpAny_pure ⟨_, rfl, .ref h'.objs.size, upd H h'.objs.size (.lst ws), I1.laid (t' := tk) (fun b u e => ?_) (Nat.le_refl _) ⟨?_, out, e', w1, he'⟩, rfl, q ws _ w2 (I1.hok.fresh (Nat.le_refl _))⟩
    · have hb : b < h'.objs.size := Heap.lt_size e
      rw [PyProof.Rows.sortedHeap_old (Nat.ne_of_lt hb) (by rw [size_push']; exact Nat.lt_succ_of_lt hb)]
      exact Heap.get?_push_of_some _ e
    · rw [w1.length, hol, List.length_map, ← hlen]
      exact hz7
def gSortedN : Hs → List D → Option D := fun G ds => match ds with
  | [d] => (dctG G d).bind fun kvs => if sortable (kvs.map (·.1)) = true then some (.fl (srtd (kvs.map (·.1)))) else none
  | _ => none
theorem gSortedN_ok {K : FK} : CallG K (fun xs H Q => rSrtN K xs H fun v H1 => ∃ p vs, v = .ref p ∧ H1 p = some (.lst vs) ∧ ∀ od, Q v (upd H1 p (.frz od (.lst vs)))) gSortedN := by
  intro G γ H ds d vs Q r rs e q
  unfold gSortedN at e
  split at e
  · obtain ⟨kvs, e1, e2⟩ := Option.bind_eq_some_iff.mp e
    split at e2
    case isFalse => cases e2
    rename_i so
    cases e2
    obtain ⟨v, rfl, h⟩ := rs.one
    obtain ⟨a, i, rfl, rfl, hi, eg, rg⟩ := dctG_ok r h e1
    exact ⟨a, γ, kvs, rfl, rg, so, fun ws p hw hp => frz_end hp hw q⟩
  · cases e

/-! ### displays with keys that are written ints and texts: frozen -/
def tFrzD (t : TE) : TE := fun σ H Q => t σ H fun v H1 => ∃ p kvs, v = .ref p ∧ H1 p = some (.dK kvs) ∧ ∀ od, Q v (upd H1 p (.frz od (.dK kvs)))
theorem pe_frzD {t : TE} (h : PE X e t) : PE X e (tFrzD t) := by
  refine ⟨fun pins s σ H Q I hw => ?_⟩
  refine thn (h.run pins s σ H _ I hw) fun u s1 ⟨v, H1, I1, r1, p, vs, ev, hp, q⟩ => ?_
  obtain ⟨od, I2⟩ := I1.lock hp True.intro
  exact ⟨v, _, I2, r1, q od⟩
def lFs (K : FK) (fs : RA) (ks : List L2.Key) (σ : L2.St) (H : Hp) (Q : List (V × V) → Hp → Prop) : Prop := ∃ δ G γ ds, Sx K H δ G σ γ ∧ fs δ G = some ds ∧ ∀ vs H', Same H H' → Rs K γ H' ds vs → Q ((ks.map kV).zip vs) H'
structure DFd (X : Cx) (pos : Pos) (keys : List (Option Expr)) (values : List Expr) (ks : List L2.Key) (fs : RA) : Prop where
  ex : ∃ trs, PPs X pos keys values trs ∧ ∀ σ H Q, lFs X.F fs ks σ H Q → tPairs trs σ H Q
theorem dfd_nil : DFd X pos [] [] [] rNil := ⟨[], pps_nil, fun σ H Q ⟨δ, G, γ, kvs, S, ef, q⟩ => by
  cases ef
  exact q [] H (Same.refl H) Rs.nil⟩
theorem dfd_cons {k v : Expr} {c : L2.Key} {keys : List (Option Expr)} {values : List Expr} {ks : List L2.Key} {fs : RA} (hk : PE X k (tC (kV c))) (hv : DR X v fa) (hr : DFd X pos keys values ks fs) : DFd X pos (some k :: keys) (v :: values) (c :: ks) (rCons fa fs) := by
  obtain ⟨trs, h1, h2⟩ := hr.ex
  refine ⟨_, pps_cons hk hv h1, fun σ H Q ⟨δ, G, γ, ds, S, ef, q⟩ => ?_⟩
  simp only [rCons, Option.bind_eq_some_iff, Option.some.injEq] at ef
  obtain ⟨x, e1, r, e3, rfl⟩ := ef
  refine ⟨δ, G, γ, x, S, e1, fun v H1 s1 r1 => h2 σ H1 _ ⟨δ, G, γ, r, S.same s1, e3, fun vs H3 s3 hp => ?_⟩⟩
  exact q (v :: vs) H3 (s1.trans s3) (Rs.cons (R.same s3 r1) hp)
theorem merge_zip : ∀ {ks : List L2.Key} {vs : List V} {acc : List (L2.Key × V)}, ks.Nodup → (∀ k ∈ ks, k ∉ acc.map (·.1)) → mergeK acc (ks.zip vs) = acc ++ ks.zip vs
  | [], _, acc, _, _ => by simp [mergeK]
  | _ :: _, [], acc, _, _ => by simp [mergeK]
  | k :: ks, v :: vs, acc, nd, hk => by
    have e : putK acc k v = acc ++ [(k, v)] := by
      unfold putK
      rw [if_neg]
      intro z
      obtain ⟨p, hp, e⟩ := List.any_eq_true.mp z
      exact hk k List.mem_cons_self (List.mem_map.mpr ⟨p, hp, of_decide_eq_true e⟩)
    show mergeK (putK acc k v) (ks.zip vs) = _
    rw [e, merge_zip (List.nodup_cons.mp nd).2 (fun c hc z => ?_), List.append_assoc]
    · rfl
    · rw [List.map_append, List.mem_append] at z
      rcases z with z | z
      · exact hk c (List.mem_cons_of_mem _ hc) z
      · have : c = k := by simpa using z
        subst this
        exact (List.nodup_cons.mp nd).1 hc
def rFd (ks : List L2.Key) (fs : RA) : RE := fun δ G => (fs δ G).bind fun ds => if ks.length = ds.length then some (.fd ks ds) else none
theorem dr_fd {keys : List (Option Expr)} {values : List Expr} {ks : List L2.Key} {fs : RA} (h : DFd X pos keys values ks fs) (hn : ks.Nodup := by decide) (hall : keys.all (·.isSome) = true := by rfl) (hl : keys.length = values.length := by rfl) (h0 : keys ≠ [] := by simp) (h15 : keys.length ≤ 15 := by decide) (hk15 : ks.length ≤ 15 := by decide) :
    DR X (.Dict keys values pos) (rFd ks fs) := by
  obtain ⟨trs, h1, h2⟩ := h.ex
  refine PE.imp (pe_frzD (pe_disp h1 hall hl h0 h15)) fun σ H Q ⟨δ, G, γ, d, S, ef, q⟩ p hp => h2 σ _ _ ?_
  simp only [rFd, Option.bind_eq_some_iff] at ef
  obtain ⟨ds, e1, e2⟩ := ef
  split at e2
  case isFalse => cases e2
  rename_i hlen
  cases e2
  have s1 := same_upd (o := .dK []) hp
  refine ⟨δ, G, γ, ds, S.same s1, e1, fun vs H2 s2 r2 => ⟨s2 _ _ upd_same, ks.zip vs, ?_, ?_, ?_⟩⟩
  · rw [List.zip_map_left]
    rfl
  · rw [List.length_zip]
    omega
  · rw [merge_zip hn (by simp), List.nil_append]
    refine ⟨p, ks.zip vs, rfl, upd_same, fun od => ?_⟩
    rw [upd_upd]
    have hp2 : H2 p = some (.dK []) := s2 _ _ upd_same
    have kp : Kp H2 (upd H2 p (.frz od (.dK (ks.zip vs)))) := fun c o e i => by
      rw [upd_ne]
      · exact e
      · intro zz
        subst zz
        rw [hp2] at e
        cases e
        cases i
    refine q _ _ (fun b o eb => ?_) ?_
    · rw [upd_ne (ne_of_none eb hp)]
      exact s2 _ _ (s1 _ _ eb)
    · simp only [R]
      exact ⟨p, od, vs, rfl, upd_same, hlen, Rs.mono kp Pre.refl _ _ r2⟩
end
end FL
namespace FL
open PySem PySem.Spec PyProof.Rows L2
section
variable {X : Cx} {j : Nat} {a b c e : Expr} {es : List Expr} {pos p : Pos} {fa fb fc : RE} {ga gb gc : EE} {fs : RA} {gs : EA} {g g1 g2 : Hs → D → D → Option D} {op : Operator} {co co' : CmpOp}
theorem dr_opB (h : OpB X (binaryOp op) g) (ha : DR X a fa) (hb : DR X b fb) : DR X (.BinOp a op b pos) (rBin g fa fb) := by
  obtain ⟨r, h1, h2⟩ := h
  exact dr_op h1 h2 ha hb
theorem de_opB (h : OpB X (binaryOp op) g) (ha : DE X a ga) (hb : DE X b gb) : DE X (.BinOp a op b pos) (eBin g ga gb) := by
  obtain ⟨r, h1, h2⟩ := h
  exact de_op h1 h2 ha hb
theorem dr_cmpB (h : OpB X (compareOp co) g) (ha : DR X a fa) (hb : DR X b fb) (hm : behindInMarks co b = false) : DR X (.Compare a [co] [b] pos) (rBin g fa fb) := by
  obtain ⟨r, h1, h2⟩ := h
  exact dr_cmp h1 h2 ha hb hm
theorem de_cmpB (h : OpB X (compareOp co) g) (ha : DE X a ga) (hb : DE X b gb) (hm : behindInMarks co b = false) : DE X (.Compare a [co] [b] pos) (eBin g ga gb) := by
  obtain ⟨r, h1, h2⟩ := h
  exact de_cmp h1 h2 ha hb hm
theorem drt_cmpB (h : OpB X (compareOp co) g) (ha : DR X a fa) (hb : DR X b fb) (hm : behindInMarks co b = false) : DRT X (.Compare a [co] [b] pos) (rB (rBin g fa fb)) := by
  obtain ⟨r, h1, h2⟩ := h
  exact drt_cmp h1 h2 ha hb hm
theorem det_cmpB (h : OpB X (compareOp co) g) (ha : DE X a ga) (hb : DE X b gb) (hm : behindInMarks co b = false) : DET X (.Compare a [co] [b] pos) (eB (eBin g ga gb)) := by
  obtain ⟨r, h1, h2⟩ := h
  exact det_cmp h1 h2 ha hb hm
theorem dr_chnB (h : OpB X (compareOp co) g1) (h' : OpB X (compareOp co') g2) (ha : DR X a fa) (hb : DR X b fb) (hc : DR X c fc) (hm : lastMarks [co, co'] [b, c] = false := by with_unfolding_all rfl) : DR X (.Compare a [co, co'] [b, c] pos) (rChn g1 g2 fa fb fc) := by
  obtain ⟨r, h1, h2⟩ := h
  obtain ⟨r', h1', h2'⟩ := h'
  exact dr_chn h1 h1' h2 h2' ha hb hc hm
theorem drt_chnB (h : OpB X (compareOp co) g1) (h' : OpB X (compareOp co') g2) (ha : DR X a fa) (hb : DR X b fb) (hc : DR X c fc) (hm : lastMarks [co, co'] [b, c] = false := by with_unfolding_all rfl) : DRT X (.Compare a [co, co'] [b, c] pos) (rB (rChn g1 g2 fa fb fc)) := by
  obtain ⟨r, h1, h2⟩ := h
  obtain ⟨r', h1', h2'⟩ := h'
  exact drt_chn h1 h1' h2 h2' ha hb hc hm
/-! calls by one word -/
abbrev CalB (X : Cx) (f : Value) (g : Hs → List D → Option D) : Prop := ∃ r, CallR X f r ∧ CallG X.F r g
def gOr (g1 g2 : Hs → List D → Option D) : Hs → List D → Option D := fun G ds => match g1 G ds with
  | some d => some d
  | none => g2 G ds
theorem CalB.or {f : Value} {g1 g2 : Hs → List D → Option D} (h1 : CalB X f g1) (h2 : CalB X f g2) : CalB X f (gOr g1 g2) := by
  obtain ⟨r1, a1, b1⟩ := h1
  obtain ⟨r2, a2, b2⟩ := h2
  refine ⟨fun xs H Q => r1 xs H Q ∨ r2 xs H Q, fun pins s σ H xs us Q I r h => ?_, fun G γ H ds d vs Q r rs e q => ?_⟩
  · rcases h with h | h
    · exact a1 pins s σ H xs us Q I r h
    · exact a2 pins s σ H xs us Q I r h
  · unfold gOr at e
    split at e
    · rename_i d' e'
      cases e
      exact .inl (b1 G γ H ds d vs Q r rs e' q)
    · exact .inr (b2 G γ H ds d vs Q r rs e q)
theorem dr_bi {x : Str} {f : Value} {g : Hs → List D → Option D} (h : CalB X f g) (hm : X.mg x = none) (hv : bootBuiltins x = some f) (hf : (∃ id, f = .builtin id) ∨ ∃ T, f = .type T) (ha : DRA X (e :: es) fs) (hg : Gl X x := by rfl)
    (hn : x ≠ "__name__" := by decide) (hd : (x == ("__debug__" : Str)) = false := by decide) (hs : starEach (e :: es) X.env = (false, eval e X.env) :: starEach es X.env := by rfl) (hpl : (backTo pos (starEach es X.env)).any (·.1) = false := by rfl) :
    DR X (.Call (.Name x p) (e :: es) [] pos) (rCal g fs) := by
  obtain ⟨r, h1, h2⟩ := h
  rcases hf with ⟨id, rfl⟩ | ⟨T, rfl⟩
  · exact dr_callB h1 h2 hm hv ha hg hn hd hs hpl
  · exact dr_callT h1 h2 hm hv ha hg hn hd hs hpl
theorem de_bi {x : Str} {f : Value} {g : Hs → List D → Option D} (h : CalB X f g) (hm : X.mg x = none) (hv : bootBuiltins x = some f) (hf : (∃ id, f = .builtin id) ∨ ∃ T, f = .type T) (ha : DEA X (e :: es) gs) (hg : Gl X x := by rfl)
    (hn : x ≠ "__name__" := by decide) (hd : (x == ("__debug__" : Str)) = false := by decide) (hs : starEach (e :: es) X.env = (false, eval e X.env) :: starEach es X.env := by rfl) (hpl : (backTo pos (starEach es X.env)).any (·.1) = false := by rfl) :
    DE X (.Call (.Name x p) (e :: es) [] pos) (eCal g gs) := by
  obtain ⟨r, h1, h2⟩ := h
  rcases hf with ⟨id, rfl⟩ | ⟨T, rfl⟩
  · exact de_callBi h1 h2 hm hv ha hg hn hd hs hpl
  · exact de_callT h1 h2 hm hv ha hg hn hd hs hpl
abbrev gSortedA := gOr gSorted gSortedN
theorem v_len : CalB X (.builtin "len") gLen := ⟨_, call_len_seq, gLen_ok⟩
theorem v_abs : CalB X (.builtin "abs") gAbs := ⟨_, call_abs, gAbs_ok⟩
theorem v_max2 (hc : X.calm = true) : CalB X (.builtin "max") gMax2 := ⟨_, call_max2 hc, gMax2_ok⟩
theorem v_min2 (hc : X.calm = true) : CalB X (.builtin "min") gMin2 := ⟨_, call_min2 hc, gMin2_ok⟩
theorem v_all (hc : X.calm = true) : CalB X (.builtin "all") gAll := ⟨_, cr_all hc, gAll_ok⟩
theorem v_any (hc : X.calm = true) : CalB X (.builtin "any") gAny := ⟨_, cr_any hc, gAny_ok⟩
theorem v_sum (hc : X.calm = true) : CalB X (.builtin "sum") gSum := ⟨_, cr_sum hc, gSum_ok⟩
theorem v_repr (hr : RoomG j X.A) : CalB X (.builtin "repr") gRepr := ⟨_, call_reprD hr, gRepr_ok⟩
theorem v_sorted (hc : X.calm = true) (hr : RoomG j X.A) : CalB X (.builtin "sorted") gSortedA := .or ⟨_, calr_frz (cr_srt hr.toRoom), gSorted_ok⟩ ⟨_, calr_frz (cr_srtN hc hr), gSortedN_ok⟩
theorem v_int : CalB X (.type "int") gInt := ⟨_, call_int1, gInt_ok⟩
theorem v_tuple : CalB X (.type "tuple") gTuple := ⟨_, call_tuple_of, gTuple_ok⟩
theorem v_list : CalB X (.type "list") gList := ⟨_, calr_frz call_list_of, gList_ok⟩
end
theorem b_len : bootBuiltins "len" = some (.builtin "len") := by decide +kernel
theorem b_abs : bootBuiltins "abs" = some (.builtin "abs") := by decide +kernel
theorem b_max : bootBuiltins "max" = some (.builtin "max") := by decide +kernel
theorem b_min : bootBuiltins "min" = some (.builtin "min") := by decide +kernel
theorem b_all : bootBuiltins "all" = some (.builtin "all") := by decide +kernel
theorem b_any : bootBuiltins "any" = some (.builtin "any") := by decide +kernel
theorem b_sum : bootBuiltins "sum" = some (.builtin "sum") := by decide +kernel
theorem b_repr : bootBuiltins "repr" = some (.builtin "repr") := by decide +kernel
theorem b_sorted : bootBuiltins "sorted" = some (.builtin "sorted") := by decide +kernel
theorem b_int : bootBuiltins "int" = some (.type "int") := by decide +kernel
theorem b_bool : bootBuiltins "bool" = some (.type "bool") := by decide +kernel
theorem b_str : bootBuiltins "str" = some (.type "str") := by decide +kernel
theorem b_tuple : bootBuiltins "tuple" = some (.type "tuple") := by decide +kernel
theorem b_list : bootBuiltins "list" = some (.type "list") := by decide +kernel
theorem b_dict : bootBuiltins "dict" = some (.type "dict") := by decide +kernel
theorem kit_of {K : FK} {T : String} (h : ["NoneType", "bool", "int", "str", "tuple", "list", "dict"].all (fun t => decide (L2.kitB t T = some (isTy T t))) = true) :
    ∀ t ∈ ["NoneType", "bool", "int", "str", "tuple", "list", "dict"], PySem.W.kitOne K (.type t) (.type T) = some (isTy T t) := fun t ht => kit_ty (of_decide_eq_true (List.all_eq_true.mp h t ht))
section
variable {X : Cx} {e : Expr} {fa : RE} {p q pos : Pos}
theorem dr_is {T : String} {x : Str} (ha : DR X e fa) (hm : X.mg "isinstance" = none) (hmT : X.mg x = none) (hvT : bootBuiltins x = some (.type T)) (hk : ["NoneType", "bool", "int", "str", "tuple", "list", "dict"].all (fun t => decide (L2.kitB t T = some (isTy T t))) = true)
    (hg : Gl X "isinstance" := by rfl) (hgT : Gl X x := by rfl) (hn : x ≠ "__name__" := by decide) (hd : (x == ("__debug__" : Str)) = false := by decide)
    (hs : starEach [e, .Name x q] X.env = (false, eval e X.env) :: starEach [.Name x q] X.env := by rfl) (hs2 : starEach [.Name x q] X.env = (false, eval (.Name x q) X.env) :: starEach [] X.env := by rfl) (hpl : (backTo pos (starEach [.Name x q] X.env)).any (·.1) = false := by rfl) :
    DR X (.Call (.Name "isinstance" p) [e, .Name x q] [] pos) (rIsT (isTy T) fa) := dr_isT ha hm hmT hvT (kit_of hk) (.ty T) hg hgT hn hd hs hs2 hpl
end
theorem kt_int : ["NoneType", "bool", "int", "str", "tuple", "list", "dict"].all (fun t => decide (L2.kitB t "int" = some (isTy "int" t))) = true := by decide +kernel
theorem kt_bool : ["NoneType", "bool", "int", "str", "tuple", "list", "dict"].all (fun t => decide (L2.kitB t "bool" = some (isTy "bool" t))) = true := by decide +kernel
theorem kt_str : ["NoneType", "bool", "int", "str", "tuple", "list", "dict"].all (fun t => decide (L2.kitB t "str" = some (isTy "str" t))) = true := by decide +kernel
theorem kt_tuple : ["NoneType", "bool", "int", "str", "tuple", "list", "dict"].all (fun t => decide (L2.kitB t "tuple" = some (isTy "tuple" t))) = true := by decide +kernel
theorem kt_list : ["NoneType", "bool", "int", "str", "tuple", "list", "dict"].all (fun t => decide (L2.kitB t "list" = some (isTy "list" t))) = true := by decide +kernel
theorem kt_dict : ["NoneType", "bool", "int", "str", "tuple", "list", "dict"].all (fun t => decide (L2.kitB t "dict" = some (isTy "dict" t))) = true := by decide +kernel
end FL
namespace L2
open PySem PySem.Spec PyProof.Rows
/-- a law's end over a head by facts, no repr under way -/
theorem walk_ofEG {l : PySem.W.OpenLaw} {n k : Nat} {q : Program} {loose : List Str} {XP : (Str → Option Value) → Heap → Prop} {YP : World → Heap → Prop} {d : DefRec} {CX : CXT} {x : Str}
    (hn : l.most = some n) (hn2 : n ≤ sizeLine) (hdf : d.params.defaults = []) (hr : Room k callerA)
    (F : ∀ (w : World) (mg : Str → Option Value) (fa : Addr) (h : Heap), YP w h → h.Ns mainGlobals mg → mg d.name = some (.ref fa) →
      ∃ (K : PySem.W.Frag) (fd : FuncData) (sp : Sp), K.In h ∧ (∀ (s : Shared) (u : Value), BindsTo s fd ⟨[u], []⟩ [(x, u)]) ∧
        (∀ (H : Hp) (a : Addr) (ns : List Int), ns.length ≤ n → Only H → SqL K H a (ns.map V.int) → sp [.ref a] H (fun v _ => v = .bl true) fun _ _ _ => False) ∧
        ∀ base : Heap, K.In base → base.Ns mainGlobals mg → FnG l.prog w K mg base CX k fa fd [x] sp)
    (hCX : ∀ (H : Hp) (s : Shared) (e : Value) (s' : Shared), CX [] H s (fun _ _ _ => False) e s' → False) :
    PySem.W.WalkO q loose XP YP l.row.toRowW d [] (fun f vs => PySem.call f vs) := by
  refine Att.attach_call hn hdf fun w s₀ s₁ mg mb fa o pm cd doc a vs ns G Y ho hd hcd hmg hobj hints hlen hg => ?_
  obtain ⟨K, fd, sp, KX, hb, hsp, hF⟩ := F w mg fa _ Y G.T.g hmg
  exact law_callG KX G.T.g G.T.b G.T.builtins G.T.nolimit hg hobj hints (Nat.le_trans hlen hn2) hr hF hb (fun H hO hS => hsp H a ns hlen hO hS) fun H e s' => hCX H s₁ e s'
end L2
namespace FL
open PySem PySem.Spec PyProof.Rows L2
/-! ### constants of the module, told by K -/
mutual
def valB (K : PySem.W.Frag) : D → Value → Bool
  | .non, .none => true
  | .bl b, .bool c => b == c
  | .int i, .int k _ => decide (i = k)
  | .str x, .str y _ => decide (x = y)
  | .tup ds, .ref a => match K.lookup a with
    | some ⟨.type c, _, .seq its _, _⟩ => decide (c = "tuple") && decide (its.size ≤ 1000) && valsB K ds its.toList
    | _ => false
  | _, _ => false
def valsB (K : PySem.W.Frag) : List D → List Value → Bool
  | [], [] => true
  | d :: ds, u :: us => valB K d u && valsB K ds us
  | _, _ => false
end
mutual
theorem valB_ok {K : PySem.W.Frag} {w : World} : ∀ (d : D) (u : Value), valB K d u = true → ∃ v, RelV v u ∧ ∀ γ H, R ⟨K, w⟩ γ H d v
  | .non, u, h => by
    cases u <;> simp [valB] at h
    exact ⟨.non, rfl, fun _ _ => by simp only [R]⟩
  | .bl b, u, h => by
    cases u <;> simp [valB] at h
    subst h
    exact ⟨.bl _, rfl, fun _ _ => by simp only [R]⟩
  | .int i, u, h => by
    cases u <;> simp [valB] at h
    subst h
    exact ⟨.int _, ⟨_, rfl⟩, fun _ _ => by simp only [R]⟩
  | .str x, u, h => by
    cases u <;> simp [valB] at h
    subst h
    exact ⟨.str _, ⟨_, rfl⟩, fun _ _ => by simp only [R]⟩
  | .tup ds, u, h => by
    cases u with
    | ref a =>
      simp only [valB] at h
      split at h
      · rename_i c od its n sl hl
        simp only [Bool.and_eq_true, decide_eq_true_eq] at h
        obtain ⟨vs, h1, h2⟩ := valsB_ok (w := w) ds its.toList h.2
        refine ⟨.ref a, rfl, fun γ H => ?_⟩
        simp only [R]
        exact ⟨a, vs, rfl, .inr ⟨_, its, n, hl, by rw [h.1.1], rfl, line1000 h.1.2, h1⟩, h2 γ H⟩
      · cases h
    | _ => simp [valB] at h
  | .fl _, u, h => by cases u <;> simp [valB] at h
  | .obj _ _ _, u, h => by cases u <;> simp [valB] at h
  | .scr _, u, h => by cases u <;> simp [valB] at h
  | .fd _ _, u, h => by cases u <;> simp [valB] at h
  | .rf _, u, h => by cases u <;> simp [valB] at h
theorem valsB_ok {K : PySem.W.Frag} {w : World} : ∀ (ds : List D) (us : List Value), valsB K ds us = true → ∃ vs, Vals vs us ∧ ∀ γ H, Rs ⟨K, w⟩ γ H ds vs
  | [], [], _ => ⟨[], .nil, fun _ _ => Rs.nil⟩
  | [], _ :: _, h => by simp [valsB] at h
  | _ :: _, [], h => by simp [valsB] at h
  | d :: ds, u :: us, h => by
    simp only [valsB, Bool.and_eq_true] at h
    obtain ⟨v, h1, h2⟩ := valB_ok (w := w) d u h.1
    obtain ⟨vs, h3, h4⟩ := valsB_ok (w := w) ds us h.2
    exact ⟨v :: vs, .cons h1 h3, fun γ H => Rs.cons (h2 γ H) (h4 γ H)⟩
end
/-! a module's dict: text keys, int values -/
def tabK (T : List (Str × Int)) : List (Str × KTD.Dat) := T.map fun p => (p.1, KTD.Dat.flat (.int p.2))
def KdOk (K : FK) (mg : Str → Option Value) (x : Str) (T : List (Str × Int)) : Prop := ∃ a, mg x = some (.ref a) ∧ KTD.tabLook (KTD.datLooks fun b => K.fr.lookup b) (fun b => K.fr.lookup b) a (tabK T) = true
def tabOfD : List L2.Key → List D → Option (List (Str × Int))
  | [], [] => some []
  | .inr x :: ks, .int i :: ds => (tabOfD ks ds).map ((x, i) :: ·)
  | _, _ => none
def tabB (K : PySem.W.Frag) (x : Str) (ks : List L2.Key) (ds : List D) : Bool := match PySem.W.nsIn K mainGlobals x, tabOfD ks ds with
  | some (some (.ref a)), some T => KTD.tabLook (KTD.datLooks fun b => K.lookup b) (fun b => K.lookup b) a (tabK T)
  | _, _ => false
def isFd : D → Bool
  | .fd _ _ => true
  | _ => false
def cstB (K : PySem.W.Frag) (p : Str × D) : Bool := match p.2 with
  | .fd ks ds => tabB K p.1 ks ds
  | d => match PySem.W.nsIn K mainGlobals p.1 with
    | some (some u) => valB K d u
    | _ => false
theorem cst_ok {K : PySem.W.Frag} {w : World} {h : Heap} {mg : Str → Option Value} (X : K.In h) (G : h.Ns mainGlobals mg) {x : Str} {d : D} (c : cstB K (x, d) = true) (nf : isFd d = false := by rfl) : CstOk ⟨K, w⟩ mg x d := by
  unfold cstB at c
  split at c
  · rename_i e
    simp only at e
    rw [e] at nf
    cases nf
  · split at c
    · rename_i u e
      obtain ⟨v, h1, h2⟩ := valB_ok (w := w) d u c
      exact ⟨u, v, PySem.W.mg_of X G e, h1, h2⟩
    · cases c
theorem kd_ok {K : PySem.W.Frag} {w : World} {h : Heap} {mg : Str → Option Value} (X : K.In h) (G : h.Ns mainGlobals mg) {x : Str} {ks : List L2.Key} {ds : List D} {T : List (Str × Int)} (c : cstB K (x, .fd ks ds) = true) (e : tabOfD ks ds = some T := by rfl) : KdOk ⟨K, w⟩ mg x T := by
  have c' : tabB K x ks ds = true := c
  unfold tabB at c'
  rw [e] at c'
  split at c'
  · rename_i a T' e1 e2
    cases e2
    exact ⟨a, PySem.W.mg_of X G e1, c'⟩
  · cases c'
/-! ### the Hook -/
def obsF (fa : List He.Fa) (fn : List He.FnD) (cs : List (Str × D)) (K : PySem.W.Frag) : He.Al := ((fa.all fun f => f.ok K) && ((fn.all fun d => (He.Fa.code d.at_ d.qual).ok K) && cs.all fun p => cstB K p), fn.map fun d => He.fnObs K d.at_)
def SaysF (fa : List He.Fa) (fn : List He.FnD) (cs : List (Str × D)) (K : PySem.W.Frag) : Prop := obsF fa fn cs K = He.valE fn
def obsFG (n : Nat) (fa : List He.Fa) (fn : List He.FnD) (cs : List (Str × D)) (g : Addr → Option Obj) : He.Al := obsF fa fn cs (He.frG g (He.asG g n))
def hookF (n : Nat) (fa : List He.Fa) (fn : List He.FnD) (cs : List (Str × D)) : PySem.W.Hook where
  α := He.Al
  obs := fun s => obsFG n fa fn cs s.heap.get?
  val := fun _ => He.valE fn
  says := fun _ h => ∃ K : PySem.W.Frag, K.In h ∧ SaysF fa fn cs K
  of := fun _ _ e => ⟨_, He.frG_in, e⟩
  keeps := fun _ _ _ ⟨K, hK, c⟩ k => ⟨K, PySem.W.Frag.In.keeps hK k, c⟩
theorem obsFG_eq {n : Nat} {fa : List He.Fa} {fn : List He.FnD} {cs : List (Str × D)} {g : Addr → Option Obj} {s : Shared} (h : ∀ a, g a = s.heap.get? a) : obsFG n fa fn cs g = (hookF n fa fn cs).obs s := by
  have e : g = s.heap.get? := funext h
  rw [e] <;> rfl
section
variable {fa : List He.Fa} {fn : List He.FnD} {cs : List (Str × D)} {K : PySem.W.Frag}
theorem SaysF.bool (c : SaysF fa fn cs K) : (fa.all fun f => f.ok K) = true ∧ (fn.all fun d => (He.Fa.code d.at_ d.qual).ok K) = true ∧ (cs.all fun p => cstB K p) = true := by
  have h := congrArg (fun z : He.Al => z.1) c
  have h2 : ((fa.all fun f => f.ok K) && ((fn.all fun d => (He.Fa.code d.at_ d.qual).ok K) && cs.all fun p => cstB K p)) = true := h
  simp only [Bool.and_eq_true] at h2
  exact h2
theorem SaysF.fact (c : SaysF fa fn cs K) {f : He.Fa} (h : f ∈ fa) : f.ok K = true := List.all_eq_true.mp c.bool.1 f h
theorem SaysF.cst (c : SaysF fa fn cs K) {p : Str × D} (h : p ∈ cs) : cstB K p = true := List.all_eq_true.mp c.bool.2.2 p h
theorem SaysF.def_ (c : SaysF fa fn cs K) (i : Nat) {d : He.FnD} (h : fn[i]? = some d) :
    ∃ oc od osl kV doc pm an cdv ct, K.lookup (He.fAd K d.at_) = some ⟨oc, od, .func (PySem.W.fnOf d.name d.qual d.params d.body d.scope .none kV doc pm an cdv ct), osl⟩ ∧ PySem.W.codeIn K cdv d.qual = true := by
  have e : fn.map (fun d => He.fnObs K d.at_) = fn.map He.FnD.val := congrArg (fun z : He.Al => z.2) c
  have e2 : (fn.map fun d => He.fnObs K d.at_)[i]? = (fn.map He.FnD.val)[i]? := by rw [e]
  rw [List.getElem?_map, List.getElem?_map, h] at e2
  exact He.fn_ok (Option.some.inj e2) (List.all_eq_true.mp c.bool.2.1 d (List.mem_of_getElem? h))
/-- a def of the module -/
def fnD (x : Str) (st : Stmt) : He.FnD := ⟨(x, none), x, x, C8.fnArgs st, C8.fnBody st, C8.fnScope st⟩
def inD (x : Str) (st : Stmt) (qual : Str) : He.FnD := ⟨(x, some "__init__"), "__init__", qual, C8.fnArgs st, C8.fnBody st, C8.fnScope st⟩
theorem fun_of (c : SaysF fa fn cs K) (i : Nat) {x : Str} {st : Stmt} {ps : List Str} (h : fn[i]? = some (fnD x st))
    (hb : ∀ (kV doc pm : Value) (an : Option Addr) (cdv ct : Value) (us : List Value), us.length = ps.length → bindArgs (PySem.W.fnOf x x (C8.fnArgs st) (C8.fnBody st) (C8.fnScope st) .none kV doc pm an cdv ct) ⟨us, []⟩ = pure (ps.zip us)) :
    ∃ fd, C8.Fun K x x st (He.ga K x) fd ∧ Binds K fd ps [] := by
  obtain ⟨oc, od, osl, kV, doc, pm, an, cdv, ct, e1, e2⟩ := c.def_ i h
  exact ⟨_, ⟨oc, od, .none, kV, doc, pm, an, cdv, ct, osl, rfl, e1, e2⟩, .all (hb kV doc pm an cdv ct)⟩
theorem init_of (c : SaysF fa fn cs K) (i : Nat) {x qual : Str} {st : Stmt} {ps : List Str} (h : fn[i]? = some (inD x st qual))
    (hb : ∀ (kV doc pm : Value) (an : Option Addr) (cdv ct : Value) (us : List Value), us.length = ps.length → bindArgs (PySem.W.fnOf "__init__" qual (C8.fnArgs st) (C8.fnBody st) (C8.fnScope st) .none kV doc pm an cdv ct) ⟨us, []⟩ = pure (ps.zip us)) :
    ∃ fd, C8.Fun K "__init__" qual st (He.ma K (He.ga K x) "__init__") fd ∧ Binds K fd ps [] := by
  obtain ⟨oc, od, osl, kV, doc, pm, an, cdv, ct, e1, e2⟩ := c.def_ i h
  exact ⟨_, ⟨oc, od, .none, kV, doc, pm, an, cdv, ct, osl, rfl, e1, e2⟩, .all (hb kV doc pm an cdv ct)⟩
theorem def_of {h : Heap} {mg : Str → Option Value} (X : K.In h) (G : h.Ns mainGlobals mg) (c : SaysF fa fn cs K) (i : Nat) {x : Str} {st : Stmt} {ps : List Str} (hi : fn[i]? = some (fnD x st)) (hg : He.Fa.glo x ∈ fa) (hk : He.Fa.keep x ∈ fa)
    (hb : ∀ (kV doc pm : Value) (an : Option Addr) (cdv ct : Value) (us : List Value), us.length = ps.length → bindArgs (PySem.W.fnOf x x (C8.fnArgs st) (C8.fnBody st) (C8.fnScope st) .none kV doc pm an cdv ct) ⟨us, []⟩ = pure (ps.zip us)) :
    ∃ f fd, C8.Def K mg x st f fd ∧ Binds K fd ps [] := by
  obtain ⟨fd, F, b⟩ := fun_of c i hi hb
  exact ⟨_, fd, ⟨F, He.glo_ok X G (c.fact hg), He.keep_ok (c.fact hk)⟩, b⟩
theorem cls_of {w : World} {h : Heap} {mg : Str → Option Value} (X : K.In h) (G : h.Ns mainGlobals mg) (c : SaysF fa fn cs K) {x : Str} {ns : List Str} (hg : He.Fa.glo x ∈ fa) (hc : He.Fa.cls x ∈ fa) (hn : ∀ f ∈ ns, He.Fa.noat x f ∈ fa) (h0 : ns ≠ []) :
    mg x = some (.ref (He.ga K x)) ∧ ObjC ⟨K, w⟩ x (He.ga K x) ns :=
  ⟨He.glo_ok X G (c.fact hg), He.eqO_ok (c.fact hg), He.cls_ok (c.fact hc), fun f hf => He.noat_ok (c.fact (hn f hf)), h0⟩
theorem mk_of (c : SaysF fa fn cs K) {x : Str} (hm : He.Fa.mkr x ∈ fa) : Mk K (He.ga K x) (He.ma K (He.ga K x) "__init__") := He.mkr_ok (c.fact hm)
end
/-- the promise of the law: true for every script -/
def spLaw : Sp := fun vs H Q _ => ∃ v, vs = [v] ∧ ∀ H', Q (.bl true) H'
theorem only_fl {K : PySem.W.Frag} {H : Hp} {a : Addr} {ns : List Int} (hS : SqL K H a (ns.map V.int)) : SqF H a (ns.map V.int) ∨ ¬ SqF H a (ns.map V.int) := Classical.em _
end FL
namespace FL
open PySem PySem.Spec PyProof.Rows L2
/-! ### a name's list root, frozen behind a statement -/
def sFrz (i : Nat) (g : SS) : SS := fun δ G => (g δ G).bind fun x => match x.1 with
  | .nx => match x.2.1[i]? with
    | some (some (.rf k)) => match x.2.2[k]? with
      | some (.lst ds) => some (.nx, x.2.1.set i (some (.fl ds)), x.2.2.set k .dead)
      | _ => none
    | _ => none
  | c => some (c, x.2.1, x.2.2)
section
variable {K : FK} {γ : List Addr} {H : Hp} {δ : Env'} {G : Hs} {σ : L2.St}
theorem Sx.freeze {i k : Nat} {ds : List D} (S : Sx K H δ G σ γ) (hi : δ[i]? = some (some (.rf k))) (hg : G[k]? = some (.lst ds)) :
    ∃ p vs, σ[i]? = some (some (.ref p)) ∧ H p = some (.lst vs) ∧ ∀ od, Aft γ H γ (upd H p (.frz od (.lst vs))) ∧ Sx K (upd H p (.frz od (.lst vs))) (δ.set i (some (.fl ds))) (G.set k .dead) σ γ := by
  obtain ⟨v, h1, h2⟩ := S.sl i _ hi
  simp only [R] at h2
  obtain ⟨p, rfl, hk⟩ := h2
  obtain ⟨vs, ha, hr⟩ := S.rt k _ p hg hk
  have ma : p ∈ γ := List.mem_of_getElem? hk
  refine ⟨p, vs, h1, ha, fun od => ?_⟩
  have kp : Kp H (upd H p (.frz od (.lst vs))) := fun b o e i => by
    rw [upd_ne]
    · exact e
    · intro z
      subst z
      rw [ha] at e
      cases e
      cases i
  refine ⟨⟨fun b o e i => ?_, fun b e => ?_, List.prefix_rfl, fun b z => .inl z⟩, ⟨⟨by simp [S.len], S.nd, fun b z => ?_, fun j o b e1 e2 => ?_⟩, by rw [List.length_set]; exact S.dl, fun j d e => ?_⟩⟩
  · rcases i with i | i
    · rw [upd_ne (fun z => i (by rw [z]; exact ma))]
      exact e
    · exact kp b o e i
  · unfold upd
    split
    · simp
    · exact e
  · unfold upd
    split
    · simp
    · exact S.ex b z
  · by_cases hj : j = k
    · subst hj
      have := (List.getElem?_eq_some_iff.mp hg).1
      rw [List.getElem?_set_self this] at e1
      cases e1
      trivial
    · rw [List.getElem?_set_ne (Ne.symm hj)] at e1
      have nb : b ≠ p := fun z => by
        subst z
        obtain ⟨h1, e1'⟩ := List.getElem?_eq_some_iff.mp hk
        obtain ⟨h2, e2'⟩ := List.getElem?_eq_some_iff.mp e2
        exact hj ((List.getElem_inj S.nd).mp (e2'.trans e1'.symm))
      have q := S.rt j o b e1 e2
      cases o with
      | lst ds =>
        obtain ⟨ws, h1, h2⟩ := q
        exact ⟨ws, by rw [upd_ne nb]; exact h1, Rs.mono kp Pre.refl _ _ h2⟩
      | dct kvs =>
        obtain ⟨xs, ep, h1, hn, h2⟩ := q
        exact ⟨xs, ep, by rw [upd_ne nb]; exact h1, hn, h2.mono kp Pre.refl⟩
      | ins nx ns ds =>
        obtain ⟨C, dx, ws, h1, hc, h2⟩ := q
        exact ⟨C, dx, ws, by rw [upd_ne nb]; exact h1, hc, Rs.mono kp Pre.refl _ _ h2⟩
      | dead => trivial
  · by_cases hj : j = i
    · subst hj
      rw [List.getElem?_set_self (List.getElem?_eq_some_iff.mp hi).1] at e
      cases e
      refine ⟨_, h1, ?_⟩
      simp only [R]
      exact ⟨p, vs, rfl, ⟨od, upd_same⟩, Rs.mono kp Pre.refl _ _ hr⟩
    · rw [List.getElem?_set_ne (Ne.symm hj)] at e
      obtain ⟨w, h3, h4⟩ := S.sl j d e
      exact ⟨w, h3, R.mono kp Pre.refl _ _ h4⟩
theorem ds_frz {X : Cx} {st : Stmt} {g : SS} (i : Nat) (h : DS X st g) : DS X st (sFrz i g) := PS.imp (ps_frzI (i := i) h) fun D σ H ⟨δ, G, γ, k, δ', G', S, ef, q⟩ => by
  simp only [sFrz, Option.bind_eq_some_iff] at ef
  obtain ⟨⟨c, δ1, G1⟩, e1, e2⟩ := ef
  refine ⟨δ, G, γ, c, δ1, G1, S, e1, fun σ' H' γ' a S' => ?_⟩
  cases c with
  | nx =>
    simp only at e2
    split at e2
    case h_2 => cases e2
    rename_i kk hi
    split at e2
    case h_2 => cases e2
    rename_i ds hg
    cases e2
    obtain ⟨p, vs, h1, h2, h3⟩ := S'.freeze hi hg
    exact ⟨p, vs, h1, h2, fun od => q σ' _ γ' (a.trans (h3 od).1) (h3 od).2⟩
  | bk => cases e2; exact q σ' H' γ' a S'
  | ct => cases e2; exact q σ' H' γ' a S'
  | rt d => cases e2; exact q σ' H' γ' a S'
end
end FL
/-! FL22: instances that change: a root of its own; attributes, methods, C(..) -/
namespace L2
open PySem PySem.Spec PyProof.Rows
section
variable {X : Cx} {CX : CXT} {k : Nat} {f C : Addr} {fd : FuncData} {ps : List Str} {sp : Sp} {dvs : List V} {ds : List Value} {E : XK} {x m : Str} {p pos apos : Pos} {e o : Expr} {es : List Expr} {ta : TE} {t : TA}
theorem pe_methG {pl : Sem Bool} (he : PE X o ta) (c : Cls X.K C) (hm : Meth X.K C m f) (F : FnG X.prog X.w X.K X.mg X.base CX k f fd ps sp) (hr : RoomG k X.A) (hb : Binds X.K fd ps ds) (hd : Vals dvs ds) (hx : Passes CX X E) (ha : PA X (e :: es) t)
    (hst : starEach (e :: es) X.env = (false, eval e X.env) :: starEach es X.env := by rfl) (hpl : (backTo pos (starEach es X.env)).any (·.1) = false := by rfl)
    (ht : eval (.Call (.Attribute o m apos) (e :: es) [] pos) X.env = (do
      let ov ← eval o X.env
      standAt apos.atName
      let (f, first) ← holding [ov] (getMethod ov m pl)
      callWith pos f first (backTo pos (starEach (e :: es) X.env)) (backToKw pos (keywordEach [] X.env))) := by rfl) :
    PE X (.Call (.Attribute o m apos) (e :: es) [] pos) (tMeth C m sp dvs E ta t) := by
  refine ⟨fun pins s σ H Q I h => ?_⟩
  refine PySem.W.methodCall_KW (pl := pl) (thn (he.run pins s σ H _ I h) fun u s1 ⟨x, H1, I1, rx, a, dx, fs, ex, ea, l, q⟩ => ?_) ht
  subst ex
  obtain rfl : u = Value.ref a := rx
  refine getmeth_ok I1 ea c hm l ?_
  refine PySem.W.callWith_K (first := [.ref a]) (h₀ := X.base) I1.ok.mod.kin hm.kp (thn (ha.run pos pins s1 σ H1 _ I1 q) fun us s2 ⟨vs, H2, I2, r, q2⟩ => ⟨I2.kIn, ?_⟩) hst hpl
  exact run_fnG (us := .ref a :: us) (vs := .ref a :: vs) F hr hb hd hx I2 (.cons rfl r) q2
theorem pe_methG0 {pl : Sem Bool} (he : PE X o ta) (c : Cls X.K C) (hm : Meth X.K C m f) (F : FnG X.prog X.w X.K X.mg X.base CX k f fd ps sp) (hr : RoomG k X.A) (hb : Binds X.K fd ps ds) (hd : Vals dvs ds) (hx : Passes CX X E)
    (ht : eval (.Call (.Attribute o m apos) [] [] pos) X.env = (do
      let ov ← eval o X.env
      standAt apos.atName
      let (f, first) ← holding [ov] (getMethod ov m pl)
      callWith pos f first (backTo pos (starEach [] X.env)) (backToKw pos (keywordEach [] X.env))) := by rfl) :
    PE X (.Call (.Attribute o m apos) [] [] pos) (tMeth C m sp dvs E ta tNil) := by
  refine ⟨fun pins s σ H Q I h => ?_⟩
  refine PySem.W.methodCall_KW (pl := pl) (thn (he.run pins s σ H _ I h) fun u s1 ⟨x, H1, I1, rx, a, dx, fs, ex, ea, l, q⟩ => ?_) ht
  subst ex
  obtain rfl : u = Value.ref a := rx
  refine getmeth_ok I1 ea c hm l ?_
  exact PySem.W.callWith_K0 (first := [.ref a]) I1.kIn hm.kp (run_fnG (us := [.ref a]) (vs := [.ref a]) F hr hb hd hx I1 (.cons rfl .nil) q)
end
end L2
namespace C8
open PySem PySem.Spec PyProof.Rows L2 SX
/-- a method that may be called -/
structure MetG (P : Program) (w : World) (K : PySem.W.Frag) (mg : Str → Option Value) (base : Heap) (k : Nat) (C : Addr) (m : Str) (sp : Sp) (dvs : List V) : Prop where
  ex : ∃ (f : Addr) (fd : FuncData) (ps : List Str) (ds : List Value), FnG P w K mg base CX0 k f fd ps sp ∧ Meth K C m f ∧ Binds K fd ps ds ∧ Vals dvs ds
section
variable {P : Program} {w : World} {K : PySem.W.Frag} {mg : Str → Option Value} {base : Heap}
theorem metG {x m qual : Str} {C : Addr} {st : Stmt} {f : Addr} {fd : FuncData} {N ps : List Str} {ds : List Value} {dvs : List V} {k : Nat} {sp : Sp} (M : Meth K C m f) (F : Fun K x qual st f fd) (b : Binds K fd ps ds) (d : Vals dvs ds) (S : FnScope N ps (fnScope st)) (len : ∀ vs H Q E, sp vs H Q E → vs.length = ps.length)
    (hbody : ∀ (cdv : Value) (A : Around) (outer : List Env) (s : Shared) (H : Hp) (vs : List V) (Q : VK) (E : XK), RoomG k (A.deeper (envOfC qual (fnScope st) s.heap.objs.size f cdv)) → sp vs H Q E →
      ∃ t, PSs (cxOf CX0 P w K mg base N qual (fnScope st) f cdv A outer s H E).nox (fnBody st) t ∧ t { nx := fun _ H' => Q .non H', rt := Q } (start N vs) H) : MetG P w K mg base (k + 1) C m sp dvs :=
  ⟨f, fd, ps, ds, fnG0 F S len hbody, M, b, d⟩
end
section
variable {X : Cx} {k j : Nat} {C : Addr} {x m : Str} {sp : Sp} {dvs : List V} {p pos apos : Pos} {e o : Expr} {es : List Expr} {ta : TE} {t : TA} {pl : Sem Bool}
theorem pe_metG (he : PE X o ta) (c : Cls X.K C) (M : MetG X.prog X.w X.K X.mg X.base k C m sp dvs) (hr : RoomG j X.A) (hk : k ≤ j) (ha : PA X (e :: es) t)
    (hst : starEach (e :: es) X.env = (false, eval e X.env) :: starEach es X.env := by rfl) (hpl : (backTo pos (starEach es X.env)).any (·.1) = false := by rfl)
    (ht : eval (.Call (.Attribute o m apos) (e :: es) [] pos) X.env = (do
      let ov ← eval o X.env
      standAt apos.atName
      let (f, first) ← holding [ov] (getMethod ov m pl)
      callWith pos f first (backTo pos (starEach (e :: es) X.env)) (backToKw pos (keywordEach [] X.env))) := by rfl) :
    PE X (.Call (.Attribute o m apos) (e :: es) [] pos) (tMeth C m sp dvs E0 ta t) := by
  obtain ⟨f, fd, ps, ds, F, hm, b, d⟩ := M.ex
  exact pe_methG he c hm F (hr.mono hk) b d pass0 ha hst hpl ht
theorem pe_metG0 (he : PE X o ta) (c : Cls X.K C) (M : MetG X.prog X.w X.K X.mg X.base k C m sp dvs) (hr : RoomG j X.A) (hk : k ≤ j)
    (ht : eval (.Call (.Attribute o m apos) [] [] pos) X.env = (do
      let ov ← eval o X.env
      standAt apos.atName
      let (f, first) ← holding [ov] (getMethod ov m pl)
      callWith pos f first (backTo pos (starEach [] X.env)) (backToKw pos (keywordEach [] X.env))) := by rfl) :
    PE X (.Call (.Attribute o m apos) [] [] pos) (tMeth C m sp dvs E0 ta tNil) := by
  obtain ⟨f, fd, ps, ds, F, hm, b, d⟩ := M.ex
  exact pe_methG0 he c hm F (hr.mono hk) b d pass0 ht
end
end C8
namespace FL
open PySem PySem.Spec PyProof.Rows L2

/-! ### attributes -/
/-- an instance at a root -/
def insG (G : Hs) : D → Option (Str × List Str × List D)
  | .rf k => match G[k]? with
    | some (.ins x ns ds) => some (x, ns, ds)
    | _ => none
  | _ => none
theorem insG_ok {K : FK} {γ : List Addr} {H : Hp} {G : Hs} {d : D} {v : V} {x : Str} {ns : List Str} {ds : List D} (r : Ro K H G γ) (h : R K γ H d v) (e : insG G d = some (x, ns, ds)) : ∃ a k, d = .rf k ∧ v = .ref a ∧ γ[k]? = some a ∧ G[k]? = some (.ins x ns ds) ∧ RG K γ H (.ins x ns ds) a := by
  unfold insG at e
  split at e
  · rename_i k
    split at e
    · rename_i eg
      cases e
      simp only [R] at h
      obtain ⟨a, rfl, h1⟩ := h
      exact ⟨a, k, rfl, rfl, h1, eg, r.at eg h1⟩
    · cases e
  · cases e
def rAtI (f : Str) (fa : RE) : RE := fun δ G => (fa δ G).bind fun x => (insG G x).bind fun y => (y.2.1.zip y.2.2).lookup f
section
variable {X : Cx} {a o e value : Expr} {f : Str} {fa : RE} {ga gb : EE} {pos pos' apos : Pos}
theorem dr_atI (ha : DR X a fa) (hb : attributeBase a f X.env (eval a X.env) = eval a X.env := by rfl) : DR X (.Attribute a f pos) (rAtI f fa) := PE.imp (pe_fld ha hb) fun σ H Q ⟨δ, G, γ, d, S, ef, q⟩ => by
  simp only [rAtI, Option.bind_eq_some_iff] at ef
  obtain ⟨x, e1, ⟨y, ns, ds⟩, e2, e3⟩ := ef
  refine ⟨δ, G, γ, x, S, e1, fun v H1 s1 r1 => ?_⟩
  obtain ⟨p, k, rfl, rfl, hk, eg, C', dx, vs, h1, hc, h2⟩ := insG_ok (S.same s1).toRo r1 e2
  obtain ⟨w, h3, h4⟩ := zip_lookup h2 e3
  exact ⟨p, C', dx, _, w, rfl, h1, hc.1.2.1, hc.1.2.2 f (zip_mem e3), h3, q w H1 s1 h4⟩
/-- o.f = e -/
def setF (f : Str) (d : D) : List Str → List D → List Str × List D
  | [], _ => ([f], [d])
  | n :: ns, [] => (n :: ns, [])
  | n :: ns, x :: ds => if n = f then (n :: ns, d :: ds) else (n :: (setF f d ns ds).1, x :: (setF f d ns ds).2)
theorem setF_ok {K : FK} {γ : List Addr} {H : Hp} {d : D} {w : V} (hw : R K γ H d w) : ∀ {ns : List Str} {ds : List D} {vs : List V}, ns.length = ds.length → Rs K γ H ds vs → ∃ ws, putF f w (ns.zip vs) = (setF f d ns ds).1.zip ws ∧ Rs K γ H (setF f d ns ds).2 ws ∧ (setF f d ns ds).1.length = (setF f d ns ds).2.length ∧ (∀ g ∈ (setF f d ns ds).1, g = f ∨ g ∈ ns)
  | [], [], vs, _, r => by
    rw [r.of_nil]
    exact ⟨[w], rfl, Rs.cons hw Rs.nil, rfl, fun g hg => .inl (by simpa [setF] using hg)⟩
  | [], _ :: _, _, hl, _ => by simp at hl
  | n :: ns, [], _, hl, _ => by simp at hl
  | n :: ns, x :: ds, vs, hl, r => by
    obtain ⟨v, vs', rfl, h1, h2⟩ := r.of_cons
    rw [List.zip_cons_cons]
    unfold setF
    rw [show putF f w ((n, v) :: ns.zip vs') = (if n = f then (n, w) :: ns.zip vs' else (n, v) :: putF f w (ns.zip vs')) from rfl]
    split
    · exact ⟨w :: vs', by simp, Rs.cons hw h2, by simpa using hl, fun g hg => .inr hg⟩
    · obtain ⟨ws, e1, e2, e3, e4⟩ := setF_ok hw (ns := ns) (by simpa using hl) h2
      refine ⟨v :: ws, by rw [e1]; rfl, Rs.cons h1 e2, by simpa using e3, fun g hg => ?_⟩
      rcases List.mem_cons.mp hg with hg | hg
      · exact .inr (by simp [hg])
      · rcases e4 g hg with z | z
        · exact .inl z
        · exact .inr (List.mem_cons_of_mem _ z)
def stF (x : Str) (at_ : List Str) (f : Str) (o d : D) (G : Hs) : Option Hs := match o with
  | .rf k => match G[k]? with
    | some (.ins y ns ds) => if y = x ∧ f ∈ at_ ∧ immN (setF f d ns ds).1 = false ∧ ns.length < 900 then some (G.set k (.ins y (setF f d ns ds).1 (setF f d ns ds).2)) else none
    | _ => none
  | _ => none
def sFldI (x : Str) (at_ : List Str) (f : Str) (fo fv : EE) : SS := fun δ G => (fv δ G).bind fun z => (fo δ z.2).bind fun y => (stF x at_ f y.1 z.1 y.2).bind fun G' => some (.nx, δ, G')
theorem ds_fldI {C : Addr} {x : Str} {at_ : List Str} (hc : ObjI X.F x C at_) (ho : DE X o ga) (hv : DE X value gb) (hs : swapsWith value (some (.Attribute o f pos')) pos.line X.env = pure false := by rfl) : DS X (.Assign [.Attribute o f pos'] value pos) (sFldI x at_ f ga gb) :=
  PS.imp (ps_fld ho hv hs) fun D σ H ⟨δ, G, γ, k, δ', G', S, ef, q⟩ => by
  simp only [sFldI, Option.bind_eq_some_iff, Option.some.injEq, Prod.mk.injEq] at ef
  obtain ⟨⟨z, G1⟩, e1, ⟨y, G2⟩, e2, G3, e3, rfl, rfl, rfl⟩ := ef
  refine ⟨δ, G, γ, z, G1, S, e1, fun v H1 γ1 a1 S1 r1 => ⟨δ, G1, γ1, y, G2, S1, e2, fun u H2 γ2 a2 S2 r2 => ?_⟩⟩
  have e3 : stF x at_ f y z G2 = some G3 := e3
  unfold stF at e3
  split at e3
  case h_2 => cases e3
  rename_i n
  split at e3
  case h_2 => cases e3
  rename_i x' ns ds eg
  split at e3
  case isFalse => cases e3
  rename_i hh
  obtain ⟨rfl, hf, hi, hl⟩ := hh
  cases e3
  simp only [R] at r2
  obtain ⟨a, rfl, hn⟩ := r2
  obtain ⟨C', dx, vs, h1, hc2, h2⟩ := S2.toRo.at eg hn
  have rz := R.aft a2 r1
  have eC : (some (some (Value.ref C)) : Option (Option Value)) = some (some (.ref C')) := hc.1.symm.trans hc2.1.1
  cases eC
  obtain ⟨ws, w1, w2, w3, w4⟩ := setF_ok (f := f) rz hc2.2.1 h2
  refine ⟨a, C, dx, _, rfl, h1, hc.2.1, hc.2.2 f hf, by rw [List.length_zip]; omega, ?_⟩
  rw [w1]
  have mu : ∀ o, H2 a = some o → Imm o = false := fun o eo => by
    rw [h1] at eo
    cases eo
    exact imm_ins hc2.2.1 hc2.2.2 h2.length
  have kp : Kp H2 (upd H2 a (.ins C dx ((setF f z ns ds).1.zip ws))) := fun b o e i => by
    rw [upd_ne]
    · exact e
    · intro zz
      subst zz
      rw [mu o e] at i
      cases i
  obtain ⟨a4, S4⟩ := S2.write (o' := .ins x' (setF f z ns ds).1 (setF f z ns ds).2) hn (List.getElem?_eq_some_iff.mp eg).1 mu
    ⟨C, dx, ws, upd_same, ⟨⟨hc.1, hc.2.1, fun g hg => (w4 g hg).elim (fun e => e ▸ hc.2.2 f hf) (hc2.1.2.2 g)⟩, w3, hi⟩, Rs.mono kp Pre.refl _ _ w2⟩
  exact q σ _ γ2 (a1.trans (a2.trans a4)) S4
end

/-! ### calls that are given roots, and what hangs on them -/
def rfs : List D → List Nat
  | [] => []
  | .rf k :: ds => k :: rfs ds
  | _ :: ds => rfs ds
def hang (G : Hs) (k : Nat) : List Nat := match G[k]? with
  | some (.ins _ _ fs) => rfs fs
  | _ => []
def reach (G : Hs) (ds : List D) : List Nat := (rfs ds ++ (rfs ds).flatMap (hang G)).eraseDups
def ren (f : Nat → Option Nat) (d : D) : Option D := if d.im = true then some d else match d with
  | .rf k => (f k).map .rf
  | _ => none
def rens (f : Nat → Option Nat) : List D → Option (List D)
  | [] => some []
  | d :: ds => (ren f d).bind fun d' => (rens f ds).bind fun ds' => some (d' :: ds')
def renO (f : Nat → Option Nat) (o : GO) : Option GO := if o.flat = true then some o else match o with
  | .lst ds => (rens f ds).map .lst
  | .ins x ns ds => (rens f ds).map (.ins x ns)
  | _ => none
def renOs (f : Nat → Option Nat) : List GO → Option (List GO)
  | [] => some []
  | o :: os => (renO f o).bind fun o' => (renOs f os).bind fun os' => some (o' :: os')
def pickG (G : Hs) : List Nat → Option (List GO)
  | [] => some []
  | k :: ks => (G[k]?).bind fun o => (pickG G ks).bind fun os => some (o :: os)
def putG (G : Hs) : List Nat → List GO → Hs
  | k :: ks, o :: os => putG (G.set k o) ks os
  | _, _ => G
def backI (n : Nat) (ks : List Nat) (i : Nat) : Option Nat := if i < ks.length then ks[i]? else some (n + (i - ks.length))
def callK (ks : List Nat) (F : List D → Hs → Option (D × Hs)) (ds : List D) (G : Hs) : Option (D × Hs) :=
  if ks.Nodup then (pickG G ks).bind fun os => (renOs (fun k => ks.idxOf? k) os).bind fun os' => (rens (fun k => ks.idxOf? k) ds).bind fun ds' => (F ds' os').bind fun r =>
    (renOs (backI G.length ks) r.2).bind fun G2 => (ren (backI G.length ks) r.1).bind fun d => if ks.length ≤ G2.length then some (d, putG G ks (G2.take ks.length) ++ G2.drop ks.length) else none
  else none
def callM (F : List D → Hs → Option (D × Hs)) (ds : List D) (G : Hs) : Option (D × Hs) := callK (reach G ds) F ds G
section
variable {K : FK} {γ γ' γ2 : List Addr} {H H' : Hp} {δ : Env'} {G : Hs} {σ : L2.St}
theorem ren_ok {f : Nat → Option Nat} (hf : ∀ k j a, f k = some j → γ[k]? = some a → γ'[j]? = some a) {d d' : D} {v : V} (e : ren f d = some d') (h : R K γ H d v) : R K γ' H d' v := by
  unfold ren at e
  split at e
  · rename_i him
    cases e
    exact R.im _ _ him h
  · split at e
    · obtain ⟨j, e1, rfl⟩ := Option.map_eq_some_iff.mp e
      simp only [R] at h ⊢
      obtain ⟨a, rfl, h1⟩ := h
      exact ⟨a, rfl, hf _ _ _ e1 h1⟩
    · cases e
theorem rens_ok {f : Nat → Option Nat} (hf : ∀ k j a, f k = some j → γ[k]? = some a → γ'[j]? = some a) : ∀ {ds ds' : List D} {vs : List V}, rens f ds = some ds' → Rs K γ H ds vs → Rs K γ' H ds' vs
  | [], ds', vs, e, h => by
    cases e
    rw [h.of_nil]
    exact Rs.nil
  | d :: ds, ds', vs, e, h => by
    simp only [rens, Option.bind_eq_some_iff, Option.some.injEq] at e
    obtain ⟨d', e1, ds'', e2, rfl⟩ := e
    obtain ⟨v, r, rfl, h1, h2⟩ := h.of_cons
    exact Rs.cons (ren_ok hf e1 h1) (rens_ok hf e2 h2)
theorem rens_len {f : Nat → Option Nat} : ∀ {ds ds' : List D}, rens f ds = some ds' → ds'.length = ds.length
  | [], ds', e => by cases e; rfl
  | d :: ds, ds', e => by
    simp only [rens, Option.bind_eq_some_iff, Option.some.injEq] at e
    obtain ⟨d', e1, ds'', e2, rfl⟩ := e
    simp [rens_len e2]
theorem renO_ok {f : Nat → Option Nat} (hf : ∀ k j a, f k = some j → γ[k]? = some a → γ'[j]? = some a) {o o' : GO} {a : Addr} (e : renO f o = some o') (h : RG K γ H o a) : RG K γ' H o' a := by
  unfold renO at e
  split at e
  · rename_i hfl
    cases e
    exact RG.flat hfl h
  · split at e
    · obtain ⟨ds', e1, rfl⟩ := Option.map_eq_some_iff.mp e
      obtain ⟨vs, h1, h2⟩ := h
      exact ⟨vs, h1, rens_ok hf e1 h2⟩
    · obtain ⟨ds', e1, rfl⟩ := Option.map_eq_some_iff.mp e
      obtain ⟨C, dx, vs, h1, hc, h2⟩ := h
      exact ⟨C, dx, vs, h1, ⟨hc.1, by rw [rens_len e1]; exact hc.2.1, hc.2.2⟩, rens_ok hf e1 h2⟩
    · cases e
theorem renOs_get {f : Nat → Option Nat} : ∀ {os os' : List GO} {i : Nat} {o' : GO}, renOs f os = some os' → os'[i]? = some o' → ∃ o, os[i]? = some o ∧ renO f o = some o'
  | [], os', i, o', e, h => by
    cases e
    simp at h
  | o :: os, os', i, o', e, h => by
    simp only [renOs, Option.bind_eq_some_iff, Option.some.injEq] at e
    obtain ⟨q, e1, qs, e2, rfl⟩ := e
    cases i with
    | zero =>
      simp at h
      subst h
      exact ⟨o, rfl, e1⟩
    | succ i =>
      obtain ⟨p, h1, h2⟩ := renOs_get (i := i) e2 (by simpa using h)
      exact ⟨p, by simpa using h1, h2⟩
theorem renOs_len {f : Nat → Option Nat} : ∀ {os os' : List GO}, renOs f os = some os' → os'.length = os.length
  | [], os', e => by cases e; rfl
  | o :: os, os', e => by
    simp only [renOs, Option.bind_eq_some_iff, Option.some.injEq] at e
    obtain ⟨q, e1, qs, e2, rfl⟩ := e
    simp [renOs_len e2]
theorem pickG_len : ∀ {ks : List Nat} {os : List GO}, pickG G ks = some os → os.length = ks.length
  | [], os, e => by cases e; rfl
  | k :: ks, os, e => by
    simp only [pickG, Option.bind_eq_some_iff, Option.some.injEq] at e
    obtain ⟨o, e1, os', e2, rfl⟩ := e
    simp [pickG_len e2]
theorem pickG_get : ∀ {ks : List Nat} {os : List GO} {i : Nat} {o : GO}, pickG G ks = some os → os[i]? = some o → ∃ k, ks[i]? = some k ∧ G[k]? = some o
  | [], os, i, o, e, h => by
    cases e
    simp at h
  | k :: ks, os, i, o, e, h => by
    simp only [pickG, Option.bind_eq_some_iff, Option.some.injEq] at e
    obtain ⟨o1, e1, os', e2, rfl⟩ := e
    cases i with
    | zero =>
      simp at h
      subst h
      exact ⟨k, rfl, e1⟩
    | succ i =>
      obtain ⟨k', h1, h2⟩ := pickG_get (i := i) e2 (by simpa using h)
      exact ⟨k', by simpa using h1, h2⟩
theorem pickG_addr (hl : G.length = γ.length) : ∀ {ks : List Nat} {os : List GO}, pickG G ks = some os → ∃ γs : List Addr, γs.length = ks.length ∧ ∀ (i k : Nat), ks[i]? = some k → ∃ a, γs[i]? = some a ∧ γ[k]? = some a
  | [], os, e => ⟨[], rfl, fun i k h => by simp at h⟩
  | k :: ks, os, e => by
    simp only [pickG, Option.bind_eq_some_iff, Option.some.injEq] at e
    obtain ⟨o1, e1, os', e2, rfl⟩ := e
    obtain ⟨γs, h1, h2⟩ := pickG_addr hl e2
    have hk := (List.getElem?_eq_some_iff.mp e1).1
    refine ⟨γ[k]'(by omega) :: γs, by simp [h1], fun i k' h => ?_⟩
    cases i with
    | zero =>
      simp at h
      subst h
      exact ⟨_, rfl, List.getElem?_eq_getElem (by omega)⟩
    | succ i =>
      obtain ⟨a, b1, b2⟩ := h2 i k' (by simpa using h)
      exact ⟨a, by simpa using b1, b2⟩
theorem putG_len : ∀ {ks : List Nat} {os : List GO} {G : Hs}, (putG G ks os).length = G.length
  | [], os, G => by simp [putG]
  | k :: ks, [], G => by simp [putG]
  | k :: ks, o :: os, G => by
    rw [putG, putG_len]
    simp
theorem putG_off {j : Nat} : ∀ {ks : List Nat} {os : List GO} {G : Hs}, j ∉ ks → (putG G ks os)[j]? = G[j]?
  | [], os, G, _ => by simp [putG]
  | k :: ks, [], G, _ => by simp [putG]
  | k :: ks, o :: os, G, h => by
    have h1 : k ≠ j := fun z => h (by simp [z])
    rw [putG, putG_off (fun z => h (List.mem_cons_of_mem _ z)), List.getElem?_set_ne h1]
theorem putG_at : ∀ {ks : List Nat} {os : List GO} {G : Hs} {i j : Nat}, ks.Nodup → ks.length = os.length → ks[i]? = some j → j < G.length → (putG G ks os)[j]? = os[i]?
  | [], os, G, i, j, _, _, h, _ => by simp at h
  | k :: ks, [], G, i, j, _, hl, _, _ => by simp at hl
  | k :: ks, o :: os, G, i, j, nd, hl, h, hj => by
    rw [putG]
    cases i with
    | zero =>
      simp at h
      subst h
      rw [putG_off (List.nodup_cons.mp nd).1, List.getElem?_set_self hj]
      rfl
    | succ i =>
      rw [putG_at (i := i) (List.nodup_cons.mp nd).2 (by simpa using hl) (by simpa using h) (by simpa using hj)]
      simp
/-- behind a call that was given some roots -/
theorem callK_ok {ks : List Nat} {F : List D → Hs → Option (D × Hs)} {ds : List D} {vs : List V} {d : D} {G' : Hs} (S : Sx K H δ G σ γ) (r : Rs K γ H ds vs) (e : callK ks F ds G = some (d, G')) :
    ∃ ds' os' γs d1 G1, Rs K γs H ds' vs ∧ Ro K H os' γs ∧ F ds' os' = some (d1, G1) ∧ ∀ v H' γ1, Aft γs H γ1 H' → Ro K H' G1 γ1 → R K γ1 H' d1 v → ∃ γ2, Aft γ H γ2 H' ∧ Sx K H' δ G' σ γ2 ∧ R K γ2 H' d v := by
  unfold callK at e
  split at e
  case isFalse => cases e
  rename_i nd
  simp only [Option.bind_eq_some_iff] at e
  obtain ⟨os, e1, os', e2, ds', e3, ⟨d1, G1⟩, e4, G2, e5, d2, e6, e7⟩ := e
  split at e7
  case isFalse => cases e7
  rename_i hle
  cases e7
  obtain ⟨γs, l1, g1⟩ := pickG_addr S.len e1
  have lo := pickG_len e1
  have lo' := renOs_len e2
  -- into the callee
  have hin : ∀ k j a, ks.idxOf? k = some j → γ[k]? = some a → γs[j]? = some a := fun k j a hk ha => by
    have hj : ks[j]? = some k := by
      obtain ⟨h1, h2, _⟩ := List.idxOf?_eq_some_iff.mp hk
      rw [List.getElem?_eq_getElem h1]
      exact congrArg some (by simpa using h2)
    obtain ⟨a', b1, b2⟩ := g1 j k hj
    rw [ha] at b2
    cases b2
    exact b1
  have memγ : ∀ a ∈ γs, a ∈ γ := fun a ha => by
    obtain ⟨i, hi, rfl⟩ := List.mem_iff_getElem.mp ha
    have hki : ks[i]? = some (ks[i]'(by omega)) := List.getElem?_eq_getElem (by omega)
    obtain ⟨a', b1, b2⟩ := g1 i _ hki
    rw [List.getElem?_eq_getElem hi] at b1
    cases b1
    exact List.mem_of_getElem? b2
  have injγ : ∀ {j1 j2 : Nat} {a : Addr}, γ[j1]? = some a → γ[j2]? = some a → j1 = j2 := fun {j1 j2 a} h1 h2 => by
    obtain ⟨q1, r1⟩ := List.getElem?_eq_some_iff.mp h1
    obtain ⟨q2, r2⟩ := List.getElem?_eq_some_iff.mp h2
    exact (List.getElem_inj S.nd).mp (r1.trans r2.symm)
  have nds : γs.Nodup := by
    refine List.pairwise_iff_getElem.mpr fun i j hi hj hlt hij => ?_
    have hki : ks[i]? = some (ks[i]'(by omega)) := List.getElem?_eq_getElem (by omega)
    have hkj : ks[j]? = some (ks[j]'(by omega)) := List.getElem?_eq_getElem (by omega)
    obtain ⟨a, b1, b2⟩ := g1 i _ hki
    obtain ⟨a', c1, c2⟩ := g1 j _ hkj
    rw [List.getElem?_eq_getElem hi] at b1
    rw [List.getElem?_eq_getElem hj] at c1
    cases b1
    cases c1
    rw [hij] at b2
    have := injγ b2 c2
    have := (List.getElem_inj nd).mp this
    omega
  have ro : Ro K H os' γs := ⟨by omega, nds, fun a ha => S.ex a (memγ a ha), fun i o' a h1 h2 => by
    obtain ⟨o, p1, p2⟩ := renOs_get e2 h1
    obtain ⟨k, q1, q2⟩ := pickG_get e1 p1
    obtain ⟨a', b1, b2⟩ := g1 i k q1
    rw [h2] at b1
    cases b1
    exact renO_ok hin p2 (S.rt k o a q2 b2)⟩
  refine ⟨ds', os', γs, d1, G1, rens_ok hin e3 r, ro, e4, fun v H' γ1 A r1 rd => ?_⟩
  have lG := renOs_len e5
  have lg1 : G1.length = γ1.length := r1.len
  obtain ⟨t, rfl⟩ := A.pre
  have lt : γs.length = ks.length := l1
  have dr : (γs ++ t).drop ks.length = t := by rw [← lt, List.drop_left]
  have ht : t.length + ks.length = G2.length := by
    rw [lG, lg1, List.length_append]
    omega
  have kp := A.kp
  have new : ∀ a ∈ t, a ∉ γ := fun a ha z => by
    rcases A.fr a (List.mem_append_right _ ha) with q | q
    · have := List.nodup_append.mp r1.nd
      exact this.2.2 a q a ha rfl
    · exact S.ex a z q
  have hback : ∀ i j a, backI G.length ks i = some j → (γs ++ t)[i]? = some a → (γ ++ t)[j]? = some a := fun i j a hb ha => by
    unfold backI at hb
    split at hb
    · rename_i hi
      obtain ⟨a', b1, b2⟩ := g1 i j hb
      rw [List.getElem?_append_left (by omega), b1] at ha
      cases ha
      rw [List.getElem?_append_left (List.getElem?_eq_some_iff.mp b2).1]
      exact b2
    · rename_i hi
      cases hb
      rw [List.getElem?_append_right (by omega)] at ha
      rw [S.len, List.getElem?_append_right (by omega)]
      have : γ.length + (i - ks.length) - γ.length = i - γs.length := by omega
      rw [this]
      exact ha
  have keepR : ∀ {x : D} {u : V}, R K γ H x u → R K (γ ++ t) H' x u := fun {x u} h => R.mono kp Pre.app _ _ h
  refine ⟨γ ++ t, ⟨fun b o eb i => A.tr b o eb (i.imp (fun n z => n (memγ b z)) id), A.ex, List.prefix_append _ _, fun a ha => ?_⟩, ⟨⟨?_, ?_, fun a ha => ?_, fun j o a h1 h2 => ?_⟩, S.dl, fun i x ex => ?_⟩, ?_⟩
  · rcases List.mem_append.mp ha with ha | ha
    · exact .inl ha
    · rcases A.fr a (List.mem_append_right _ ha) with q | q
      · exact .inl (memγ a q)
      · exact .inr q
  · rw [List.length_append, putG_len, List.length_drop, List.length_append, S.len]
    omega
  · rw [List.nodup_append]
    exact ⟨S.nd, (List.nodup_append.mp r1.nd).2.1, fun a ha b hb e => new b hb (e ▸ ha)⟩
  · rcases List.mem_append.mp ha with ha | ha
    · exact A.ex a (S.ex a ha)
    · exact r1.ex a (List.mem_append_right _ ha)
  · by_cases hj : j < G.length
    · rw [List.getElem?_append_left (by rw [putG_len]; exact hj)] at h1
      rw [List.getElem?_append_left (by rw [← S.len]; exact hj)] at h2
      by_cases hk : j ∈ ks
      · obtain ⟨i, hi, rfl⟩ := List.mem_iff_getElem.mp hk
        have hki : ks[i]? = some ks[i] := List.getElem?_eq_getElem hi
        rw [putG_at nd (by rw [List.length_take]; omega) hki hj, List.getElem?_take_of_lt hi] at h1
        obtain ⟨o1, p1, p2⟩ := renOs_get e5 h1
        obtain ⟨a', b1, b2⟩ := g1 i _ hki
        rw [h2] at b2
        cases b2
        exact renO_ok hback p2 (r1.rt i o1 a p1 (by rw [List.getElem?_append_left (by omega)]; exact b1))
      · rw [putG_off hk] at h1
        have na : a ∉ γs := fun z => by
          obtain ⟨i, hi, rfl⟩ := List.mem_iff_getElem.mp z
          have hki : ks[i]? = some (ks[i]'(by omega)) := List.getElem?_eq_getElem (by omega)
          obtain ⟨a', b1, b2⟩ := g1 i _ hki
          rw [List.getElem?_eq_getElem hi] at b1
          cases b1
          exact hk (by rw [injγ h2 b2]; exact List.getElem_mem _)
        have q := S.rt j o a h1 h2
        cases o with
        | lst xs =>
          obtain ⟨ws, q1, q2⟩ := q
          exact ⟨ws, A.tr _ _ q1 (.inl na), Rs.mono kp Pre.app _ _ q2⟩
        | dct kvs =>
          obtain ⟨xs, ep, q1, hn, q2⟩ := q
          exact ⟨xs, ep, A.tr _ _ q1 (.inl na), hn, q2.mono kp Pre.app⟩
        | ins nx ns xs =>
          obtain ⟨C, dx, ws, q1, hc, q2⟩ := q
          exact ⟨C, dx, ws, A.tr _ _ q1 (.inl na), hc, Rs.mono kp Pre.app _ _ q2⟩
        | dead => trivial
    · rw [List.getElem?_append_right (by rw [putG_len]; omega), putG_len, List.getElem?_drop] at h1
      rw [List.getElem?_append_right (by rw [← S.len]; omega), ← S.len] at h2
      obtain ⟨o1, p1, p2⟩ := renOs_get e5 h1
      refine renO_ok hback p2 (r1.rt _ o1 a p1 ?_)
      rw [List.getElem?_append_right (by omega)]
      have : ks.length + (j - G.length) - γs.length = j - G.length := by omega
      rw [this]
      exact h2
  · obtain ⟨u, h1, h2⟩ := S.sl i x ex
    exact ⟨u, h1, keepR h2⟩
  · exact ren_ok hback e6 rd
end
end FL
/-! FL23: methods and defs that are given roots; x += n; a walk of a list that stands at a root; {k: v for ..} -/
namespace FL
open PySem PySem.Spec PyProof.Rows L2

/-! ### defs and methods without a look at what is left -/
def fnM (n : Nat) (body : SS) : List D → Hs → Option (D × Hs) := fun ds G => (body (slots n ds) G).bind fun x => match x.1 with
  | .rt d => some (d, x.2.2)
  | .nx => some (.non, x.2.2)
  | _ => none
section
variable {P : Program} {K : FK} {mg : Str → Option Value} {base : Heap}
theorem fnM_walk {qual : Str} {st : Stmt} {f : Addr} {N ps : List Str} {k : Nat} {body : SS}
    (hbody : ∀ (cdv : Value) (A : Around) (outer : List Env) (s : Shared) (H : Hp) (E : XK), RoomG k (A.deeper (envOfC qual (C8.fnScope st) s.heap.objs.size f cdv)) →
      DSs (cxOf C8.CX0 P K.wd K mg base N qual (C8.fnScope st) f cdv A outer s H E).nox (C8.fnBody st) body)
    (cdv : Value) (A : Around) (outer : List Env) (s : Shared) (H : Hp) (vs : List V) (Q : VK) (E : XK) (hr : RoomG k (A.deeper (envOfC qual (C8.fnScope st) s.heap.objs.size f cdv))) (h : spB K ps.length (fnM N.length body) vs H Q E) :
      ∃ t, PSs (cxOf C8.CX0 P K.wd K mg base N qual (C8.fnScope st) f cdv A outer s H E).nox (C8.fnBody st) t ∧ t { nx := fun _ H' => Q .non H', rt := Q } (L2.start N vs) H := by
  refine ⟨_, hbody cdv A outer s H E hr, ?_⟩
  obtain ⟨_, ds, G, γ, d, G2, r, ro, e, q⟩ := h
  unfold fnM at e
  obtain ⟨⟨c, δ', G'⟩, e1, e2⟩ := Option.bind_eq_some_iff.mp e
  refine ⟨slots N.length ds, G, γ, c, δ', G', start_ok ro r, e1, fun σ' H' γ' a S' => ?_⟩
  cases c with
  | nx =>
    cases e2
    exact q .non H' γ' a S'.toRo (by simp only [R])
  | rt d' =>
    cases e2
    intro v rv
    exact q v H' γ' a S'.toRo rv
  | bk => cases e2
  | ct => cases e2
theorem calM {x : Str} {st : Stmt} {f : Addr} {fd : FuncData} {N ps : List Str} {k : Nat} {body : SS} (F : C8.Def K mg x st f fd) (b : Binds K fd ps []) (S : FnScope N ps (C8.fnScope st))
    (hbody : ∀ (cdv : Value) (A : Around) (outer : List Env) (s : Shared) (H : Hp) (E : XK), RoomG k (A.deeper (envOfC x (C8.fnScope st) s.heap.objs.size f cdv)) →
      DSs (cxOf C8.CX0 P K.wd K mg base N x (C8.fnScope st) f cdv A outer s H E).nox (C8.fnBody st) body) : C8.CalG P K.wd K mg base (k + 1) x (spB K ps.length (fnM N.length body)) [] :=
  C8.calG F b .nil S (fun vs H Q E h => h.1) (fnM_walk hbody)
theorem metM {m qual : Str} {C : Addr} {st : Stmt} {f : Addr} {fd : FuncData} {N ps : List Str} {k : Nat} {body : SS} (M : Meth K C m f) (F : C8.Fun K m qual st f fd) (b : Binds K fd ps []) (S : FnScope N ps (C8.fnScope st))
    (hbody : ∀ (cdv : Value) (A : Around) (outer : List Env) (s : Shared) (H : Hp) (E : XK), RoomG k (A.deeper (envOfC qual (C8.fnScope st) s.heap.objs.size f cdv)) →
      DSs (cxOf C8.CX0 P K.wd K mg base N qual (C8.fnScope st) f cdv A outer s H E).nox (C8.fnBody st) body) : C8.MetG P K.wd K mg base (k + 1) C m (spB K ps.length (fnM N.length body)) [] :=
  C8.metG M F b .nil S (fun vs H Q E h => h.1) (fnM_walk hbody)
theorem makM {x qual : Str} {C : Addr} {st : Stmt} {f : Addr} {fd : FuncData} {N ps : List Str} {k : Nat} {body : SS} (M : Mk K C f) (hm : mg x = some (.ref C)) (F : C8.Fun K "__init__" qual st f fd) (b : Binds K fd ps []) (S : FnScope N ps (C8.fnScope st))
    (hbody : ∀ (cdv : Value) (A : Around) (outer : List Env) (s : Shared) (H : Hp) (E : XK), RoomG k (A.deeper (envOfC qual (C8.fnScope st) s.heap.objs.size f cdv)) →
      DSs (cxOf C8.CX0 P K.wd K mg base N qual (C8.fnScope st) f cdv A outer s H E).nox (C8.fnBody st) body) : C8.MakG P K.wd K mg base (k + 1) x C (spB K ps.length (fnM N.length body)) [] :=
  C8.makG M hm F b .nil S (fun vs H Q E h => h.1) (fnM_walk hbody)
end
/-! ### their calls -/
def eCallM (np : Nat) (F : List D → Hs → Option (D × Hs)) (gs : EA) : EE := fun δ G => (gs δ G).bind fun x => if x.1.length = np then callM F x.1 x.2 else none
/-- o.m(..): o an instance of x at a root -/
def eMeth (x m : Str) (np : Nat) (F : List D → Hs → Option (D × Hs)) (fo : RE) (gs : EA) : EE := fun δ G => (fo δ G).bind fun o => (insG G o).bind fun y => if y.1 = x ∧ m ∉ y.2.1 then (gs δ G).bind fun z => if z.1.length + 1 = np then callM F (o :: z.1) z.2 else none else none
/-- C(..) -/
def eMakM (x : Str) (np : Nat) (F : List D → Hs → Option (D × Hs)) (gs : EA) : EE := fun δ G => (gs δ G).bind fun z => if z.1.length + 1 = np then (callM F (.rf z.2.length :: z.1) (z.2 ++ [.ins x [] []])).bind fun r => match r.1 with
  | .non => some (.rf z.2.length, r.2)
  | _ => none else none
section
variable {X : Cx} {k j : Nat} {x m : Str} {C : Addr} {p pos apos : Pos} {e o : Expr} {es : List Expr} {fo : RE} {gs : EA} {np : Nat} {F : List D → Hs → Option (D × Hs)} {at_ : List Str}
theorem de_callM (c : C8.CalG X.prog X.w X.K X.mg X.base k x (spB X.F np F) []) (hr : RoomG j X.A) (ha : DEA X (e :: es) gs) (hk : k ≤ j := by decide) (hg : Gl X x := by rfl)
    (hdb : (x == ("__debug__" : Str)) = false := by decide) (he : starEach (e :: es) X.env = (false, eval e X.env) :: starEach es X.env := by rfl) (hpl : (backTo pos (starEach es X.env)).any (·.1) = false := by rfl) :
    DE X (.Call (.Name x p) (e :: es) [] pos) (eCallM np F gs) := PE.imp (C8.pe_cG c hr hk hg ha hdb he hpl) fun σ H Q ⟨δ, G, γ, d, G', S, ef, q⟩ => by
  simp only [eCallM, Option.bind_eq_some_iff] at ef
  obtain ⟨⟨ds, G1⟩, e1, e2⟩ := ef
  split at e2
  case isFalse => cases e2
  rename_i hlen
  refine ⟨δ, G, γ, ds, G1, S, e1, fun vs H1 γ1 a1 S1 r1 => ?_⟩
  show spB X.F np F (vs ++ []) H1 Q C8.E0
  rw [List.append_nil]
  obtain ⟨ds', os', γs, d1, Gr, p1, p2, p3, p4⟩ := callK_ok S1 r1 e2
  refine ⟨by rw [← r1.length]; exact hlen, ds', os', γs, d1, Gr, p1, p2, p3, fun v H2 γ2 A ro rd => ?_⟩
  obtain ⟨γ3, q1, q2, q3⟩ := p4 v H2 γ2 A ro rd
  exact q v H2 γ3 (a1.trans q1) q2 q3
theorem lookup_zip_none {α : Type} {f : Str} : ∀ {ns : List Str} {ds : List α}, f ∉ ns → (ns.zip ds).lookup f = none
  | [], ds, _ => by simp
  | _ :: _, [], _ => by simp
  | n :: ns, x :: ds, h => by
    rw [List.zip_cons_cons, List.lookup_cons]
    have : (f == n) = false := beq_eq_false_iff_ne.mpr fun z => h (by simp [z])
    rw [this]
    exact lookup_zip_none fun z => h (List.mem_cons_of_mem _ z)
theorem de_meth {pl : Sem Bool} (hc : ObjI X.F x C at_) (M : C8.MetG X.prog X.w X.K X.mg X.base k C m (spB X.F np F) []) (hr : RoomG j X.A) (ho : DR X o fo) (ha : DEA X (e :: es) gs) (hk : k ≤ j := by decide)
    (hst : starEach (e :: es) X.env = (false, eval e X.env) :: starEach es X.env := by rfl) (hpl : (backTo pos (starEach es X.env)).any (·.1) = false := by rfl)
    (ht : eval (.Call (.Attribute o m apos) (e :: es) [] pos) X.env = (do
      let ov ← eval o X.env
      standAt apos.atName
      let (f, first) ← holding [ov] (getMethod ov m pl)
      callWith pos f first (backTo pos (starEach (e :: es) X.env)) (backToKw pos (keywordEach [] X.env))) := by rfl) :
    DE X (.Call (.Attribute o m apos) (e :: es) [] pos) (eMeth x m np F fo gs) := PE.imp (C8.pe_metG ho hc.2.1 M hr hk ha hst hpl ht) fun σ H Q ⟨δ, G, γ, d, G', S, ef, q⟩ => by
  simp only [eMeth, Option.bind_eq_some_iff] at ef
  obtain ⟨ov, e0, ⟨y, ns, fs⟩, ei, e1⟩ := ef
  split at e1
  case isFalse => cases e1
  rename_i hm
  obtain ⟨rfl, hm⟩ := hm
  obtain ⟨⟨ds, G1⟩, e2, e3⟩ := Option.bind_eq_some_iff.mp e1
  split at e3
  case isFalse => cases e3
  rename_i hlen
  refine ⟨δ, G, γ, ov, S, e0, fun v H1 s1 r1 => ?_⟩
  obtain ⟨a, n, rfl, rfl, hn, eg, C', dx, us, h1, hc2, h2⟩ := insG_ok (S.same s1).toRo r1 ei
  have eC : (some (some (Value.ref C)) : Option (Option Value)) = some (some (.ref C')) := hc.1.symm.trans hc2.1.1
  cases eC
  refine ⟨a, dx, _, rfl, h1, lookup_zip_none hm, δ, G, γ, ds, G1, S.same s1, e2, fun vs H2 γ2 a2 S2 r2 => ?_⟩
  show spB X.F np F (V.ref a :: (vs ++ [])) H2 Q C8.E0
  rw [List.append_nil]
  have r3 : Rs X.F γ2 H2 (.rf n :: ds) (V.ref a :: vs) := Rs.cons (R.aft a2 r1) r2
  obtain ⟨ds', os', γs, d1, Gr, p1, p2, p3, p4⟩ := callK_ok S2 r3 e3
  refine ⟨by rw [← r3.length]; simpa using hlen, ds', os', γs, d1, Gr, p1, p2, p3, fun v H3 γ3 A ro rd => ?_⟩
  obtain ⟨γ4, q1, q2, q3⟩ := p4 v H3 γ3 A ro rd
  exact q v H3 γ4 ((Aft.of_same s1).trans (a2.trans q1)) q2 q3
theorem de_meth0 {pl : Sem Bool} (hc : ObjI X.F x C at_) (M : C8.MetG X.prog X.w X.K X.mg X.base k C m (spB X.F np F) []) (hr : RoomG j X.A) (ho : DR X o fo) (hk : k ≤ j := by decide)
    (ht : eval (.Call (.Attribute o m apos) [] [] pos) X.env = (do
      let ov ← eval o X.env
      standAt apos.atName
      let (f, first) ← holding [ov] (getMethod ov m pl)
      callWith pos f first (backTo pos (starEach [] X.env)) (backToKw pos (keywordEach [] X.env))) := by rfl) :
    DE X (.Call (.Attribute o m apos) [] [] pos) (eMeth x m np F fo (ofRA rNil)) := PE.imp (C8.pe_metG0 ho hc.2.1 M hr hk ht) fun σ H Q ⟨δ, G, γ, d, G', S, ef, q⟩ => by
  simp only [eMeth, Option.bind_eq_some_iff] at ef
  obtain ⟨ov, e0, ⟨y, ns, fs⟩, ei, e1⟩ := ef
  split at e1
  case isFalse => cases e1
  rename_i hm
  obtain ⟨rfl, hm⟩ := hm
  obtain ⟨⟨ds, G1⟩, e2, e3⟩ := Option.bind_eq_some_iff.mp e1
  cases e2
  split at e3
  case isFalse => cases e3
  rename_i hlen
  refine ⟨δ, G, γ, ov, S, e0, fun v H1 s1 r1 => ?_⟩
  obtain ⟨a, n, rfl, rfl, hn, eg, C', dx, us, h1, hc2, h2⟩ := insG_ok (S.same s1).toRo r1 ei
  have eC : (some (some (Value.ref C)) : Option (Option Value)) = some (some (.ref C')) := hc.1.symm.trans hc2.1.1
  cases eC
  refine ⟨a, dx, _, rfl, h1, lookup_zip_none hm, ?_⟩
  show spB X.F np F (V.ref a :: ([] ++ [])) H1 Q C8.E0
  rw [List.append_nil]
  have r3 : Rs X.F γ H1 [.rf n] [V.ref a] := Rs.cons r1 Rs.nil
  obtain ⟨ds', os', γs, d1, Gr, p1, p2, p3, p4⟩ := callK_ok (S.same s1) r3 e3
  refine ⟨by rw [← r3.length]; simpa using hlen, ds', os', γs, d1, Gr, p1, p2, p3, fun v H3 γ3 A ro rd => ?_⟩
  obtain ⟨γ4, q1, q2, q3⟩ := p4 v H3 γ3 A ro rd
  exact q v H3 γ4 ((Aft.of_same s1).trans q1) q2 q3
theorem de_makM (hc : ObjI X.F x C at_) (c : C8.MakG X.prog X.w X.K X.mg X.base k x C (spB X.F np F) []) (hr : RoomG j X.A) (ha : DEA X (e :: es) gs) (hk : k + 1 ≤ j := by decide) (hg : Gl X x := by rfl)
    (hdb : (x == ("__debug__" : Str)) = false := by decide) (he : starEach (e :: es) X.env = (false, eval e X.env) :: starEach es X.env := by rfl) (hpl : (backTo pos (starEach es X.env)).any (·.1) = false := by rfl) :
    DE X (.Call (.Name x p) (e :: es) [] pos) (eMakM x np F gs) := PE.imp (C8.pe_mkG c hr hk hg ha hdb he hpl) fun σ H Q ⟨δ, G, γ, d, G', S, ef, q⟩ => by
  simp only [eMakM, Option.bind_eq_some_iff] at ef
  obtain ⟨⟨ds, G1⟩, e1, e2⟩ := ef
  split at e2
  case isFalse => cases e2
  rename_i hlen
  obtain ⟨⟨d1, G2⟩, e3, e4⟩ := Option.bind_eq_some_iff.mp e2
  refine ⟨δ, G, γ, ds, G1, S, e1, fun vs H1 γ1 a1 S1 r1 => ?_⟩
  intro a dx ha hdx hne
  show spB X.F np F (V.ref a :: (vs ++ [])) _ _ C8.E0
  rw [List.append_nil]
  -- the own dict, then the instance
  have s1 : Same H1 (upd H1 dx (.own a)) := same_upd hdx
  have ha2 : upd H1 dx (.own a) a = none := by
    rw [upd_ne (Ne.symm hne)]
    exact ha
  obtain ⟨a2, S2, r2⟩ := (S1.same s1).pushO (o := .ins x [] []) (ho := .ins C dx []) ha2 ⟨C, dx, [], upd_same, ⟨⟨hc.1, hc.2.1, fun f hf => by simp at hf⟩, rfl, by decide⟩, Rs.nil⟩
  have a12 := (Aft.of_same (γ := γ1) s1).trans a2
  have r3 : Rs X.F (γ1 ++ [a]) (upd (upd H1 dx (.own a)) a (.ins C dx [])) (.rf G1.length :: ds) (V.ref a :: vs) := Rs.cons r2 (Rs.aft a12 r1)
  obtain ⟨ds', os', γs, d2, Gr, p1, p2, p3, p4⟩ := callK_ok S2 r3 e3
  refine ⟨by rw [← r3.length]; simpa using hlen, ds', os', γs, d2, Gr, p1, p2, p3, fun v H3 γ3 A ro rd => ?_⟩
  obtain ⟨γ4, q1, q2, q3⟩ := p4 v H3 γ3 A ro rd
  split at e4
  · rename_i hd1
    cases e4
    obtain rfl : d1 = .non := hd1
    simp only [R] at q3
    exact ⟨q3, q _ H3 γ4 (a1.trans (a12.trans q1)) q2 (R.aft q1 r2)⟩
  · cases e4
end

/-! ### x += e, whole numbers -/
def sAugI (f : Int → Int → Int) (i : Nat) (g : EE) : SS := fun δ G => match δ[i]? with
  | some (some (.int a)) => (g δ G).bind fun y => match y.1 with
    | .int b => some (.nx, δ.set i (some (.int (f a b))), y.2)
    | _ => none
  | _ => none
section
variable {X : Cx} {e : Expr} {ga : EE} {pos pos' : Pos}
theorem ds_aug {op : Operator} {f : Int → Int → Int} (i : Nat) {x : Str} (hN : X.N.Nodup) (ho : PIp X op (ipI f)) (he : DE X e ga) (hi : X.N[i]? = some x := by rfl) (hx : Loc X.env.scope x := by first | exact Or.inl rfl | exact Or.inr rfl)
    (hf : X.fn x = true ∨ X.env.scope.names.lookup x = some .local := by first | exact .inl rfl | exact .inr rfl | assumption) : DS X (.AugAssign (.Name x pos') op e pos) (sAugI f i ga) :=
  PS.imp (ps_aug hN hi hx he ho hf) fun D σ H ⟨δ, G, γ, k, δ', G', S, ef, q⟩ => by
  unfold sAugI at ef
  split at ef
  case h_2 => cases ef
  rename_i a ea
  obtain ⟨⟨y, G1⟩, e1, e2⟩ := Option.bind_eq_some_iff.mp ef
  split at e2
  case h_2 => cases e2
  rename_i b eb
  cases e2
  obtain rfl : y = .int b := eb
  obtain ⟨v, h1, h2⟩ := S.sl i _ ea
  simp only [R] at h2
  subst h2
  refine ⟨_, h1, δ, G, γ, _, G1, S, e1, fun u H1 γ1 a1 S1 r1 => ?_⟩
  simp only [R] at r1
  subst r1
  exact ⟨a, b, rfl, rfl, q _ H1 γ1 a1 (S1.set i (by simp only [R]))⟩
end

/-! ### for x in l, l a list at a root: in each turn the item that stands there -/
def forI (k : Nat) (set : Sets) (b : SS) : Nat → Nat → SS
  | 0, _, _, _ => none
  | m + 1, i, δ, G => match G[k]? with
    | some (.lst ds) => match ds[i]? with
      | none => some (.nx, δ, G)
      | some d => (set d δ).bind fun δ1 => (b δ1 G).bind fun x => match x.1 with
        | .nx => forI k set b m (i + 1) x.2.1 x.2.2
        | .ct => forI k set b m (i + 1) x.2.1 x.2.2
        | .bk => some (.nx, x.2.1, x.2.2)
        | .rt r => some (.rt r, x.2.1, x.2.2)
    | _ => none
def sForI (src : EE) (set : Sets) (b : SS) : SS := fun δ G => (src δ G).bind fun x => match x.1 with
  | .rf k => match x.2[k]? with
    | some (.lst ds) => forI k set b (ds.length + 1) 0 δ x.2
    | _ => none
  | _ => none
section
variable {X : Cx} {e tg iter : Expr} {body : List Stmt} {ga : EE} {pos : Pos} {t : TG} {set : Sets} {is : List Nat} {g : SS}
theorem ds_forI (hp : PassesOwn (model X.prog X.w) X.A X.env X.xe) (hc : X.calm = true) (hi : DE X iter ga) (ht : PG X tg t) (hg : GG X.F t set is) (hb : DSs X body g)
    (hs : ∀ x, foldedSetIterable iter X.env x = pure x := by intro _; rfl) : DS X (.For tg iter body [] pos) (sForI ga set g) := PS.imp (ps_for hp hc (pi_list hi) ht hb hs) fun D σ H ⟨δ, G, γ, c, δ', G', S, ef, q⟩ => by
  simp only [sForI, Option.bind_eq_some_iff] at ef
  obtain ⟨⟨d, G1⟩, e1, e2⟩ := ef
  split at e2
  case h_2 => cases e2
  rename_i k ek
  obtain rfl : d = .rf k := ek
  split at e2
  case h_2 => cases e2
  rename_i ds0 eg0
  refine ⟨δ, G, γ, .rf k, G1, S, e1, fun v H1 γ1 a1 S1 r1 => ?_⟩
  simp only [R] at r1
  obtain ⟨a, rfl, hk⟩ := r1
  obtain ⟨vs0, h01, h02⟩ := S1.toRo.at eg0 hk
  refine ⟨a, rfl, ⟨vs0, .inl (.inl h01)⟩, ?_⟩
  refine ⟨fun i m σ2 H2 => ∃ δ2 G2 γ2, Aft γ1 H1 γ2 H2 ∧ Sx X.F H2 δ2 G2 σ2 γ2 ∧ forI k set g m i δ2 G2 = some (c, δ', G'), ⟨_, δ, G1, γ1, Aft.refl, S1, e2⟩, ?_⟩
  rintro i m σ2 H2 ⟨δ2, G2, γ2, a2, S2, ef⟩
  cases m with
  | zero => cases ef
  | succ m =>
    unfold forI at ef
    split at ef
    case h_2 => cases ef
    rename_i ds eg
    have hk2 : γ2[k]? = some a := a2.pr k a hk
    obtain ⟨vs, h1, h2⟩ := S2.toRo.at eg hk2
    have hsq : SqL X.K H2 a vs := .inl (.inl h1)
    split at ef
    · rename_i ed
      cases ef
      left
      refine ⟨⟨vs, hsq, ?_⟩, q σ2 H2 γ2 (a1.trans a2) S2⟩
      rw [← h2.length]
      exact List.getElem?_eq_none_iff.mp ed
    · rename_i d ed
      right
      obtain ⟨v, ev, rd⟩ := h2.get ed
      obtain ⟨δ3, e3, ⟨c4, δ4, G4⟩, e4, e5⟩ : ∃ δ3, set d δ2 = some δ3 ∧ ∃ x, g δ3 G2 = some x ∧ (match x.1 with
        | .nx => forI k set g m (i + 1) x.2.1 x.2.2
        | .ct => forI k set g m (i + 1) x.2.1 x.2.2
        | .bk => some (.nx, x.2.1, x.2.2)
        | .rt r => some (.rt r, x.2.1, x.2.2)) = some (c, δ', G') := by
        simpa only [Option.bind_eq_some_iff] using ef
      refine ⟨⟨vs, v, hsq, ev⟩, fun σ5 H5 => ∃ δ5 G5 γ5, Aft γ1 H1 γ5 H5 ∧ Sx X.F H5 δ5 G5 σ5 γ5 ∧ forI k set g m (i + 1) δ5 G5 = some (c, δ', G'), fun σ5 H5 h => ⟨m, by omega, h⟩, fun x H3 y => ?_⟩
      obtain ⟨rfl, f⟩ := y
      have ex := f vs hsq
      rw [ev] at ex
      cases ex
      refine hg _ δ2 δ3 v σ2 H3 G2 γ2 _ e3 S2 rd fun σ3 _ S4 => ?_
      refine ⟨δ3, G2, γ2, c4, δ4, G4, S4, e4, fun σ6 H6 γ6 a6 S6 => ?_⟩
      have a16 : Aft γ1 H1 γ6 H6 := a2.trans a6
      cases c4 with
      | nx => exact ⟨δ4, G4, γ6, a16, S6, e5⟩
      | ct => exact ⟨δ4, G4, γ6, a16, S6, e5⟩
      | bk =>
        cases e5
        exact q σ6 H6 γ6 (a1.trans a16) S6
      | rt r =>
        cases e5
        exact q σ6 H6 γ6 (a1.trans a16) S6
end
end FL
/-! FL24: {k: v for x in xs}, keys ints or texts, frozen; len of it -/
namespace FL
open PySem PySem.Spec PyProof.Rows L2
def putKD (kvs : List (L2.Key × D)) (k : L2.Key) (d : D) : List (L2.Key × D) :=
  if (kvs.any fun kv => decide (kv.1 = k)) = true then kvs.map (fun kv => if kv.1 = k then (kv.1, d) else kv) else kvs ++ [(k, d)]
def dcR (set : Sets) (fk fv : RE) : List D → Env' → Hs → List (L2.Key × D) → Option (List (L2.Key × D))
  | [], _, _, acc => some acc
  | d :: ds, δ, G, acc => (set d δ).bind fun δ1 => (fk δ1 G).bind fun y => (keyK y).bind fun k => (fv δ1 G).bind fun z => dcR set fk fv ds δ G (putKD acc k z)
def rDc (src : RA) (set : Sets) (fk fv : RE) (vs : List Nat) : RE := fun δ G => (src δ G).bind fun ds => if ds.length ≤ 1000000 then (dcR set fk fv ds (wipeD δ vs) G []).bind fun ys => some (.fd (ys.map (·.1)) (ys.map (·.2))) else none
section
variable {K : FK} {set : Sets} {g : TG} {is vs : List Nat}
def KVs (K : FK) (γ : List Addr) (H : Hp) (acc : List (L2.Key × D)) (kvs : List (L2.Key × V)) : Prop := acc.map (·.1) = kvs.map (·.1) ∧ Rs K γ H (acc.map (·.2)) (kvs.map (·.2))
theorem KVs.put {γ : List Addr} {H : Hp} {k : L2.Key} {d : D} {v : V} (hv : R K γ H d v) : ∀ {acc : List (L2.Key × D)} {kvs : List (L2.Key × V)}, KVs K γ H acc kvs → KVs K γ H (putKD acc k d) (putK kvs k v) := by
  intro acc kvs h
  have any : ∀ {acc : List (L2.Key × D)} {kvs : List (L2.Key × V)}, acc.map (·.1) = kvs.map (·.1) → (acc.any fun kv => decide (kv.1 = k)) = (kvs.any fun kv => decide (kv.1 = k)) := fun {acc kvs} e => by
    have h1 : (acc.any fun kv => decide (kv.1 = k)) = (acc.map (·.1)).any fun c => decide (c = k) := by rw [List.any_map]; rfl
    have h2 : (kvs.any fun kv => decide (kv.1 = k)) = (kvs.map (·.1)).any fun c => decide (c = k) := by rw [List.any_map]; rfl
    rw [h1, h2, e]
  have mp : ∀ {acc : List (L2.Key × D)} {kvs : List (L2.Key × V)}, KVs K γ H acc kvs → KVs K γ H (acc.map fun kv => if kv.1 = k then (kv.1, d) else kv) (kvs.map fun kv => if kv.1 = k then (kv.1, v) else kv) := by
    intro acc
    induction acc with
    | nil =>
      intro kvs h
      have : kvs = [] := by
        have := h.1
        simpa using this.symm
      subst this
      exact h
    | cons p acc ih =>
      intro kvs h
      cases kvs with
      | nil => have := h.1; simp at this
      | cons q kvs =>
        obtain ⟨h1, h2⟩ := h
        simp only [List.map_cons, List.cons.injEq] at h1
        obtain ⟨r1, r2⟩ := Rs.uncons (d := p.2) (ds := acc.map (·.2)) (v := q.2) (vs := kvs.map (·.2)) h2
        obtain ⟨i1, i2⟩ := ih ⟨h1.2, r2⟩
        rw [List.map_cons, List.map_cons]
        by_cases hk : p.1 = k
        · rw [if_pos hk, if_pos (h1.1 ▸ hk)]
          exact ⟨by simp only [List.map_cons, h1.1]; rw [i1], Rs.cons hv i2⟩
        · rw [if_neg hk, if_neg (h1.1 ▸ hk)]
          exact ⟨by simp only [List.map_cons, h1.1]; rw [i1], Rs.cons r1 i2⟩
  unfold putKD putK
  rw [any h.1]
  split
  · exact mp h
  · refine ⟨by simp [h.1], ?_⟩
    rw [List.map_append, List.map_append]
    exact Rs.append h.2 (Rs.cons hv Rs.nil)
theorem KVs.mono {γ γ' : List Addr} {H H' : Hp} {acc : List (L2.Key × D)} {kvs : List (L2.Key × V)} (k : Kp H H') (p : Pre γ γ') (h : KVs K γ H acc kvs) : KVs K γ' H' acc kvs := ⟨h.1, Rs.mono k p _ _ h.2⟩
theorem putKD_len (kvs : List (L2.Key × D)) (k : L2.Key) (v : D) : (putKD kvs k v).length ≤ kvs.length + 1 := by
  unfold putKD
  split
  · rw [List.length_map]; omega
  · simp
theorem keyK_ok {γ : List Addr} {H : Hp} {d : D} {k : L2.Key} {v : V} (e : keyK d = some k) (r : R K γ H d v) : v = kV k := by
  unfold keyK at e
  split at e
  · cases e
    simp only [R] at r
    exact r
  · cases e
    simp only [R] at r
    exact r
  · cases e
theorem kp_otherD {H : Hp} {p : Addr} {o : HO} {kvs : List (L2.Key × V)} (hp : H p = some (.dK kvs)) : Kp H (upd H p o) := fun b x e i => by
  rw [upd_ne]
  · exact e
  · intro z
    subst z
    rw [hp] at e
    cases e
    cases i
theorem dc_r {src : RA} {fk fv : RE} (hg : GG K g set is) (hv : ∀ i ∈ is, i ∈ vs) (σ : L2.St) (H : Hp) (Q : VK) (h : lR K (rDc src set fk fv vs) σ H Q) :
    tFrzD (tDc (lIR K true src) g (lRT K cYes) (lR K fk) (lR K fv) vs) σ H Q := by
  obtain ⟨δ, G, γ, d, S, ef, q⟩ := h
  simp only [rDc, Option.bind_eq_some_iff] at ef
  obtain ⟨ds, e1, e2⟩ := ef
  split at e2
  case isFalse => cases e2
  rename_i hle
  obtain ⟨ys, e2', e3⟩ := Option.bind_eq_some_iff.mp e2
  cases e3
  refine ⟨δ, G, γ, ds, S, e1, fun J H1 s1 it L hL => ?_⟩
  refine ⟨fun i m H2 => m + i = ds.length ∧ ∃ acc kvs, H2 L = some (.dK kvs) ∧ KVs K γ H2 acc kvs ∧ Same H1 H2 ∧ acc.length ≤ i ∧ dcR set fk fv (ds.drop i) (wipeD δ vs) G acc = some ys, ⟨ds.length, by simp, [], [], upd_same, ⟨rfl, Rs.nil⟩, same_upd hL, by simp, by simpa using e2'⟩, ?_⟩
  rintro i m H2 ⟨hm, acc, kvs, hl, ra, s2, hai, e4⟩
  have st : Stp true H1 H2 := by simpa [Stp] using s2
  by_cases hlt : i < ds.length
  · right
    obtain ⟨j1, _, j3⟩ := it H2 st i
    rw [List.drop_eq_getElem_cons hlt] at e4
    simp only [dcR, Option.bind_eq_some_iff] at e4
    obtain ⟨δ3, e5, y, e6, k, e7, z, e8, e9⟩ := e4
    refine ⟨j1 hlt, fun H5 => ∃ acc kvs, H5 L = some (.dK kvs) ∧ KVs K γ H5 acc kvs ∧ Same H1 H5 ∧ acc.length ≤ i + 1 ∧ dcR set fk fv (ds.drop (i + 1)) (wipeD δ vs) G acc = some ys, ?_, fun x H3 yy => ?_⟩
    · rintro H5 hh
      exact ⟨m - 1, by omega, by omega, hh⟩
    · obtain ⟨s3, dd, ed, rd⟩ := j3 hlt x H3 yy
      rw [List.getElem?_eq_getElem hlt] at ed
      cases ed
      have s13 : Same H H3 := s1.trans (s2.trans s3)
      have S3 := (S.wipe vs).same s13
      refine hg _ (wipeD δ vs) δ3 x (wipe σ vs) H3 G γ _ e5 S3 rd fun σ3 c3 S4 => ⟨?_, ?_⟩
      · rw [wipe_chg c3 hv, wipe_wipe]
      · refine ⟨δ3, G, γ, true, S4, rfl, fun H4 s4 => ?_⟩
        simp only [if_true]
        refine ⟨δ3, G, γ, y, S4.same s4, e6, fun u H5 s5 r5 => ⟨δ3, G, γ, z, (S4.same s4).same s5, e8, fun w H6 s6 r6 => ?_⟩⟩
        have hl6 : H6 L = some (.dK kvs) := s6 _ _ (s5 _ _ (s4 _ _ (s3 _ _ hl)))
        have ra6 : KVs K γ H6 acc kvs := ra.mono (Kp.of_same (s3.trans (s4.trans (s5.trans s6)))) Pre.refl
        have hle2 : kvs.length = acc.length := by
          have := congrArg List.length ra.1
          simpa using this.symm
        refine ⟨kvs, k, keyK_ok e7 (R.same s6 r5), hl6, line7 (by omega), putKD acc k z, putK kvs k w, upd_same, (ra6.put r6).mono (kp_otherD hl6) Pre.refl, ?_, ?_, e9⟩
        · intro b o eb
          have nb : b ≠ L := fun zz => by
            subst zz
            rw [hL] at eb
            cases eb
          rw [upd_ne nb]
          exact s6 _ _ (s5 _ _ (s4 _ _ (s3 _ _ (s2 _ _ eb))))
        · have := putKD_len acc k z
          omega
  · left
    obtain ⟨_, j2, _⟩ := it H2 st i
    have hi : ds.length ≤ i := by omega
    refine ⟨j2 hi, ?_⟩
    rw [List.drop_eq_nil_of_le hi] at e4
    cases e4
    refine ⟨L, kvs, rfl, hl, fun od => q _ _ ?_ ?_⟩
    · intro b o eb
      have nb : b ≠ L := fun z => by
        subst z
        rw [s1 _ _ eb] at hL
        cases hL
      rw [upd_ne nb]
      exact s2 _ _ (s1 _ _ eb)
    · simp only [R]
      refine ⟨L, od, kvs.map (·.2), rfl, ?_, by simp, Rs.mono (kp_otherD hl) Pre.refl _ _ ra.2⟩
      rw [upd_same, ra.1]
      have : (kvs.map (·.1)).zip (kvs.map (·.2)) = kvs := by
        rw [List.zip_map', List.map_id'']
        exact fun _ => rfl
      rw [this]
end
section
variable {X : Cx} {kx vx tg iter e : Expr} {scope : Scope} {pos : Pos} {set : Sets} {g : TG} {is : List Nat}
theorem dr_dc {src : RA} {fk fv : RE} (own : List (Str × Nat)) (hc : X.calm = true) (hN : X.N.Nodup) (hi : DIR X true tg iter src) (ok : BlkOk X.N X.env.scope scope own)
    (hp : ∀ (s : Shared) (H : Hp) (C : Addr) (cl : List (Str × Addr)) (fp : List Addr), PG (X.blk s H scope (compEnvC scope cl C X.env) fp) tg g) (hg : GG X.F g set is)
    (hk : ∀ (s : Shared) (H : Hp) (C : Addr) (cl : List (Str × Addr)) (fp : List Addr), DR (X.blk s H scope (compEnvC scope cl C X.env) fp) kx fk)
    (he : ∀ (s : Shared) (H : Hp) (C : Addr) (cl : List (Str × Addr)) (fp : List Addr), DR (X.blk s H scope (compEnvC scope cl C X.env) fp) vx fv)
    (hv : ∀ i ∈ is, i ∈ own.map (·.2) := by decide) (hs : ∀ x, foldedSetIterable iter X.env x = pure x := by intro _; rfl) :
    DR X (.DictComp kx vx [⟨tg, iter, [], 0⟩] scope pos) (rDc src set fk fv (own.map (·.2))) := PE.imp (pe_frzD (pe_dc hc hN hi ok hp (fun _ _ _ _ _ => drts_nil) hk he hs)) (dc_r hg hv)
/-- len of a frozen dict -/
def gLenF : Hs → List D → Option D := fun _ ds => match ds with
  | [.fd ks _] => some (.int ks.length)
  | _ => none
theorem call_lenF : CallR X (.builtin "len") (fun xs H Q => ∃ a kvs, xs = [V.ref a] ∧ Rd H a (.dK kvs) ∧ Q (.int ((kvs.length : Nat) : Int)) H) := by
  intro pins s σ H xs us Q I r h
  obtain ⟨a, kvs, rfl, ha, q⟩ := h
  obtain ⟨u, rfl, ru⟩ := vals1 r
  cases ru
  exact d_len I ha fun t s' I' => ⟨.int kvs.length, H, I', ⟨t, rfl⟩, q⟩
theorem gLenF_ok {K : FK} : CallG K (fun xs H Q => ∃ a kvs, xs = [V.ref a] ∧ Rd H a (.dK kvs) ∧ Q (.int ((kvs.length : Nat) : Int)) H) gLenF := by
  intro G γ H ds d vs Q r rs e q
  unfold gLenF at e
  split at e
  case h_2 => cases e
  rename_i ks xs
  cases e
  obtain ⟨v, rfl, h⟩ := rs.one
  simp only [R] at h
  obtain ⟨a, o, ws, rfl, h1, hl, h2⟩ := h
  refine ⟨a, _, rfl, .inr ⟨o, h1⟩, q _ H (Same.refl H) ?_⟩
  simp only [R]
  rw [List.length_zip, ← h2.length, hl, Nat.min_self]
abbrev gLenA := gOr gLen gLenF
theorem v_lenA : CalB X (.builtin "len") gLenA := .or v_len ⟨_, call_lenF, gLenF_ok⟩
end
end FL
/-! FL25: k in d, k not in d: d at a root, the key a tuple -/
namespace FL
open PySem PySem.Spec PyProof.Rows L2
def inDct (neg : Bool) : Hs → D → D → Option D := fun G x y => (dctG G y).bind fun kvs => (keyD x).bind fun k => some (.bl (neg != (valD kvs k).isSome))
def rInDct (K : FK) (neg : Bool) : R2 := fun x y H Q => ∃ (a b : Addr) (γ : List Addr) (kvs : List (D × D)) (kd : D) (k : NestedKey), x = .ref b ∧ y = .ref a ∧ RG K γ H (.dct kvs) a ∧ R K γ H kd (.ref b) ∧ keyD kd = some k ∧ Q (.bl (neg != (valD kvs k).isSome)) H
section
variable {X : Cx} {j : Nat}
theorem DK.isSome {K : FK} {γ : List Addr} {H : Hp} {kvs : List (D × D)} {xs : List (NestedKey × Addr × Value)} {k : NestedKey} (dk : DK K γ H kvs xs) : (atKey xs k).isSome = (valD kvs k).isSome := by
  rcases dk.val (k := k) with ⟨e1, e2⟩ | ⟨d', b', u', v', e1, e2, _, _⟩
  · rw [e1, e2]
    rfl
  · rw [e1, e2]
    rfl
theorem op_inDct (hr : RoomG j X.A) : OpR X (compareOp .In) (rInDct X.F false) := by
  intro pins s σ H x y v u Q I rx ry h
  obtain ⟨a, b, γ, kvs, kd, k, rfl, rfl, rg, rk, ek, q⟩ := h
  cases (show v = Value.ref b from rx)
  cases (show u = Value.ref a from ry)
  obtain ⟨xs, ep, ha, dk, z, hl, dd, _⟩ := dct_at I rg
  obtain ⟨hk1, hk2, _⟩ := keyD_ok ek
  refine wpAny_in_heap (knd := nestedKind X.prog X.w) (k := k) (room_n hr) ⟨R.nest I kd k (.ref b) (.ref b) hk1 rk rfl, hk2⟩ z dd ⟨.bl _, H, I.tok _, rfl, ?_⟩
  rw [dk.isSome]
  simpa using q
theorem op_ninDct (hr : RoomG j X.A) : OpR X (compareOp .NotIn) (rInDct X.F true) := by
  intro pins s σ H x y v u Q I rx ry h
  obtain ⟨a, b, γ, kvs, kd, k, rfl, rfl, rg, rk, ek, q⟩ := h
  cases (show v = Value.ref b from rx)
  cases (show u = Value.ref a from ry)
  obtain ⟨xs, ep, ha, dk, z, hl, dd, _⟩ := dct_at I rg
  obtain ⟨hk1, hk2, _⟩ := keyD_ok ek
  show wpAny (model X.prog X.w) X.A (do return Value.bool (!(← contains (.ref a) (.ref b)))) _ _ s
  refine wpAny_bind (wpAny_contains_heap (knd := nestedKind X.prog X.w) (k := k) (room_n hr) ⟨R.nest I kd k (.ref b) (.ref b) hk1 rk rfl, hk2⟩ z dd (wpAny_pure ⟨.bl _, H, I.tok _, rfl, ?_⟩))
  rw [dk.isSome]
  simpa using q
theorem inDct_ok {K : FK} {neg : Bool} : OpG K (rInDct K neg) (inDct neg) := by
  intro G γ H dx dy d v u Q r rx ry e q
  simp only [inDct, Option.bind_eq_some_iff, Option.some.injEq] at e
  obtain ⟨kvs, e1, k, e2, rfl⟩ := e
  obtain ⟨a, i, rfl, rfl, hi, eg, rg⟩ := dctG_ok r ry e1
  obtain ⟨b, rfl⟩ := key_ref e2 rx
  exact ⟨a, b, γ, kvs, dx, k, rfl, rfl, rg, rx, e2, q _ H (Same.refl H) (by simp only [R])⟩
abbrev g_inD := inDct false
abbrev g_ninD := inDct true
theorem w_inD (hr : RoomG j X.A) : OpB X (compareOp .In) g_inD := ⟨_, op_inDct hr, inDct_ok⟩
theorem w_ninD (hr : RoomG j X.A) : OpB X (compareOp .NotIn) g_ninD := ⟨_, op_ninDct hr, inDct_ok⟩
end
end FL
/-! FL26: the head's facts of classes whose instances change; f() -/
namespace C8
open PySem PySem.Spec PyProof.Rows L2 SX
variable {X : Cx} {k j : Nat} {x : Str} {sp : Sp} {dvs : List V} {p pos : Pos}
theorem pe_cG0 (c : CalG X.prog X.w X.K X.mg X.base k x sp dvs) (hr : RoomG j X.A) (hk : k ≤ j) (hg : Gl X x) (hdb : (x == ("__debug__" : Str)) = false := by decide) : PE X (.Call (.Name x p) [] [] pos) (tCall sp dvs E0 tNil) := by
  obtain ⟨f, fd, ps, ds, F, hm, kp, b, d⟩ := c.ex
  refine ⟨fun pins s σ H Q I h => ?_⟩
  refine wpAny_Call_Name_kw (ld_glob I hg hm ?_ hdb)
  exact PySem.W.callWith_K0 I.kIn kp (run_fnG (us := []) F (hr.mono hk) b d pass0 I .nil h)
end C8
namespace FL
open PySem PySem.Spec PyProof.Rows L2
def meD (x m : Str) (st : Stmt) (qual : Str) : He.FnD := ⟨(x, some m), m, qual, C8.fnArgs st, C8.fnBody st, C8.fnScope st⟩
section
variable {fa : List He.Fa} {fn : List He.FnD} {cs : List (Str × D)} {K : PySem.W.Frag}
theorem meth_of (c : SaysF fa fn cs K) (i : Nat) {x m qual : Str} {st : Stmt} {ps : List Str} (h : fn[i]? = some (meD x m st qual))
    (hb : ∀ (kV doc pm : Value) (an : Option Addr) (cdv ct : Value) (us : List Value), us.length = ps.length → bindArgs (PySem.W.fnOf m qual (C8.fnArgs st) (C8.fnBody st) (C8.fnScope st) .none kV doc pm an cdv ct) ⟨us, []⟩ = pure (ps.zip us)) :
    ∃ fd, C8.Fun K m qual st (He.ma K (He.ga K x) m) fd ∧ Binds K fd ps [] := by
  obtain ⟨oc, od, osl, kV, doc, pm, an, cdv, ct, e1, e2⟩ := c.def_ i h
  exact ⟨_, ⟨oc, od, .none, kV, doc, pm, an, cdv, ct, osl, rfl, e1, e2⟩, .all (hb kV doc pm an cdv ct)⟩
theorem clsI_of {w : World} {h : Heap} {mg : Str → Option Value} (X : K.In h) (G : h.Ns mainGlobals mg) (c : SaysF fa fn cs K) {x : Str} {ns : List Str} (hg : He.Fa.glo x ∈ fa) (hc : He.Fa.cls x ∈ fa) (hn : ∀ f ∈ ns, He.Fa.noat x f ∈ fa) :
    mg x = some (.ref (He.ga K x)) ∧ ObjI ⟨K, w⟩ x (He.ga K x) ns :=
  ⟨He.glo_ok X G (c.fact hg), He.eqO_ok (c.fact hg), He.cls_ok (c.fact hc), fun f hf => He.noat_ok (c.fact (hn f hf))⟩
end
section
variable {X : Cx} {k j : Nat} {x : Str} {p pos : Pos}
theorem dr_callP0 {F : List D → Option D} (c : C8.CalG X.prog X.w X.K X.mg X.base k x (spP X.F 0 F) []) (hr : RoomG j X.A) (hk : k ≤ j := by decide) (hg : Gl X x := by rfl)
    (hdb : (x == ("__debug__" : Str)) = false := by decide) :
    DR X (.Call (.Name x p) [] [] pos) (rCallP 0 F rNil) := PE.imp (pe_frzM (C8.pe_cG0 c hr hk hg hdb)) fun σ H Q ⟨δ, G, γ, d, S, ef, q⟩ => by
  simp only [rCallP, rNil, Option.bind_some] at ef
  split at ef
  · show spP X.F 0 F ([] ++ []) H _ C8.E0
    refine ⟨rfl, [], d, Rs.nil, ef, fun v H2 s2 r2 => ?_⟩
    rcases r2 with r2 | ⟨ds', p, ws, rfl, rfl, hp, hp2, r2⟩
    · exact .inl (q v H2 s2 (R.mono Kp.refl (fun k a h => by simp at h) _ _ r2))
    · refine .inr ⟨p, ws, rfl, hp2, fun od => ?_⟩
      obtain ⟨s3, r3⟩ := frz_res (od := od) s2 hp hp2 (Rs.mono Kp.refl (fun k a h => by simp at h) _ _ r2)
      exact q _ _ s3 r3
  · cases ef
end
end FL
/-! FL27: repr of a list at a root -/
namespace FL
open PySem PySem.Spec PyProof.Rows L2
def gReprR : Hs → List D → Option D := fun G ds => match ds with
  | [.rf k] => match G[k]? with
    | some (.lst xs) => if (D.fl xs).ok = true ∧ (D.fl xs).sh = true ∧ (D.fl xs).dep ≤ 60 ∧ (D.fl xs).py.shown.length ≤ 10000000 then some (.str (D.fl xs).py.shown) else none
    | _ => none
  | _ => none
theorem gReprR_ok {K : FK} : CallG K (rRepr K) gReprR := by
  intro G γ H ds d vs Q r rs e q
  unfold gReprR at e
  split at e
  case h_2 => cases e
  rename_i k
  split at e
  case h_2 => cases e
  rename_i xs eg
  split at e
  case isFalse => cases e
  rename_i hc
  cases e
  obtain ⟨v, rfl, h⟩ := rs.one
  simp only [R] at h
  obtain ⟨a, rfl, hk⟩ := h
  obtain ⟨us, h1, h2⟩ := r.at eg hk
  have hd := D.depth (.fl xs)
  have dp : Dp K H (.ref a) (D.fl xs).py := by
    simp only [D.py]
    exact .lst (.inl (.inl h1)) (Rs.dp xs us (by simpa only [D.ok] using hc.1) h2)
  exact ⟨_, (D.fl xs).py, rfl, dp, (D.fl xs).sh_ok hc.2.1, line7' hc.2.2.2, by omega, PyData.hasDict_of_canLay _ ((D.fl xs).lay hc.1), q _ H (Same.refl H) (by simp only [R])⟩
abbrev gReprA := gOr gRepr gReprR
theorem v_reprA {X : Cx} {j : Nat} (hr : RoomG j X.A) : CalB X (.builtin "repr") gReprA := .or (v_repr hr) ⟨_, call_reprD hr, gReprR_ok⟩
end FL
/-! FL28: what is never reached; min, max of a tuple of ints; a module's dict with text keys and int values -/
namespace FL
open PySem PySem.Spec PyProof.Rows L2
def rNever : RE := fun _ _ => none
section
variable {X : Cx} {e : Expr}
theorem dr_never : DR X e rNever := ⟨fun pins s σ H Q I ⟨_, _, _, _, _, ef, _⟩ => by cases ef⟩
end
/-! min, max of one tuple -/
def intsOf : List D → Option (List Int)
  | [] => some []
  | .int i :: ds => (intsOf ds).map (i :: ·)
  | _ :: _ => none
theorem intsOf_ok {K : FK} {γ : List Addr} {H : Hp} : ∀ {ds : List D} {ns : List Int} {vs : List V}, intsOf ds = some ns → Rs K γ H ds vs → vs = ns.map V.int
  | [], ns, vs, e, r => by
    cases e
    exact r.of_nil
  | .int i :: ds, ns, vs, e, r => by
    simp only [intsOf, Option.map_eq_some_iff] at e
    obtain ⟨ms, e1, rfl⟩ := e
    obtain ⟨v, us, rfl, h1, h2⟩ := r.of_cons
    simp only [R] at h1
    rw [h1, intsOf_ok e1 h2, List.map_cons]
  | .non :: _, _, _, e, _ => by simp [intsOf] at e
  | .bl _ :: _, _, _, e, _ => by simp [intsOf] at e
  | .str _ :: _, _, _, e, _ => by simp [intsOf] at e
  | .tup _ :: _, _, _, e, _ => by simp [intsOf] at e
  | .fl _ :: _, _, _, e, _ => by simp [intsOf] at e
  | .obj _ _ _ :: _, _, _, e, _ => by simp [intsOf] at e
  | .fd _ _ :: _, _, _, e, _ => by simp [intsOf] at e
  | .scr _ :: _, _, _, e, _ => by simp [intsOf] at e
  | .rf _ :: _, _, _, e, _ => by simp [intsOf] at e
def gMinMaxT (f : Int → Int → Int) : Hs → List D → Option D := fun _ ds => match ds with
  | [.tup (.int i :: r)] => (intsOf r).map fun ns => .int (ns.foldl f i)
  | _ => none
def rMmT (K : FK) (f : Int → Int → Int) : List V → Hp → VK → Prop := fun vs H Q => ∃ (a : Addr) (i : Int) (ns : List Int), vs = [V.ref a] ∧ SqT K H a ((i :: ns).map V.int) ∧ Q (.int (ns.foldl f i)) H
section
variable {X : Cx} {j : Nat}
theorem int_reads {h : Heap} {v : Value} {m : Int} {bs : List Addr} (r : Reads h v (.int m) bs) : ∃ t, v = .int m t := by
  cases r
  exact ⟨_, rfl⟩
theorem call_minT (hc : X.calm = true) (hr : RoomG j X.A) : CallR X (.builtin "min") (rMmT X.F min) := by
  intro pins s σ H vs us Q I r h
  obtain ⟨a, i, ns, rfl, hs, q⟩ := h
  obtain ⟨its, rv, hl, _⟩ := I.tuple hs
  rw [Vals.ref1 r]
  refine PySem.W.min_tuple_data (x := .int i) (xs := ns.map .int) (as := []) (I.ok.hd hc) hl ?_ (PySem.W.alikeAll_datum (i :: ns)) ?_ fun k v h' tk bs hi rd hk => ?_
  · rw [List.toList_toArray]
    exact IntsAre.reads s.heap rv.ints
  · have h1 : PyData.depthAll ((i :: ns).map PySem.W.Datum.toD) ≤ 0 := PySem.W.depthAll_map (i :: ns)
    have h2 : PyData.depthAll (.int i :: ns.map .int) ≤ 0 := h1
    have := hr.un
    omega
  · rw [PySem.W.minD_ints] at rd
    obtain ⟨t, rfl⟩ := int_reads rd
    exact ⟨.int _, H, I.kept hk, ⟨_, rfl⟩, q⟩
theorem call_maxT (hc : X.calm = true) (hr : RoomG j X.A) : CallR X (.builtin "max") (rMmT X.F max) := by
  intro pins s σ H vs us Q I r h
  obtain ⟨a, i, ns, rfl, hs, q⟩ := h
  obtain ⟨its, rv, hl, _⟩ := I.tuple hs
  rw [Vals.ref1 r]
  refine PySem.W.max_tuple_data (x := .int i) (xs := ns.map .int) (as := []) (I.ok.hd hc) hl ?_ (PySem.W.alikeAll_datum (i :: ns)) ?_ fun k v h' tk bs hi rd hk => ?_
  · rw [List.toList_toArray]
    exact IntsAre.reads s.heap rv.ints
  · have h1 : PyData.depthAll ((i :: ns).map PySem.W.Datum.toD) ≤ 0 := PySem.W.depthAll_map (i :: ns)
    have h2 : PyData.depthAll (.int i :: ns.map .int) ≤ 0 := h1
    have := hr.un
    omega
  · rw [PySem.W.maxD_ints] at rd
    obtain ⟨t, rfl⟩ := int_reads rd
    exact ⟨.int _, H, I.kept hk, ⟨_, rfl⟩, q⟩
theorem gMinMaxT_ok {K : FK} {f : Int → Int → Int} : CallG K (rMmT K f) (gMinMaxT f) := by
  intro G γ H ds d vs Q r rs e q
  unfold gMinMaxT at e
  split at e
  case h_2 => cases e
  rename_i i rr
  obtain ⟨ns, e1, e2⟩ := Option.map_eq_some_iff.mp e
  subst e2
  obtain ⟨v, rfl, h⟩ := rs.one
  simp only [R] at h
  obtain ⟨a, ws, rfl, h1, h2⟩ := h
  have hw : ws = (i :: ns).map V.int := intsOf_ok (by simp [intsOf, e1]) h2
  refine ⟨a, i, ns, rfl, hw ▸ h1, q _ H (Same.refl H) ?_⟩
  simp only [R]
abbrev gMinT := gMinMaxT min
abbrev gMaxT := gMinMaxT max
theorem v_minT (hc : X.calm = true) (hr : RoomG j X.A) : CalB X (.builtin "min") gMinT := ⟨_, call_minT hc hr, gMinMaxT_ok⟩
theorem v_maxT (hc : X.calm = true) (hr : RoomG j X.A) : CalB X (.builtin "max") gMaxT := ⟨_, call_maxT hc hr, gMinMaxT_ok⟩
end
/-! a module's dict: text keys, int values -/
def tabHas (T : List (Str × Int)) (z : Str) : Bool := T.any fun p => decide (z = p.1)
def tabGet : List (Str × Int) → Str → Option Int
  | [], _ => none
  | p :: T, z => if z = p.1 then some p.2 else tabGet T z
theorem inKeys_tab {z : Str} : ∀ {T : List (Str × Int)}, KTD.inKeys z (tabK T) = tabHas T z
  | [] => rfl
  | p :: T => by
    show (decide (z = p.1) || KTD.inKeys z (tabK T)) = (decide (z = p.1) || tabHas T z)
    rw [inKeys_tab]
theorem eachL_tab {h : Heap} {z : Str} {P : Value → Prop} {n : Int} (hp : ∀ t, P (.int n t)) : ∀ {T : List (Str × Int)}, tabGet T z = some n → KTD.EachL h z P (tabK T)
  | [], e => by simp [tabGet] at e
  | p :: T, e => by
    unfold tabGet at e
    by_cases hz : z = p.1
    · rw [if_pos hz] at e
      cases e
      exact KTD.eachL_hit hz (KTD.opened_int hp)
    · rw [if_neg hz] at e
      exact KTD.eachL_miss hz (eachL_tab hp e)
theorem tabHas_get {z : Str} {n : Int} : ∀ {T : List (Str × Int)}, tabGet T z = some n → tabHas T z = true
  | [], e => by simp [tabGet] at e
  | p :: T, e => by
    unfold tabGet at e
    unfold tabHas
    rw [List.any_cons]
    by_cases hz : z = p.1
    · simp [hz]
    · rw [if_neg hz] at e
      rw [Bool.or_eq_true]
      exact .inr (tabHas_get e)
def rInT (neg : Bool) (T : List (Str × Int)) (f : RE) : RE := fun δ G => (f δ G).bind fun x => match x with
  | .str z => some (.bl (neg != tabHas T z))
  | _ => none
def rIxT (T : List (Str × Int)) (f : RE) : RE := fun δ G => (f δ G).bind fun x => match x with
  | .str z => (tabGet T z).map .int
  | _ => none
/-- the table's address: a value -/
def IsTab (K : FK) (T : List (Str × Int)) (a : Addr) : Prop := KTD.tabLook (KTD.datLooks fun b => K.fr.lookup b) (fun b => K.fr.lookup b) a (tabK T) = true
section
variable {X : Cx} {a b : Expr} {pos pos' : Pos} {x : Str} {T : List (Str × Int)} {fa : RE}
theorem here_tab {pins : List (Addr × Obj)} {σ : L2.St} {H : Hp} {s : Shared} {p : Addr} (I : L2.Inv X pins σ H s) (h : IsTab X.F T p) : KTD.Here s.heap s.heap p (tabK T) := ⟨PySem.W.kt_text_in I.kIn h, fun _ _ e => e⟩
theorem op_inT : OpR X (compareOp .In) (fun x y H Q => ∃ z p, x = .str z ∧ y = .ref p ∧ IsTab X.F T p ∧ Q (.bl (tabHas T z)) H) := by
  intro pins s σ H x y v u Q I rx ry h
  obtain ⟨z, p, rfl, rfl, ht, q⟩ := h
  obtain ⟨t, rfl⟩ := rx
  cases (show u = Value.ref p from ry)
  exact KTD.in_text (here_tab I ht) (by rw [inKeys_tab]; exact ⟨.bl _, H, I.tok _, rfl, q⟩)
theorem op_ninT : OpR X (compareOp .NotIn) (fun x y H Q => ∃ z p, x = .str z ∧ y = .ref p ∧ IsTab X.F T p ∧ Q (.bl (!tabHas T z)) H) := by
  intro pins s σ H x y v u Q I rx ry h
  obtain ⟨z, p, rfl, rfl, ht, q⟩ := h
  obtain ⟨t, rfl⟩ := rx
  cases (show u = Value.ref p from ry)
  exact KTD.notin_text (here_tab I ht) (by rw [inKeys_tab]; exact ⟨.bl _, H, I.tok _, rfl, q⟩)
theorem ix_tab : IxR X (fun x y H Q => ∃ z p n, x = .ref p ∧ y = .str z ∧ IsTab X.F T p ∧ tabGet T z = some n ∧ Q (.int n) H) := by
  intro value slice pins s σ H x y v u Q I rx ry h hs
  obtain ⟨z, p, n, rfl, rfl, ht, hn, q⟩ := h
  cases (show v = Value.ref p from rx)
  obtain ⟨t, rfl⟩ := ry
  refine KTD.item_textA (here_tab I ht) ?_ (by rw [inKeys_tab]; exact tabHas_get hn) (eachL_tab (fun t => ⟨.int n, H, I.tok _, ⟨t, rfl⟩, q⟩) hn) hs
  rw [tabK, List.all_map, List.all_eq_true]
  intro p hp
  rfl
def rTabIn (K : FK) (T : List (Str × Int)) (neg : Bool) : R2 := fun x y H Q => ∃ z p, x = .str z ∧ y = .ref p ∧ IsTab K T p ∧ Q (.bl (neg != tabHas T z)) H
theorem op_tabIn : OpR X (compareOp .In) (rTabIn X.F T false) := fun pins s σ H x y v u Q I rx ry ⟨z, p, h1, h2, h3, q⟩ => op_inT pins s σ H x y v u Q I rx ry ⟨z, p, h1, h2, h3, by simpa only [Bool.false_bne] using q⟩
theorem op_tabNin : OpR X (compareOp .NotIn) (rTabIn X.F T true) := fun pins s σ H x y v u Q I rx ry ⟨z, p, h1, h2, h3, q⟩ => op_ninT pins s σ H x y v u Q I rx ry ⟨z, p, h1, h2, h3, by simpa only [Bool.true_bne] using q⟩
theorem tabIn_r {K : FK} {neg : Bool} {p : Addr} (ht : IsTab K T p) (σ : L2.St) (H : Hp) (Q : VK) (h : lR K (rInT neg T fa) σ H Q) : tOp (rTabIn K T neg) (lR K fa) (tC (.ref p)) σ H Q := by
  obtain ⟨δ, G, γ, d, S, ef, q⟩ := h
  simp only [rInT, Option.bind_eq_some_iff] at ef
  obtain ⟨y, e1, e2⟩ := ef
  split at e2
  case h_2 => cases e2
  rename_i z
  cases e2
  refine ⟨δ, G, γ, _, S, e1, fun v H1 s1 r1 => ⟨z, p, ?_, rfl, ht, q _ H1 s1 ?_⟩⟩
  · simpa only [R] using r1
  · simp only [R]
theorem dr_inT (h : KdOk X.F X.mg x T) (ha : DR X a fa) (hg : Gl X x := by rfl) (hd : (x == ("__debug__" : Str)) = false := by decide) (hm : behindInMarks .In (.Name x pos') = false := by with_unfolding_all rfl) : DR X (.Compare a [.In] [.Name x pos'] pos) (rInT false T fa) := by
  obtain ⟨p, hp, ht⟩ := h
  exact PE.imp (pe_cmpR op_tabIn ha (pe_glob (v := .ref p) hg hp rfl hd) hm) (tabIn_r ht)
theorem dr_ninT (h : KdOk X.F X.mg x T) (ha : DR X a fa) (hg : Gl X x := by rfl) (hd : (x == ("__debug__" : Str)) = false := by decide) (hm : behindInMarks .NotIn (.Name x pos') = false := by with_unfolding_all rfl) : DR X (.Compare a [.NotIn] [.Name x pos'] pos) (rInT true T fa) := by
  obtain ⟨p, hp, ht⟩ := h
  exact PE.imp (pe_cmpR op_tabNin ha (pe_glob (v := .ref p) hg hp rfl hd) hm) (tabIn_r ht)
theorem drt_inT (h : KdOk X.F X.mg x T) (ha : DR X a fa) (hg : Gl X x := by rfl) (hd : (x == ("__debug__" : Str)) = false := by decide) (hm : behindInMarks .In (.Name x pos') = false := by with_unfolding_all rfl) : DRT X (.Compare a [.In] [.Name x pos'] pos) (rB (rInT false T fa)) := by
  obtain ⟨p, hp, ht⟩ := h
  exact PT.imp (pt_cmpR op_tabIn ha (pe_glob (v := .ref p) hg hp rfl hd) hm) (test_r (tabIn_r ht))
theorem drt_ninT (h : KdOk X.F X.mg x T) (ha : DR X a fa) (hg : Gl X x := by rfl) (hd : (x == ("__debug__" : Str)) = false := by decide) (hm : behindInMarks .NotIn (.Name x pos') = false := by with_unfolding_all rfl) : DRT X (.Compare a [.NotIn] [.Name x pos'] pos) (rB (rInT true T fa)) := by
  obtain ⟨p, hp, ht⟩ := h
  exact PT.imp (pt_cmpR op_tabNin ha (pe_glob (v := .ref p) hg hp rfl hd) hm) (test_r (tabIn_r ht))
theorem dr_ixT (h : KdOk X.F X.mg x T) (hb : DR X b fa) (hg : Gl X x := by rfl) (hd : (x == ("__debug__" : Str)) = false := by decide) (hs : PlainIx b := by exact fun _ _ => rfl) : DR X (.Subscript (.Name x pos') b pos) (rIxT T fa) := by
  obtain ⟨p, hp, ht⟩ := h
  refine PE.imp (pe_ix (ix_tab (T := T)) (pe_glob (v := .ref p) hg hp rfl hd) hb hs) fun σ H Q ⟨δ, G, γ, d, S, ef, q⟩ => ?_
  simp only [rIxT, Option.bind_eq_some_iff] at ef
  obtain ⟨y, e1, e2⟩ := ef
  split at e2
  case h_2 => cases e2
  rename_i z
  obtain ⟨n, e3, rfl⟩ := Option.map_eq_some_iff.mp e2
  refine ⟨δ, G, γ, _, S, e1, fun v H1 s1 r1 => ⟨z, p, n, rfl, ?_, ht, e3, q _ H1 s1 ?_⟩⟩
  · simpa only [R] using r1
  · simp only [R]
end
end FL
/-! FL29: {k: v for x in xs}, keys tuples, a new root; d.update(e) of two such roots -/
namespace FL
open PySem PySem.Spec PyProof.Rows L2
section
variable {X : Cx} {j : Nat}
/-- one pair laid by the block -/
theorem lay_pair {pins : List (Addr × Obj)} {σ : L2.St} {H : Hp} {s : Shared} {E : Value → Shared → Prop} {L b : Addr} {γ : List Addr} {kvs : List (D × D)} {kd d : D} {k : NestedKey} {z : V} {kv zv : Value} {Q : Unit → Shared → Prop} (hu : X.A.units + 8 < cLine)
    (I : L2.Inv X pins σ H s) (rg : RG X.F γ H (.dct kvs) L) (rk : R X.F γ H kd (.ref b)) (ek : keyD kd = some k) (rd : R X.F γ H d z) (hl : kvs.length ≤ 1000000) (wk : RelV (.ref b) kv) (wz : RelV z zv)
    (q : ∀ ho s', RG X.F γ (upd H L ho) (.dct (putD kvs kd d)) L → L2.Inv X pins σ (upd H L ho) s' → Q () s') : wpAny (model X.prog X.w) X.A (dictSet L kv zv) Q E s := by
  cases (show kv = Value.ref b from wk)
  obtain ⟨xs, ep, at1, dk, lo, len1, dd, _⟩ := dct_at I rg
  obtain ⟨k1, k2, k3⟩ := keyD_ok ek
  have len2 := dk.len
  refine wpAny_dictSet_heap (knd := nestedKind X.prog X.w) (k := k) hu ⟨R.nest I kd k (.ref b) (.ref b) k1 rk rfl, k2⟩ dd (fun h2 dd2 same2 => ?_) (hsz := len1)
  have len3 : (storedH xs k b zv).length ≤ xs.length + 1 := by
    unfold storedH
    split <;> simp
  have big : (1000001 : Nat) ≤ sizeLine := by decide
  obtain ⟨ep2, obj2⟩ := dct_ok (K := X.F) lo (Nat.le_trans len3 (by omega)) dd2
  obtain ⟨ob2, _, _, got2, _⟩ := id dd2
  have keep : Kp H (upd H L (dctO X.F L (storedH xs k b zv) ep2)) := fun c o e im => by
    rw [upd_ne]
    · exact e
    · rintro rfl
      rw [at1] at e
      cases e
      cases im
  refine q _ _ ⟨_, ep2, upd_same, ?_, (dk.put ⟨k1, k2, k3⟩ rk wz rd).mono keep Pre.refl⟩ (d_write I (by rw [at1]; exact True.intro) same2 ⟨ob2, got2⟩ (obj2 _))
  obtain ⟨_, _, _, _, _, _, _, _, nd⟩ := dd2
  exact nd
/-- what a turn of the block asks -/
def dnTurn (K : FK) (L : Addr) (tk tv : TE) (σ : L2.St) (H : Hp) (Nx : Hp → Prop) : Prop := tk σ H fun y H1 => tv σ H1 fun z H2 => ∃ (b : Addr) (γ : List Addr) (kvs : List (D × D)) (kd d : D) (k : NestedKey),
  y = .ref b ∧ RG K γ H2 (.dct kvs) L ∧ R K γ H2 kd (.ref b) ∧ keyD kd = some k ∧ R K γ H2 d z ∧ kvs.length ≤ 1000000 ∧ ∀ ho, RG K γ (upd H2 L ho) (.dct (putD kvs kd d)) L → Nx (upd H2 L ho)
def tDcN (K : FK) (wi : TI) (g : TG) (tk tv : TE) (vs : List Nat) : TE := fun σ H Q => wi σ H fun J H1 => ∀ L, H1 L = none → ∃ W : Nat → Nat → Hp → Prop, (∃ m, W 0 m (upd H1 L (dctO K L [] 0))) ∧ ∀ i m H2, W i m H2 →
  (J.stop i H2 ∧ Q (.ref L) H2) ∨ (J.go i H2 ∧ ∃ Nx : Hp → Prop, (∀ H3, Nx H3 → ∃ m', m' < m ∧ W (i + 1) m' H3) ∧ ∀ x H3, J.yld i H2 x H3 → g x (wipe σ vs) H3 fun σ4 H4 => wipe σ4 vs = wipe σ vs ∧ dnTurn K L tk tv σ4 H4 Nx)

/-- {k: v for target in iter}: keys tuples -/
theorem pe_dcN {kx vx tg iter : Expr} {scope : Scope} {own : List (Str × Nat)} {pos : Pos} {wi : TI} {g : TG} {tk tv : TE} (calm : X.calm = true) (hu : X.A.units + 8 < cLine) (nodup : X.N.Nodup) (hi : PI X tg iter wi) (ok : BlkOk X.N X.env.scope scope own)
    (pgs : ∀ (s : Shared) (H : Hp) (C : Addr) (cl : List (Str × Addr)) (fp : List Addr), PG (X.blk s H scope (compEnvC scope cl C X.env) fp) tg g)
    (pks : ∀ (s : Shared) (H : Hp) (C : Addr) (cl : List (Str × Addr)) (fp : List Addr), PE (X.blk s H scope (compEnvC scope cl C X.env) fp) kx tk)
    (pvs : ∀ (s : Shared) (H : Hp) (C : Addr) (cl : List (Str × Addr)) (fp : List Addr), PE (X.blk s H scope (compEnvC scope cl C X.env) fp) vx tv) (unf : ∀ x, foldedSetIterable iter X.env x = pure x := by intro _; rfl) :
    PE X (.DictComp kx vx [⟨tg, iter, [], 0⟩] scope pos) (tDcN X.F wi g tk tv (own.map (·.2))) := by
  refine ⟨fun pins sA σ HA Q IA want => ?_⟩
  rw [arm_eval_DictComp]
  have frees : ∀ y ∈ scope.names, y.2 = .free → ∃ c, X.env.cells.lookup y.1 = some c := by
    intro y hy ey
    exact (ok.free y hy ey).elim (fun z => IA.ok.has _ (.inl z)) fun z => IA.ok.has _ (.inr z)
  refine wpAny_comprehension_free rfl unf (closure_ok frees) ok.kind (fun y hy ey => by rw [ok.uniq y hy, ey]) ?_
  refine thn (hi.run pins sA σ HA _ IA want) fun srcv sB hB => ?_
  refine thn hB fun itv sC hC => ?_
  obtain ⟨it, fp, tn, J, HC, rfl, IC, T, stC, fpC, want2⟩ := hC
  refine wpAny_newObj_type (newEnv_comp ?_)
  generalize eL : sC.heap.objs.size = L
  have noneL : HC L = none := IC.hok.fresh (Nat.le_of_eq eL)
  obtain ⟨W, ⟨m0, start⟩, turn⟩ := want2 L noneL
  generalize eD : ({ sC with heap := sC.heap.push { cls := .type "dict", data := .dict #[] } } : Shared) = sD
  have heapD : sD.heap = sC.heap.push { cls := .type "dict", data := .dict #[] } := by subst eD; rfl
  have notSys : (L == sysModules) = false := by
    subst eL
    exact beq_eq_false_iff_ne.mpr (Ne.symm (Nat.ne_of_lt IC.big))
  have newAt : (sC.heap.push { cls := .type "dict", data := .dict #[] }).get? L = some { cls := .type "dict", data := .dict #[] } := by
    subst eL
    exact Heap.get?_push_size _ rfl
  have ID : L2.Inv X pins σ (upd HC L (dctO X.F L [] 0)) sD := by
    subst eD
    refine IC.laid (t' := sC.toks) (fun _ _ z => Heap.get?_push_of_some _ z) (Nat.le_of_eq eL) ?_
    exact ⟨⟨notSys, Nat.zero_le _, _, #[], newAt, ⟨rfl, rfl, rfl⟩, rfl, rfl⟩, ⟨_, newAt⟩, fun g1 g2 ⟨a1, a2, a3, a4, a5, a6⟩ kp => ⟨a1, a2, a3, a4, kp a3 a5, a6⟩⟩
  have below : ∀ b ∈ fp, b < sC.heap.objs.size := fun b hb => (T.obj _ _ stC b hb).elim fun o z => Heap.lt_size z.1
  have fpD : ∀ b ∈ fp, FpOk X pins (upd HC L (dctO X.F L [] 0)) b ∧ b < sD.heap.objs.size := by
    intro b hb
    have lt := below b hb
    refine ⟨⟨?_, (fpC b hb).2⟩, ?_⟩
    · rw [upd_ne (by subst eL; exact Nat.ne_of_lt lt)]
      exact (fpC b hb).1
    · rw [heapD, Heap.size_push]
      exact Nat.lt_succ_of_lt lt
  have stD : tn 0 sD.heap := T.keep _ _ _ stC fun b _ o z => by
    rw [heapD]
    exact Heap.get?_push_of_some _ z
  have inBlk := block_start ID ok nodup fpD
  generalize eH : upd HC L (dctO X.F L [] 0) = HD at ID inBlk start fpD
  have pg := pgs sD HD sD.heap.objs.size (cellsFrom (sD.heap.objs.size + 1) scope.names (cloFrom X.env.cells scope.names [])) fp
  have pk := pks sD HD sD.heap.objs.size (cellsFrom (sD.heap.objs.size + 1) scope.names (cloFrom X.env.cells scope.names [])) fp
  have pv := pvs sD HD sD.heap.objs.size (cellsFrom (sD.heap.objs.size + 1) scope.names (cloFrom X.env.cells scope.names [])) fp
  show codeAny _ X.A (.compStart (.DictComp kx vx [⟨tg, iter, [], 0⟩] scope pos) 0 (.ref it) (.ref L) (compEnvC scope (cellsFrom (sD.heap.objs.size + 1) scope.names (cloFrom X.env.cells scope.names [])) sD.heap.objs.size X.env)) (compPost (model X.prog X.w) X.A X.xe none (EP X pins σ Q) (.ref L) sD.heap.objs.size) { sD with heap := pushCells (sD.heap.push { cls := .type "dict", data := .dict #[] }) scope.names }
  generalize eE : compEnvC scope (cellsFrom (sD.heap.objs.size + 1) scope.names (cloFrom X.env.cells scope.names [])) sD.heap.objs.size X.env = ce at inBlk pg pk pv ⊢
  have locE : ce.locals = sD.heap.objs.size := by subst eE; rfl
  have loopAt : ∀ sE, L2.Inv (X.blk sD HD scope ce fp) [] (wipe σ (own.map (·.2))) HD sE → tn 0 sE.heap →
      codeAny (model X.prog X.w) X.A (.compLoop (.DictComp kx vx [⟨tg, iter, [], 0⟩] scope pos) 0 (.ref it) (.ref L) ce) (compPost (model X.prog X.w) X.A X.xe none (EP X pins σ Q) (.ref L) sD.heap.objs.size) sE := by
    intro sE IE stE
    have okFp : ∀ {σ1 : L2.St} {H1 : Hp} {s1 : Shared}, L2.Inv (X.blk sD HD scope ce fp) [] σ1 H1 s1 → (∀ b ∈ fp, H1 b = none) → ∀ b ∈ fp, FpOk (X.blk sD HD scope ce fp) [] H1 b := by
      intro σ1 H1 s1 I1 n1 b hb
      refine ⟨n1 b hb, (I1.ok.exf b hb).1, I1.ok.exfs b hb, .inl hb, fun x c z => (I1.ok.exf b hb).2 x c z, fun p hp => ?_⟩
      have hp' : p ∈ ([] : List (Addr × Obj)) ++ [] := hp
      simp at hp'
    refine compLoop_anyD (fun m s1 => ∃ i H1, L2.Inv (X.blk sD HD scope ce fp) [] (wipe σ (own.map (·.2))) H1 s1 ∧ tn i s1.heap ∧ (∀ b ∈ fp, H1 b = none) ∧ W i m H1) ?_ m0 ⟨0, HD, IE, stE, fun b hb => (fpD b hb).1.1, start⟩
    rintro m s1 ⟨i, H1, I1, st1, n1, w1⟩
    rcases turn i m H1 w1 with ⟨halt, done⟩ | ⟨go, Nx, next, step⟩
    · refine thnF (T.done (X.blk sD HD scope ce fp) rfl rfl rfl calm i [] s1 _ H1 (fun _ _ => False) I1 (okFp I1 n1) st1 halt) fun r s2 ⟨er, I2⟩ => ?_
      subst er
      have back : L2.Inv X pins σ H1 s2 := ID.call' (ch := fp) I2.os I2.base I2.hok I2.bare fun b hb => by
        obtain ⟨⟨_, c1, c2, c3, c4, c5⟩, _⟩ := fpD b hb
        exact ⟨c3, c1, c4, c5⟩
      have noneC : H1 sD.heap.objs.size = none := by rw [← locE]; exact I2.free
      obtain ⟨mm, ns, _⟩ := I2.loc
      have ns' : s2.heap.Ns ce.locals mm := ns
      rw [locE] at ns'
      obtain ⟨c0, c1, c2, c3, c4, c5⟩ := ID.fpOk (H' := H1) (Nat.le_refl _) noneC
      exact ⟨mm, ns', fun h2 sb => ⟨.ref L, H1, back.turned (t' := s2.toks) (fun b o hb z => (sb.2 b hb).trans z) c0 c1 c3 c4 c5, rfl, done⟩⟩
    · refine thnF (T.item (X.blk sD HD scope ce fp) rfl rfl rfl calm i [] s1 _ H1 (fun _ _ => False) I1 (okFp I1 n1) st1 go) fun r s2 ⟨u, er, item⟩ => ?_
      subst er
      refine thnF item fun _ s3 ⟨x, H3, I3, rx, yl, st3, n3⟩ => ?_
      have I3p := I3.pinned (okFp I3 n3) (T.obj _ _ st3)
      refine thnF (pg.run _ s3 _ H3 x u _ I3p rx (step x H3 yl)) fun _ s4 ⟨σ4, H4, I4, same4, ask⟩ => ?_
      refine wpAny_pure (?_ : wpAny _ _ _ _ _ _)
      refine thnF (pk.run _ s4 σ4 H4 _ I4 ask) fun kv s5 ⟨y, H5, I5, ry, ask5⟩ => ?_
      refine thnF (pv.run _ s5 σ4 H5 _ I5 ask5) fun zv s6 ⟨z, H6, I6, rz, b, γ, kvs, kd, d, k, ey, rg, rk, ek, rd, len, nx⟩ => ?_
      subst ey
      refine lay_pair (X := X.blk sD HD scope ce fp) hu I6 rg rk ek rd len ry rz fun ho s7 rg7 I7 => ?_
      obtain ⟨m1, lt1, w7⟩ := next _ (nx ho rg7)
      have len4 : (wipe σ (own.map (·.2))).length = σ4.length := by rw [← same4, wipe_length]
      have pin : ∀ b ∈ fp, ∀ o, s3.heap.get? b = some o → s7.heap.get? b = some o ∧ (upd H6 L ho) b = none := by
        intro b hb o z
        have q := I7.pin (b, o) (List.mem_append_right _ (List.mem_append_right _ (mem_pinsAt hb z)))
        exact ⟨q.1, q.2.1⟩
      refine ⟨m1, lt1, i + 1, _, (I7.unpinned (pins := [])).weak len4 (fun j v z => ?_), T.keep _ _ _ st3 fun b hb o z => (pin b hb o z).1, fun b hb => ?_, w7⟩
      · rw [← same4] at z
        exact (wipe_some z).1
      · obtain ⟨o, z, _⟩ := T.obj _ _ st3 b hb
        exact (pin b hb o z).2
  have stE : ∀ sE : Shared, sE = { sD with heap := pushCells (sD.heap.push { cls := .type "dict", data := .dict #[] }) scope.names } → tn 0 sE.heap := by
    rintro sE rfl
    exact T.keep _ _ _ stD fun b _ o z => pushCells_keeps _ _ _ _ (Heap.get?_push_of_some _ z)
  have run := loopAt _ inBlk (stE _ rfl)
  exact codeAny_compStart_dict run (T.self X.A 0 _ _ _ (stE _ rfl) run)
end
end FL
/-! FL30: the mirror of {k: v for x in xs} with tuple keys; d.update(e) -/
namespace FL
open PySem PySem.Spec PyProof.Rows L2
section
variable {K : FK}
/-- a thing that stands already becomes the newest root -/
theorem Sx.adoptO {δ : Env'} {G : Hs} {σ : L2.St} {γ : List Addr} {H : Hp} {p : Addr} {o : GO} (S : Sx K H δ G σ γ) (np : p ∉ γ) (hex : H p ≠ none) (rg : RG K γ H o p) : Sx K H δ (G ++ [o]) σ (γ ++ [p]) := by
  refine ⟨⟨by simp [S.len], ?_, fun b z => ?_, fun k x b e1 e2 => ?_⟩, S.dl, fun i d e => ?_⟩
  · refine List.nodup_append.mpr ⟨S.nd, by simp, fun a ha b hb e => ?_⟩
    rw [List.mem_singleton] at hb
    exact np (hb ▸ e ▸ ha)
  · rcases List.mem_append.mp z with z | z
    · exact S.ex b z
    · rw [List.mem_singleton] at z
      exact z ▸ hex
  · rcases Nat.lt_or_ge k G.length with lt | ge
    · rw [List.getElem?_append_left lt] at e1
      rw [List.getElem?_append_left (S.len ▸ lt)] at e2
      exact RG.pre Pre.app (S.rt k x b e1 e2)
    · have up := (List.getElem?_eq_some_iff.mp e1).1
      have ek : k = G.length := by
        rw [List.length_append, List.length_singleton] at up
        omega
      subst ek
      rw [List.getElem?_append_right (Nat.le_refl _)] at e1
      rw [S.len, List.getElem?_append_right (Nat.le_refl _)] at e2
      simp only [Nat.sub_self, List.getElem?_cons_zero, Option.some.injEq] at e1 e2
      subst e1 e2
      exact RG.pre Pre.app rg
  · obtain ⟨v, h1, h2⟩ := S.sl i d e
    exact ⟨v, h1, R.mono Kp.refl Pre.app _ _ h2⟩
def dnR (set : Sets) (fk fv : RE) : List D → Env' → Hs → List (D × D) → Option (List (D × D))
  | [], _, _, acc => some acc
  | d :: ds, δ, G, acc => (set d δ).bind fun δ1 => (fk δ1 G).bind fun y => (keyD y).bind fun _ => (fv δ1 G).bind fun z => dnR set fk fv ds δ G (putD acc y z)
def eDcN (src : RA) (set : Sets) (fk fv : RE) (vs : List Nat) : EE := fun δ G => (src δ G).bind fun ds => if ds.length ≤ 1000 then (dnR set fk fv ds (wipeD δ vs) G []).bind fun kvs => some (.rf G.length, G ++ [.dct kvs]) else none
theorem putD_le (kvs : List (D × D)) (k d : D) : (putD kvs k d).length ≤ kvs.length + 1 := by
  unfold putD
  split <;> simp
theorem dcn_e {src : RA} {set : Sets} {g : TG} {is vs : List Nat} {fk fv : RE} (hg : GG K g set is) (hv : ∀ i ∈ is, i ∈ vs) (σ : L2.St) (H : Hp) (Q : VK) (h : lE K (eDcN src set fk fv vs) σ H Q) :
    tDcN K (lIR K true src) g (lR K fk) (lR K fv) vs σ H Q := by
  obtain ⟨δ, G, γ, d, G', S, ef, q⟩ := h
  simp only [eDcN, Option.bind_eq_some_iff] at ef
  obtain ⟨ds, e1, e2⟩ := ef
  split at e2
  case isFalse => cases e2
  rename_i few
  obtain ⟨kvs, eR, e3⟩ := Option.bind_eq_some_iff.mp e2
  cases e3
  refine ⟨δ, G, γ, ds, S, e1, fun J H1 s1 it L hL => ?_⟩
  have apart : ∀ {b o}, H1 b = some o → b ≠ L := fun {b o} eb z => by
    rw [z, hL] at eb
    cases eb
  refine ⟨fun i m H2 => m + i = ds.length ∧ ∃ acc, RG K γ H2 (.dct acc) L ∧ Same H1 H2 ∧ acc.length ≤ i ∧ dnR set fk fv (ds.drop i) (wipeD δ vs) G acc = some kvs, ⟨ds.length, by simp, [], ⟨[], 0, upd_same, List.nodup_nil, rfl⟩, same_upd hL, Nat.zero_le _, eR⟩, ?_⟩
  rintro i m H2 ⟨hm, acc, rg, s2, len, e4⟩
  have st : Stp true H1 H2 := by simpa [Stp] using s2
  obtain ⟨j1, j2, j3⟩ := it H2 st i
  by_cases lt : i < ds.length
  · refine .inr ⟨j1 lt, ?_⟩
    rw [List.drop_eq_getElem_cons lt] at e4
    simp only [dnR, Option.bind_eq_some_iff] at e4
    obtain ⟨δ1, e5, y, e6, k, e7, z, e8, e9⟩ := e4
    refine ⟨fun H5 => ∃ acc, RG K γ H5 (.dct acc) L ∧ Same H1 H5 ∧ acc.length ≤ i + 1 ∧ dnR set fk fv (ds.drop (i + 1)) (wipeD δ vs) G acc = some kvs, fun H5 hh => ⟨m - 1, by omega, by omega, hh⟩, fun x H3 yl => ?_⟩
    obtain ⟨s3, dd, ed, rd⟩ := j3 lt x H3 yl
    rw [List.getElem?_eq_getElem lt] at ed
    cases ed
    have s13 : Same H H3 := s1.trans (s2.trans s3)
    refine hg _ (wipeD δ vs) δ1 x (wipe σ vs) H3 G γ _ e5 ((S.wipe vs).same s13) rd fun σ4 c4 S4 => ⟨by rw [wipe_chg c4 hv, wipe_wipe], ?_⟩
    refine ⟨δ1, G, γ, y, S4, e6, fun u H5 s5 r5 => ⟨δ1, G, γ, z, S4.same s5, e8, fun w H6 s6 r6 => ?_⟩⟩
    obtain ⟨b, rfl⟩ := key_ref e7 r5
    refine ⟨b, γ, acc, y, z, k, rfl, RG.same (s3.trans (s5.trans s6)) rg, R.same s6 r5, e7, r6, by omega, fun ho rg' => ⟨putD acc y z, rg', fun c o ec => ?_, ?_, e9⟩⟩
    · rw [upd_ne (apart ec)]
      exact s6 _ _ (s5 _ _ (s3 _ _ (s2 _ _ ec)))
    · have := putD_le acc y z
      omega
  · refine .inl ⟨j2 (by omega), ?_⟩
    rw [List.drop_eq_nil_of_le (by omega)] at e4
    cases e4
    have s02 : Same H H2 := s1.trans s2
    have fresh : H L = none := by
      cases eL : H L with
      | none => rfl
      | some o =>
        rw [s1 _ _ eL] at hL
        cases hL
    have np : L ∉ γ := fun z => S.ex L z fresh
    have stands : H2 L ≠ none := by
      obtain ⟨xs, ep, at2, _⟩ := rg
      rw [at2]
      simp
    refine q _ _ (γ ++ [L]) ⟨fun b o eb _ => s02 _ _ eb, fun b eb => Same.none' s02 eb, List.prefix_append _ _, fun b z => ?_⟩ ((S.same s02).adoptO np stands rg) ?_
    · rcases List.mem_append.mp z with z | z
      · exact .inl z
      · rw [List.mem_singleton] at z
        exact .inr (z ▸ fresh)
    · simp only [R]
      exact ⟨L, rfl, by rw [S.len, List.getElem?_append_right (Nat.le_refl _)]; simp⟩
end
section
variable {X : Cx} {j : Nat} {kx vx tg iter e o : Expr} {scope : Scope} {pos apos cpos : Pos} {set : Sets} {g : TG} {is : List Nat}
theorem de_dcN {src : RA} {fk fv : RE} (own : List (Str × Nat)) (hc : X.calm = true) (hr : RoomG j X.A) (hN : X.N.Nodup) (hi : DIR X true tg iter src) (ok : BlkOk X.N X.env.scope scope own)
    (hp : ∀ (s : Shared) (H : Hp) (C : Addr) (cl : List (Str × Addr)) (fp : List Addr), PG (X.blk s H scope (compEnvC scope cl C X.env) fp) tg g) (hg : GG X.F g set is)
    (hk : ∀ (s : Shared) (H : Hp) (C : Addr) (cl : List (Str × Addr)) (fp : List Addr), DR (X.blk s H scope (compEnvC scope cl C X.env) fp) kx fk)
    (he : ∀ (s : Shared) (H : Hp) (C : Addr) (cl : List (Str × Addr)) (fp : List Addr), DR (X.blk s H scope (compEnvC scope cl C X.env) fp) vx fv)
    (hv : ∀ i ∈ is, i ∈ own.map (·.2) := by decide) (hs : ∀ x, foldedSetIterable iter X.env x = pure x := by intro _; rfl) :
    DE X (.DictComp kx vx [⟨tg, iter, [], 0⟩] scope pos) (eDcN src set fk fv (own.map (·.2))) :=
  PE.imp (pe_dcN hc (by have := hr.un; omega) hN hi ok hp hk he hs) (dcn_e hg hv)
end
end FL
namespace FL
open PySem PySem.Spec PyProof.Rows L2
/-! d.update(e) -/
mutual
/-- the hash of a key without texts -/
def hN : NestedKey → Option Int
  | .none => some (reduceHash 0xFCA86420)
  | .num i => some (hashInt i)
  | .text _ => none
  | .tup ks => (hNs ks).map fun hs => reduceHash (Builtin.Tuple.tupleHashOf hs)
def hNs : List NestedKey → Option (List Int)
  | [] => some []
  | k :: ks => (hN k).bind fun h => (hNs ks).map fun hs => h :: hs
end
mutual
theorem hN_ok {w : World} : ∀ {k : NestedKey} {h : Int}, hN k = some h → k.hash w = h
  | .none, h, e => by
    simp only [hN, Option.some.injEq] at e
    rw [NestedKey.hash, e]
  | .num i, h, e => by
    simp only [hN, Option.some.injEq] at e
    rw [NestedKey.hash, e]
  | .text _, h, e => by simp [hN] at e
  | .tup ks, h, e => by
    simp only [hN, Option.map_eq_some_iff] at e
    obtain ⟨hs, e1, e2⟩ := e
    rw [NestedKey.hash, hNs_ok e1, e2]
theorem hNs_ok {w : World} : ∀ {ks : List NestedKey} {hs : List Int}, hNs ks = some hs → NestedKey.hashes w ks = hs
  | [], hs, e => by
    simp only [hNs, Option.some.injEq] at e
    rw [NestedKey.hashes, e]
  | k :: ks, hs, e => by
    simp only [hNs, Option.bind_eq_some_iff, Option.map_eq_some_iff] at e
    obtain ⟨h, e1, hs', e2, e3⟩ := e
    rw [NestedKey.hashes, hN_ok e1, hNs_ok e2, e3]
end
def hD (d : D) : Option Int := (nk d).bind hN
/-- the hashes of the keys, told apart -/
def apartK (more : List (D × D)) : Bool := more.all (fun p => (hD p.1).isSome) && decide ((more.map fun p => hD p.1).Nodup)
def mergeU (kvs more : List (D × D)) : List (D × D) := more.foldl (fun acc p => putD acc p.1 p.2) kvs
section
variable {K : FK} {γ : List Addr} {H : Hp}
theorem DK.merge : ∀ {more kvs : List (D × D)} {xs ys : List (NestedKey × Addr × Value)}, DK K γ H kvs xs → DK K γ H more ys → DK K γ H (mergeU kvs more) (storedAllH xs ys)
  | [], kvs, xs, ys, h, hm => by
    have : ys = [] := hm
    subst this
    exact h
  | (kd, d) :: more, kvs, xs, ys, h, hm => by
    obtain ⟨q, b, u, t, v, rfl, h1, h2, h3, h4, h5⟩ := hm
    show DK K γ H (mergeU (putD kvs kd d) more) (storedAllH (storedH xs q b u) t)
    exact DK.merge (h.put h1 h2 h3 h4) h5
theorem DK.hashes : ∀ {more : List (D × D)} {ys : List (NestedKey × Addr × Value)}, DK K γ H more ys → (more.all fun p => (hD p.1).isSome) = true → (ys.map fun x => x.1.hash K.wd).map some = more.map fun p => hD p.1
  | [], ys, hm, _ => by
    have : ys = [] := hm
    subst this
    rfl
  | (kd, d) :: more, ys, hm, ha => by
    obtain ⟨q, b, u, t, v, rfl, h1, h2, h3, h4, h5⟩ := hm
    rw [List.all_cons, Bool.and_eq_true] at ha
    obtain ⟨c, ec⟩ := Option.isSome_iff_exists.mp ha.1
    have e2 : hN q = some c := by
      have ec' : hD kd = some c := ec
      unfold hD at ec'
      rw [h1.1] at ec'
      exact ec'
    rw [List.map_cons, List.map_cons, List.map_cons, DK.hashes h5 ha.2, hN_ok e2]
    show some c :: _ = hD kd :: _
    rw [show hD kd = some c from ec]
theorem DK.apart {more : List (D × D)} {ys : List (NestedKey × Addr × Value)} (h : DK K γ H more ys) (ha : apartK more = true) : (ys.map fun x => x.1.hash K.wd).Nodup := by
  unfold apartK at ha
  simp only [Bool.and_eq_true, decide_eq_true_eq] at ha
  rw [← h.hashes ha.1] at ha
  exact List.Pairwise.of_map some (fun a b hn he => hn (congrArg some he)) ha.2
end
section
variable {X : Cx} {j : Nat} {e o : Expr} {apos cpos : Pos} {td te : TE}
theorem DK.tuples {pins : List (Addr × Obj)} {σ : L2.St} {H : Hp} {s : Shared} {γ : List Addr} (I : L2.Inv X pins σ H s) : ∀ {more : List (D × D)} {ys : List (NestedKey × Addr × Value)}, DK X.F γ H more ys → ∀ y ∈ ys, s.TypeIs (.ref y.2.1) "tuple"
  | [], ys, hm, y, hy => by
    have : ys = [] := hm
    subst this
    cases hy
  | (kd, d) :: more, ys, hm, y, hy => by
    obtain ⟨q, b, u, t, v, rfl, ⟨h1, _, ts, rfl⟩, h2, h3, h4, h5⟩ := hm
    rcases List.mem_cons.mp hy with rfl | hy
    · simp only [R] at h2
      obtain ⟨p, vs, ep, sq, _⟩ := h2
      cases ep
      obtain ⟨its, _, ⟨ob, go, cl, _⟩, _⟩ := I.tuple sq
      exact ⟨ob, go, cl⟩
    · exact DK.tuples I h5 y hy
def tNUpd (K : FK) (td te : TE) : TE := fun σ H Q => td σ H fun x H1 => ∃ a, x = .ref a ∧ (∃ γ kvs, RG K γ H1 (.dct kvs) a) ∧ te σ H1 fun y H2 =>
  ∃ (b : Addr) (γ : List Addr) (kvs more : List (D × D)), y = .ref b ∧ a ≠ b ∧ RG K γ H2 (.dct kvs) a ∧ RG K γ H2 (.dct more) b ∧ (kvs ≠ [] ∨ apartK more = true) ∧ kvs.length + more.length ≤ 1000000 ∧ ∀ ho, RG K γ (upd H2 a ho) (.dct (mergeU kvs more)) a → Q .non (upd H2 a ho)
theorem pe_nupd (hr : RoomG j X.A) (ho : PE X o td) (he : PE X e te) (m : M1 X o "update" apos e cpos) : PE X (.Call (.Attribute o "update" apos) [e] [] cpos) (tNUpd X.F td te) := by
  refine ⟨fun pins s σ H Q I h => ?_⟩
  refine wpAny_Call_method m.base m.few m.line PySem.F.plainAttrs_dict PySem.F.slot_dict_update PySem.F.type_dict_update (thn (ho.run pins s σ H _ I h) fun u s1 ⟨x, H1, I1, rx, a, ex, ⟨γ, kvs, rg⟩, q1⟩ => ?_)
  subst ex
  obtain rfl : u = Value.ref a := rx
  obtain ⟨xs, ep, ha, dk, z, hz, dd, ob, es, h1, h2, _⟩ := dct_at I1 rg
  refine ⟨dd.typeIs, fun b q => ?_, ?_⟩
  · cases q
    exact ⟨ob, h1, h2.2.1⟩
  rw [m.trees]
  refine Calls.callWith_builtin rfl (Calls.evalArgs_plain (Calls.spliced_cons (thn (he.run pins s1 σ H1 _ I1 q1) fun iv s2 ⟨y, H2, I2, ry, b, γ2, kvs2, more, ey, nab, rgA, rgB, cond, few, qq⟩ => Calls.spliced_nil ?_)))
  subst ey
  cases (show iv = Value.ref b from ry)
  obtain ⟨xs2, ep2, ha2, dk2, z2, hz2, dd2, _⟩ := dct_at I2 rgA
  obtain ⟨ys, ep3, hb3, dk3, z3, hz3, dd3, _⟩ := dct_at I2 rgB
  have l2 := dk2.len
  have l3 := dk3.len
  have big : (1000000 : Nat) ≤ sizeLine := by decide
  refine call_update_dictH (knd := nestedKind X.prog X.w) (room_n hr) nab z3 dd2 dd3 ?_ (by omega) fun h' da db same => ?_
  · rcases cond with c | c
    · refine .inl fun zz => c ?_
      rw [zz] at l2
      exact List.eq_nil_of_length_eq_zero l2.symm
    · exact .inr ⟨dk3.tuples I2, dk3.apart c⟩
  · obtain ⟨ob', _, _, got, _⟩ := id da
    have len : (storedAllH xs2 ys).length ≤ sizeLine := by
      have := storedAll_keys ys xs2
      omega
    obtain ⟨ep', ok'⟩ := dct_ok (K := X.F) z2 len da
    have keep : Kp H2 (upd H2 a (dctO X.F a (storedAllH xs2 ys) ep')) := fun c o e im => by
      rw [upd_ne]
      · exact e
      · rintro rfl
        rw [ha2] at e
        cases e
        cases im
    refine ⟨.non, _, d_write I2 (by rw [ha2]; exact True.intro) same ⟨ob', got⟩ (ok' _), rfl, qq _ ⟨_, ep', upd_same, ?_, (dk2.merge dk3).mono keep Pre.refl⟩⟩
    obtain ⟨_, _, _, _, _, _, _, _, nd⟩ := da
    exact nd
def updG (kvs more : List (D × D)) : Option (List (D × D)) := if (!kvs.isEmpty || apartK more) && decide (kvs.length + more.length ≤ 1000000) then some (mergeU kvs more) else none
def eUpd (fo : RE) (fe : EE) : EE := fun δ G => (fo δ G).bind fun x => (dctG G x).bind fun _ => (fe δ G).bind fun y => match x, y.1 with
  | .rf k, .rf i => if k = i then none else (dctG y.2 (.rf k)).bind fun kvs => (dctG y.2 (.rf i)).bind fun more => (updG kvs more).bind fun r => some (.non, y.2.set k (.dct r))
  | _, _ => none
theorem de_upd {fo : RE} {fe : EE} (hr : RoomG j X.A) (ho : DR X o fo) (he : DE X e fe) (m : M1 X o "update" apos e cpos := by exact ⟨rfl, rfl, rfl, rfl⟩) : DE X (.Call (.Attribute o "update" apos) [e] [] cpos) (eUpd fo fe) := PE.imp (pe_nupd hr ho he m) fun σ H Q ⟨δ, G, γ, d, G', S, ef, q⟩ => by
  simp only [eUpd, Option.bind_eq_some_iff] at ef
  obtain ⟨x, e1, kvs0, e2, ⟨y, G1⟩, e3, e4⟩ := ef
  refine ⟨δ, G, γ, x, S, e1, fun v H1 s1 r1 => ?_⟩
  obtain ⟨a, i0, rfl, rfl, hi0, eg0, rg0⟩ := dctG_ok (S.same s1).toRo r1 e2
  refine ⟨a, rfl, ⟨γ, kvs0, rg0⟩, δ, G, γ, y, G1, S.same s1, e3, fun u H2 γ2 af S2 r2 => ?_⟩
  have hi : γ2[i0]? = some a := by
    obtain ⟨_, _, pre, _⟩ := af
    obtain ⟨t, rfl⟩ := pre
    rw [List.getElem?_append_left (List.getElem?_eq_some_iff.mp hi0).1]
    exact hi0
  cases y with
  | rf i =>
    simp only at e4
    split at e4
    case isTrue => cases e4
    rename_i ne
    simp only [Option.bind_eq_some_iff] at e4
    obtain ⟨kvs, e5, more, e6, r, e7, e8⟩ := e4
    cases e8
    have ra : R X.F γ2 H2 (.rf i0) (.ref a) := by
      simp only [R]
      exact ⟨a, rfl, hi⟩
    obtain ⟨a', k', ek, ea, ha', eg, rgA⟩ := dctG_ok S2.toRo ra e5
    cases ek
    cases ea
    obtain ⟨b, k2, ek, rfl, hb, eg2, rgB⟩ := dctG_ok S2.toRo r2 e6
    cases ek
    unfold updG at e7
    split at e7
    case isFalse => cases e7
    rename_i cond
    cases e7
    simp only [Bool.and_eq_true, Bool.or_eq_true, decide_eq_true_eq] at cond
    have lt1 : i0 < γ2.length := (List.getElem?_eq_some_iff.mp hi).1
    have lt2 : i < γ2.length := (List.getElem?_eq_some_iff.mp hb).1
    refine ⟨b, γ2, kvs, more, rfl, fun z => ?_, rgA, rgB, cond.1.imp (fun c z => ?_) id, cond.2, fun ho rg => ?_⟩
    · subst z
      refine ne ((List.getElem_inj S2.nd (h₀ := lt1) (h₁ := lt2)).mp ?_)
      rw [List.getElem?_eq_getElem lt1] at hi
      rw [List.getElem?_eq_getElem lt2] at hb
      exact (Option.some.inj hi).trans (Option.some.inj hb).symm
    · rw [z] at c
      cases c
    · have mu : ∀ o, H2 a = some o → Imm o = false := fun o eo => by
        obtain ⟨xs, ep, at2, _⟩ := rgA
        rw [at2] at eo
        cases eo
        rfl
      obtain ⟨af3, S3⟩ := S2.write (ho := ho) hi (by have := S2.len; omega) mu rg
      exact q .non _ γ2 ((Aft.of_same s1).trans (af.trans af3)) S3 (by simp only [R])
  | _ => cases e4
end
end FL
/-! FL31: a and b as a value, parts that change the heap -/
namespace FL
open PySem PySem.Spec PyProof.Rows L2
def eAndV (f g : EE) : EE := fun δ G => (f δ G).bind fun x => (toB x.1).bind fun b => if b = true then g δ x.2 else some (.bl false, x.2)
section
variable {X : Cx} {a b : Expr} {rest : List Expr} {pos : Pos} {fa fb : EE}
theorem de_one {op} (h : DE X a fa) : DE X (.BoolOp op [a] pos) fa := pe_one h
theorem de_and (ha : DE X a fa) (hb : DE X (.BoolOp .And (b :: rest) pos) fb) : DE X (.BoolOp .And (a :: b :: rest) pos) (eAndV fa fb) := PE.imp (pe_and ha hb) fun σ H Q ⟨δ, G, γ, d, G', S, ef, q⟩ => by
  simp only [eAndV, Option.bind_eq_some_iff] at ef
  obtain ⟨⟨x, G1⟩, ex, k, ek, eb⟩ := ef
  obtain rfl := toB_some ek
  refine ⟨δ, G, γ, _, G1, S, ex, fun v H1 γ1 a1 S1 r1 => ?_⟩
  simp only [R] at r1
  refine ⟨k, r1, ?_⟩
  cases k with
  | true => exact ⟨δ, G1, γ1, d, G', S1, by simpa using eb, fun u H2 γ2 a2 S2 r2 => q u H2 γ2 (a1.trans a2) S2 r2⟩
  | false =>
    have eb' : (D.bl false, G1) = (d, G') := by simpa using eb
    cases eb'
    exact q _ H1 γ1 a1 S1 (by simp only [R])
end
/-! a list that an expression hands over as a root, frozen where it stands -/
def tFrzL (t : TE) : TE := fun σ H Q => t σ H fun v H1 => ∃ p vs, v = .ref p ∧ H1 p = some (.lst vs) ∧ ∀ od, Q v (upd H1 p (.frz od (.lst vs)))
def eFrzE (f : EE) : EE := fun δ G => (f δ G).bind fun x => match x.1 with
  | .rf k => match x.2[k]? with
    | some (.lst ds) => some (.fl ds, x.2.set k .dead)
    | _ => none
  | _ => none
section
variable {X : Cx} {e : Expr} {f : EE}
theorem pe_frzL {t : TE} (h : PE X e t) : PE X e (tFrzL t) := ⟨fun pins s σ H Q I hw => by
  refine thn (h.run pins s σ H _ I hw) fun u s1 ⟨v, H1, I1, r1, p, vs, ev, hp, q⟩ => ?_
  obtain ⟨od, I2⟩ := I1.lock hp True.intro
  exact ⟨v, _, I2, r1, q od⟩⟩
theorem de_frzE (h : DE X e f) : DE X e (eFrzE f) := PE.imp (pe_frzL h) fun σ H Q ⟨δ, G, γ, d, G', S, ef, q⟩ => by
  simp only [eFrzE, Option.bind_eq_some_iff] at ef
  obtain ⟨⟨x, G1⟩, ex, e2⟩ := ef
  split at e2
  case h_2 => cases e2
  rename_i k ek
  split at e2
  case h_2 => cases e2
  rename_i ds eg
  cases e2
  simp only at ek eg
  subst ek
  refine ⟨δ, G, γ, _, G1, S, ex, fun v H1 γ1 a1 S1 r1 => ?_⟩
  simp only [R] at r1
  obtain ⟨p, rfl, hk⟩ := r1
  obtain ⟨vs, ha, hr⟩ := S1.rt k _ p eg hk
  refine ⟨p, vs, rfl, ha, fun od => ?_⟩
  obtain ⟨a2, S2⟩ := S1.write (ho := .frz od (.lst vs)) (o' := .dead) hk (List.getElem?_eq_some_iff.mp eg).1 (fun o eo => by rw [ha] at eo; cases eo; rfl) trivial
  refine q _ _ γ1 (a1.trans a2) S2 ?_
  have kp : Kp H1 (upd H1 p (.frz od (.lst vs))) := fun b o eb i => by
    rw [upd_ne]
    · exact eb
    · rintro rfl
      rw [ha] at eb
      cases eb
      cases i
  simp only [R]
  exact ⟨p, vs, rfl, ⟨od, upd_same⟩, Rs.mono kp Pre.refl _ _ hr⟩
end
end FL
/-! FL32: list + list as a new root -/
namespace FL
open PySem PySem.Spec PyProof.Rows L2
def eCatR (fa fb : RE) : EE := fun δ G => (fa δ G).bind fun x => (fb δ G).bind fun y => (lstG G x).bind fun a => (lstG G y).bind fun b => if a.length + b.length ≤ 10000000 then some (.rf G.length, G ++ [.lst (a ++ b)]) else none
section
variable {X : Cx} {a b : Expr} {pos : Pos} {fa fb : RE}
theorem de_catR (ha : DR X a fa) (hb : DR X b fb) : DE X (.BinOp a .Add b pos) (eCatR fa fb) := PE.imp (pe_op op_catR ha hb) fun σ H Q ⟨δ, G, γ, d, G', S, ef, q⟩ => by
  simp only [eCatR, Option.bind_eq_some_iff] at ef
  obtain ⟨x, e1, y, e2, xs, e3, ys, e4, e5⟩ := ef
  split at e5
  case isFalse => cases e5
  rename_i hl
  cases e5
  refine ⟨δ, G, γ, x, S, e1, fun v H1 s1 r1 => ⟨δ, G, γ, y, S.same s1, e2, fun u H2 s2 r2 => ?_⟩⟩
  have S2 := (S.same s1).same s2
  obtain ⟨p, vs, rfl, h1, h2⟩ := lstG_ok S2.toRo (R.same s2 r1) e3
  obtain ⟨p', us, rfl, h3, h4⟩ := lstG_ok S2.toRo r2 e4
  refine ⟨p, p', vs, us, rfl, rfl, h1, h3, line7' (by rw [← h2.length, ← h4.length]; exact hl), fun t ht => ?_⟩
  obtain ⟨a3, S3, r3⟩ := S2.push ht (h2.append h4)
  exact q _ _ _ ((Aft.of_same (s1.trans s2)).trans a3) S3 r3
end
end FL
namespace K44
open PySem PySem.Spec PyProof.Rows L2 FL
def topS (i : Nat) : Stmt := PySem.Challenge.pw_setnotseen_k44_whole_steps_of_reasons_on.main.body.getD i (.Pass ⟨0, 0, 0, 0⟩)
def initS (i j : Nat) : Stmt := (C8.clsBody (topS i)).getD j (.Pass ⟨0, 0, 0, 0⟩)
def c_MOST_VARIABLES : D := (.int 6)
def c_MOST_TIES : D := (.int 6)
def t_LENGTHS : List (Str × Int) := [("v", 4), ("away", 4), ("ring", 4), ("kite", 5)]
structure Ev (K : FK) (mg : Str → Option Value) : Prop where
  d_is_integer : ∃ f fd, C8.Def K mg "is_integer" (topS 6) f fd ∧ Binds K fd ["thing"] []
  d_is_between : ∃ f fd, C8.Def K mg "is_between" (topS 7) f fd ∧ Binds K fd ["thing", "least", "most"] []
  d_is_under : ∃ f fd, C8.Def K mg "is_under" (topS 8) f fd ∧ Binds K fd ["thing", "many"] []
  d_are_rising : ∃ f fd, C8.Def K mg "are_rising" (topS 9) f fd ∧ Binds K fd ["some"] []
  d_is_arrow : ∃ f fd, C8.Def K mg "is_arrow" (topS 13) f fd ∧ Binds K fd ["many", "thing"] []
  d_are_pairs : ∃ f fd, C8.Def K mg "are_pairs" (topS 14) f fd ∧ Binds K fd ["many", "thing"] []
  d_ordered : ∃ f fd, C8.Def K mg "ordered" (topS 15) f fd ∧ Binds K fd ["many", "arrows"] []
  d_is_variable : ∃ f fd, C8.Def K mg "is_variable" (topS 17) f fd ∧ Binds K fd ["web", "thing"] []
  d_parents_of : ∃ f fd, C8.Def K mg "parents_of" (topS 18) f fd ∧ Binds K fd ["web", "variable"] []
  d_check_plain : ∃ f fd, C8.Def K mg "check_plain" (topS 20) f fd ∧ Binds K fd ["web"] []
  d_are_joined : ∃ f fd, C8.Def K mg "are_joined" (topS 21) f fd ∧ Binds K fd ["web", "one", "other"] []
  d_vees_of : ∃ f fd, C8.Def K mg "vees_of" (topS 22) f fd ∧ Binds K fd ["web"] []
  d_is_away : ∃ f fd, C8.Def K mg "is_away" (topS 26) f fd ∧ Binds K fd ["web", "far", "one", "other"] []
  d_is_kite : ∃ f fd, C8.Def K mg "is_kite" (topS 27) f fd ∧ Binds K fd ["web", "known", "one", "near", "far", "other"] []
  d_check_arrow : ∃ f fd, C8.Def K mg "check_arrow" (topS 28) f fd ∧ Binds K fd ["web", "arrow"] []
  d_given_by : ∃ f fd, C8.Def K mg "given_by" (topS 29) f fd ∧ Binds K fd ["web", "known", "step"] []
  d_are_reasons : ∃ f fd, C8.Def K mg "are_reasons" (topS 30) f fd ∧ Binds K fd ["web", "arrow", "thing"] []
  d_is_loose : ∃ f fd, C8.Def K mg "is_loose" (topS 31) f fd ∧ Binds K fd ["web", "arrow", "thing"] []
  d__law_draws : ∃ f fd, C8.Def K mg "_law_draws" (topS 33) f fd ∧ Binds K fd ["script", "many"] []
  d__law_take : ∃ f fd, C8.Def K mg "_law_take" (topS 34) f fd ∧ Binds K fd ["draws", "many"] []
  d__law_order : ∃ f fd, C8.Def K mg "_law_order" (topS 35) f fd ∧ Binds K fd ["draws", "many"] []
  d__law_plain : ∃ f fd, C8.Def K mg "_law_plain" (topS 36) f fd ∧ Binds K fd ["draws", "many", "thick"] []
  d__law_joined : ∃ f fd, C8.Def K mg "_law_joined" (topS 37) f fd ∧ Binds K fd ["web"] []
  d__law_vees : ∃ f fd, C8.Def K mg "_law_vees" (topS 38) f fd ∧ Binds K fd ["web"] []
  d__law_gives : ∃ f fd, C8.Def K mg "_law_gives" (topS 39) f fd ∧ Binds K fd ["web", "given", "step"] []
  d__law_are_reasons : ∃ f fd, C8.Def K mg "_law_are_reasons" (topS 40) f fd ∧ Binds K fd ["web", "arrow", "thing"] []
  d__law_all_steps : ∃ f fd, C8.Def K mg "_law_all_steps" (topS 41) f fd ∧ Binds K fd ["many"] []
  d__law_reasons : ∃ f fd, C8.Def K mg "_law_reasons" (topS 42) f fd ∧ Binds K fd ["web", "arrow", "words"] []
  d__law_web : ∃ f fd, C8.Def K mg "_law_web" (topS 43) f fd ∧ Binds K fd ["web"] []
  d__law_case : ∃ f fd, C8.Def K mg "_law_case" (topS 44) f fd ∧ Binds K fd ["draws"] []
  d__law_orders : ∃ f fd, C8.Def K mg "_law_orders" (topS 45) f fd ∧ Binds K fd ["draws", "reasons"] []
  d__law_strange : ∃ f fd, C8.Def K mg "_law_strange" (topS 46) f fd ∧ Binds K fd ["draws", "web"] []
  d_law : ∃ f fd, C8.Def K mg "law" (topS 47) f fd ∧ Binds K fd ["script"] []
  n_ValueError : mg "ValueError" = none
  n_abs : mg "abs" = none
  n_all : mg "all" = none
  n_any : mg "any" = none
  n_bool : mg "bool" = none
  n_int : mg "int" = none
  n_isinstance : mg "isinstance" = none
  n_len : mg "len" = none
  n_list : mg "list" = none
  n_max : mg "max" = none
  n_min : mg "min" = none
  n_range : mg "range" = none
  n_repr : mg "repr" = none
  n_sorted : mg "sorted" = none
  n_str : mg "str" = none
  n_tuple : mg "tuple" = none
  k_MOST_VARIABLES : CstOk K mg "MOST_VARIABLES" c_MOST_VARIABLES
  k_MOST_TIES : CstOk K mg "MOST_TIES" c_MOST_TIES
  k_LENGTHS : KdOk K mg "LENGTHS" t_LENGTHS
  cls_Web : mg "Web" = some (.ref (He.ga K "Web")) ∧ ObjC K "Web" (He.ga K "Web") ["many", "arrows", "ties"]
  mk_Web : Mk K (He.ga K "Web") (He.ma K (He.ga K "Web") "__init__")
  i_Web : ∃ fd, C8.Fun K "__init__" "Web.__init__" (initS 16 0) (He.ma K (He.ga K "Web") "__init__") fd ∧ Binds K fd ["self", "many", "arrows", "ties"] []
section
variable {P : Program} {K : FK} {mg : Str → Option Value} {base : Heap}
/-! is_integer -/
abbrev N_is_integer : List Str := ["thing"]
def b_is_integer : SS :=
  (sRet (ofR (rAndV (rIsT (isTy "int") (rVar 0)) (rNotV (rIsT (isTy "bool") (rVar 0))))))
def f_is_integer := fnP 1 b_is_integer
set_option maxHeartbeats 4000000 in
theorem c_is_integer (E : Ev K mg) : C8.CalG P K.wd K mg base 1 "is_integer" (spP K 1 f_is_integer) [] := by
  obtain ⟨fa, fd, F, bi⟩ := E.d_is_integer
  have sc : FnScope N_is_integer ["thing"] (C8.fnScope (topS 6)) := C8.fnScope_by (by decide +kernel)
  refine calP (ps := ["thing"]) F bi sc fun cdv A outer s H Ex hr => ?_
  exact (dss_one (ds_ret (de_of (dr_and (dr_is (dr_var 0) E.n_isinstance E.n_int b_int kt_int) (dr_one (dr_not (dr_is (dr_var 0) E.n_isinstance E.n_bool b_bool kt_bool)))))))

/-! is_between -/
abbrev N_is_between : List Str := ["thing", "least", "most"]
def b_is_between : SS :=
  (sRet (ofR (rAndV (rCallP 1 f_is_integer (rCons (rVar 0) rNil)) (rChn g_le g_le (rVar 1) (rVar 0) (rVar 2)))))
def f_is_between := fnP 3 b_is_between
set_option maxHeartbeats 4000000 in
theorem c_is_between (E : Ev K mg) : C8.CalG P K.wd K mg base 2 "is_between" (spP K 3 f_is_between) [] := by
  obtain ⟨fa, fd, F, bi⟩ := E.d_is_between
  have sc : FnScope N_is_between ["thing", "least", "most"] (C8.fnScope (topS 7)) := C8.fnScope_by (by decide +kernel)
  refine calP (ps := ["thing", "least", "most"]) F bi sc fun cdv A outer s H Ex hr => ?_
  exact (dss_one (ds_ret (de_of (dr_and (dr_callP (c_is_integer E) hr (dra_cons (dr_var 0) dra_nil) (hk := by omega)) (dr_one (dr_chnB (w_le hr) (w_le hr) (dr_var 1) (dr_var 0) (dr_var 2)))))))

/-! is_under -/
abbrev N_is_under : List Str := ["thing", "many"]
def b_is_under : SS :=
  (sRet (ofR (rAndV (rCallP 1 f_is_integer (rCons (rVar 0) rNil)) (rChn g_le g_ltA (rC (.int 0)) (rVar 0) (rVar 1)))))
def f_is_under := fnP 2 b_is_under
set_option maxHeartbeats 4000000 in
theorem c_is_under (E : Ev K mg) : C8.CalG P K.wd K mg base 2 "is_under" (spP K 2 f_is_under) [] := by
  obtain ⟨fa, fd, F, bi⟩ := E.d_is_under
  have sc : FnScope N_is_under ["thing", "many"] (C8.fnScope (topS 8)) := C8.fnScope_by (by decide +kernel)
  refine calP (ps := ["thing", "many"]) F bi sc fun cdv A outer s H Ex hr => ?_
  exact (dss_one (ds_ret (de_of (dr_and (dr_callP (c_is_integer E) hr (dra_cons (dr_var 0) dra_nil) (hk := by omega)) (dr_one (dr_chnB (w_le hr) (w_ltA hr) dr_int (dr_var 0) (dr_var 1)))))))

/-! are_rising -/
abbrev N_are_rising : List Str := ["some", "at"]
def b_are_rising : SS :=
  (sRet (ofR (rCal gAll (rCons (rLc (iRgR rng2 (rCons (rC (.int 1)) (rCons (rCal gLen (rCons (rVar 0) rNil)) rNil))) (setN 1) cYes (rBin g_ltA (rBin ixA (rVar 0) (rBin g_sub (rVar 1) (rC (.int 1)))) (rBin ixA (rVar 0) (rVar 1))) [1]) rNil))))
def f_are_rising := fnP 2 b_are_rising
set_option maxHeartbeats 4000000 in
theorem c_are_rising (E : Ev K mg) : C8.CalG P K.wd K mg base 1 "are_rising" (spP K 1 f_are_rising) [] := by
  obtain ⟨fa, fd, F, bi⟩ := E.d_are_rising
  have sc : FnScope N_are_rising ["some"] (C8.fnScope (topS 9)) := C8.fnScope_by (by decide +kernel)
  refine calP (ps := ["some"]) F bi sc fun cdv A outer s H Ex hr => ?_
  exact (dss_one (ds_ret (de_of (dr_bi (v_all rfl) E.n_all b_all (.inl ⟨_, rfl⟩) (dra_cons (dr_lc [("at", 1)] rfl sc.nd (dir_rng2 (dra_cons dr_int (dra_cons (dr_bi v_len E.n_len b_len (.inl ⟨_, rfl⟩) (dra_cons (dr_var 0) dra_nil)) dra_nil)) E.n_range) (blkOk_by (by rfl)) (fun _ _ _ _ _ => (pg_name (i := 1) sc.nd rfl (by first | exact .inl rfl | exact .inr rfl))) (gg_name 1) (fun _ _ _ _ _ => drts_nil) (fun _ _ _ _ _ => (dr_cmpB (w_ltA hr) (dr_ixA hr (dr_var 0) (dr_opB (w_sub hr) (dr_var 1) dr_int)) (dr_ixA hr (dr_var 0) (dr_var 1)) (nomark _)))) dra_nil)))))

/-! is_arrow -/
abbrev N_is_arrow : List Str := ["many", "thing"]
def b_is_arrow : SS :=
  (sSeq (sIf (ofRT (rOr (rNot (rTru (rIsT (isTy "tuple") (rVar 1)))) (rOr (rB (rBin g_ne (rCal gLen (rCons (rVar 1) rNil)) (rC (.int 2)))) (rNot (rTru (rCallP 2 f_is_under (rCons (rBin ixA (rVar 1) (rC (.int 0))) (rCons (rVar 0) rNil))))))))
   (sRet (ofR (rC (.bl false))))
   sNil)
  (sRet (ofR (rAndV (rCallP 2 f_is_under (rCons (rBin ixA (rVar 1) (rC (.int 1))) (rCons (rVar 0) rNil))) (rBin g_ne (rBin ixA (rVar 1) (rC (.int 0))) (rBin ixA (rVar 1) (rC (.int 1))))))))
def f_is_arrow := fnP 2 b_is_arrow
set_option maxHeartbeats 4000000 in
theorem c_is_arrow (E : Ev K mg) : C8.CalG P K.wd K mg base 3 "is_arrow" (spP K 2 f_is_arrow) [] := by
  obtain ⟨fa, fd, F, bi⟩ := E.d_is_arrow
  have sc : FnScope N_is_arrow ["many", "thing"] (C8.fnScope (topS 13)) := C8.fnScope_by (by decide +kernel)
  refine calP (ps := ["many", "thing"]) F bi sc fun cdv A outer s H Ex hr => ?_
  exact (dss_cons (ds_if (det_of (PW.pt (drw_or (drt_not (drt_tru (dr_is (dr_var 1) E.n_isinstance E.n_tuple b_tuple kt_tuple))) (drw_or (drt_cmpB (w_ne hr) (dr_bi v_len E.n_len b_len (.inl ⟨_, rfl⟩) (dra_cons (dr_var 1) dra_nil)) dr_int (nomark _)) (drw_or1 (drt_not (drt_tru (dr_callP (c_is_under E) hr (dra_cons (dr_ixA hr (dr_var 1) dr_int) (dra_cons (dr_var 0) dra_nil)) (hk := by omega)))))))))
   (dss_one (ds_ret (de_of dr_bl)))
   dss_nil)
  (dss_one (ds_ret (de_of (dr_and (dr_callP (c_is_under E) hr (dra_cons (dr_ixA hr (dr_var 1) dr_int) (dra_cons (dr_var 0) dra_nil)) (hk := by omega)) (dr_one (dr_cmpB (w_ne hr) (dr_ixA hr (dr_var 1) dr_int) (dr_ixA hr (dr_var 1) dr_int) (nomark _))))))))

/-! are_pairs -/
abbrev N_are_pairs : List Str := ["many", "thing", "one"]
def b_are_pairs : SS :=
  (sSeq (sIf (ofRT (rOr (rNot (rTru (rIsT (isTy "tuple") (rVar 1)))) (rNot (rTru (rCal gAll (rCons (rLc (iTupR (rVar 1)) (setN 2) cYes (rCallP 2 f_is_arrow (rCons (rVar 0) (rCons (rVar 2) rNil))) [2]) rNil))))))
   (sRet (ofR (rC (.bl false))))
   sNil)
  (sRet (ofR (rCallP 1 f_are_rising (rCons (rVar 1) rNil)))))
def f_are_pairs := fnP 3 b_are_pairs
set_option maxHeartbeats 4000000 in
theorem c_are_pairs (E : Ev K mg) : C8.CalG P K.wd K mg base 4 "are_pairs" (spP K 2 f_are_pairs) [] := by
  obtain ⟨fa, fd, F, bi⟩ := E.d_are_pairs
  have sc : FnScope N_are_pairs ["many", "thing"] (C8.fnScope (topS 14)) := C8.fnScope_by (by decide +kernel)
  refine calP (ps := ["many", "thing"]) F bi sc fun cdv A outer s H Ex hr => ?_
  exact (dss_cons (ds_if (det_of (PW.pt (drw_or (drt_not (drt_tru (dr_is (dr_var 1) E.n_isinstance E.n_tuple b_tuple kt_tuple))) (drw_or1 (drt_not (drt_tru (dr_bi (v_all rfl) E.n_all b_all (.inl ⟨_, rfl⟩) (dra_cons (dr_lc [("one", 2)] rfl sc.nd (dir_tup (dr_var 1)) (blkOk_by (by rfl)) (fun _ _ _ _ _ => (pg_name (i := 2) sc.nd rfl (by first | exact .inl rfl | exact .inr rfl))) (gg_name 2) (fun _ _ _ _ _ => drts_nil) (fun _ _ _ _ _ => (dr_callP (c_is_arrow E) hr (dra_cons (dr_var 0) (dra_cons (dr_var 2) dra_nil)) (hk := by omega)))) dra_nil))))))))
   (dss_one (ds_ret (de_of dr_bl)))
   dss_nil)
  (dss_one (ds_ret (de_of (dr_callP (c_are_rising E) hr (dra_cons (dr_var 1) dra_nil) (hk := by omega))))))

/-! ordered -/
abbrev N_ordered : List Str := ["many", "arrows", "out", "ready", "one", "a", "b"]
def b_ordered : SS :=
  (sSeq (sAsg (eLst (ofRA rNil)) (setN 2))
  (whileS (ofRT (rTru (rC (.bl true))))
   (sSeq (sAsg (ofR (rLc (iRgR rng1 (rCons (rVar 0) rNil)) (setN 4) (rAnd (rB (rBin g_nin (rVar 4) (rVar 2))) (rTru (rCal gAll (rCons (rLc (iTupR (rVar 1)) (setTup [(setN 5), (setN 6)]) (rB (rBin g_eq (rVar 6) (rVar 4))) (rBin g_in_ (rVar 5) (rVar 2)) [5, 6]) rNil)))) (rVar 4) [4])) (setN 3))
   (sSeq (sIf (ofRT (rNot (rTru (rVar 3))))
    (sRet (ofR (rCal gTuple (rCons (rVar 2) rNil))))
    sNil)
   (sExp (eMet gAppend (rVar 2) (eCons (ofR (rBin ixA (rVar 3) (rC (.int 0)))) (ofRA rNil))))))))
def f_ordered := fnP 7 b_ordered
set_option maxHeartbeats 4000000 in
theorem c_ordered (E : Ev K mg) : C8.CalG P K.wd K mg base 1 "ordered" (spP K 2 f_ordered) [] := by
  obtain ⟨fa, fd, F, bi⟩ := E.d_ordered
  have sc : FnScope N_ordered ["many", "arrows"] (C8.fnScope (topS 15)) := C8.fnScope_by (by decide +kernel)
  refine calP (ps := ["many", "arrows"]) F bi sc fun cdv A outer s H Ex hr => ?_
  exact (dss_cons (ds_set 2 sc.nd (de_lst dea_nil))
  (dss_one (ds_while PassesOwn.never (det_of (drt_tru dr_bl))
   (dss_cons (by first | exact (ds_set 3 sc.nd (de_of (dr_lc [("one", 4)] rfl sc.nd (dir_rng1 (dra_cons (dr_var 0) dra_nil) E.n_range) (blkOk_by (by rfl)) (fun _ _ _ _ _ => (pg_name (i := 4) sc.nd rfl (by first | exact .inl rfl | exact .inr rfl))) (gg_name 4) (fun _ _ _ _ _ => (drts_one (PW.pt (drw_and (drt_cmpB (w_nin hr) (dr_var 4) (dr_var 2) (by with_unfolding_all rfl)) (drw_and1 (drt_tru (dr_bi (v_all rfl) E.n_all b_all (.inl ⟨_, rfl⟩) (dra_cons (dr_lc [("a", 5), ("b", 6)] rfl sc.nd (dir_tup (dr_var 1)) (blkOk_by (by rfl)) (fun _ _ _ _ _ => (pg_tup (n := 2) rfl (pgs_cons (pg_name (i := 5) sc.nd rfl (by first | exact .inl rfl | exact .inr rfl)) (pgs_cons (pg_name (i := 6) sc.nd rfl (by first | exact .inl rfl | exact .inr rfl)) pgs_nil)))) (gg_tup (ggs_cons (gg_name 5) (ggs_cons (gg_name 6) ggs_nil))) (fun _ _ _ _ _ => (drts_one (drt_cmpB (w_eq hr) (dr_var 6) (dr_var 4) (nomark _)))) (fun _ _ _ _ _ => (dr_cmpB (w_in_ hr) (dr_var 5) (dr_var 2) (by with_unfolding_all rfl)))) dra_nil)))))))) (fun _ _ _ _ _ => (dr_var 4))))) | exact (ds_setLcR 3 [("one", 4)] rfl sc.nd (dir_rng1 (dra_cons (dr_var 0) dra_nil) E.n_range) (blkOk_by (by rfl)) (fun _ _ _ _ _ => (pg_name (i := 4) sc.nd rfl (by first | exact .inl rfl | exact .inr rfl))) (gg_name 4) (fun _ _ _ _ _ => (drts_one (PW.pt (drw_and (drt_cmpB (w_nin hr) (dr_var 4) (dr_var 2) (by with_unfolding_all rfl)) (drw_and1 (drt_tru (dr_bi (v_all rfl) E.n_all b_all (.inl ⟨_, rfl⟩) (dra_cons (dr_lc [("a", 5), ("b", 6)] rfl sc.nd (dir_tup (dr_var 1)) (blkOk_by (by rfl)) (fun _ _ _ _ _ => (pg_tup (n := 2) rfl (pgs_cons (pg_name (i := 5) sc.nd rfl (by first | exact .inl rfl | exact .inr rfl)) (pgs_cons (pg_name (i := 6) sc.nd rfl (by first | exact .inl rfl | exact .inr rfl)) pgs_nil)))) (gg_tup (ggs_cons (gg_name 5) (ggs_cons (gg_name 6) ggs_nil))) (fun _ _ _ _ _ => (drts_one (drt_cmpB (w_eq hr) (dr_var 6) (dr_var 4) (nomark _)))) (fun _ _ _ _ _ => (dr_cmpB (w_in_ hr) (dr_var 5) (dr_var 2) (by with_unfolding_all rfl)))) dra_nil)))))))) (fun _ _ _ _ _ => (dr_var 4))))
   (dss_cons (ds_if (det_of (drt_not (drt_tru (dr_var 3))))
    (dss_one (ds_ret (de_of (dr_bi v_tuple E.n_tuple b_tuple (.inr ⟨_, rfl⟩) (dra_cons (dr_var 2) dra_nil)))))
    dss_nil)
   (dss_one (ds_expr (de_append (dr_var 2) (dea_cons (de_of (dr_ixA hr (dr_var 3) dr_int)) dea_nil)))))))))

/-! class Web -/
abbrev N_Web : List Str := ["self", "many", "arrows", "ties", "a", "b"]
def b_Web : SS :=
  (sSeq (sIf (ofRT (rNot (rTru (rCallP 3 f_is_between (rCons (rVar 1) (rCons (rC (.int 1)) (rCons (rC c_MOST_VARIABLES) rNil)))))))
   sNever
   sNil)
  (sSeq (sIf (ofRT (rOr (rNot (rTru (rCallP 2 f_are_pairs (rCons (rVar 1) (rCons (rVar 2) rNil))))) (rB (rBin g_ltA (rCal gLen (rCons (rCallP 2 f_ordered (rCons (rVar 1) (rCons (rVar 2) rNil))) rNil)) (rVar 1)))))
   sNever
   sNil)
  (sSeq (sIf (ofRT (rOr (rNot (rTru (rCallP 2 f_are_pairs (rCons (rVar 1) (rCons (rVar 3) rNil))))) (rB (rBin g_gtA (rCal gLen (rCons (rVar 3) rNil)) (rC c_MOST_TIES)))))
   sNever
   sNil)
  (sSeq (sIf (ofRT (rTru (rCal gAny (rCons (rLc (iTupR (rVar 3)) (setTup [(setN 4), (setN 5)]) cYes (rBin g_gtA (rVar 4) (rVar 5)) [4, 5]) rNil))))
   sNever
   sNil)
  sNil))))
def f_Web := mkF "Web" ["many", "arrows", "ties"] (fnI "Web" 6 [1, 2, 3] b_Web)
set_option maxHeartbeats 4000000 in
theorem m_Web (E : Ev K mg) : C8.MakG P K.wd K mg base 5 "Web" (He.ga K "Web") (spI K 3 (He.ga K "Web") ["many", "arrows", "ties"] (fnI "Web" 6 [1, 2, 3] b_Web)) [] := by
  obtain ⟨fd, F, bi⟩ := E.i_Web
  have sc : FnScope N_Web ["self", "many", "arrows", "ties"] (C8.fnScope (initS 16 0)) := C8.fnScope_by (by decide +kernel)
  refine makI (ps := ["many", "arrows", "ties"]) E.mk_Web E.cls_Web.1 E.cls_Web.2 F bi sc fun cdv A outer s H Ex hr => ?_
  exact (dsi_cons (ds_if (det_of (drt_not (drt_tru (dr_callP (c_is_between E) hr (dra_cons (dr_var 1) (dra_cons dr_int (dra_cons (dr_g E.k_MOST_VARIABLES) dra_nil))) (hk := by omega)))))
   (dss_one ds_never)
   dss_nil)
  (dsi_cons (ds_if (det_of (PW.pt (drw_or (drt_not (drt_tru (dr_callP (c_are_pairs E) hr (dra_cons (dr_var 1) (dra_cons (dr_var 2) dra_nil)) (hk := by omega)))) (drw_or1 (drt_cmpB (w_ltA hr) (dr_bi v_len E.n_len b_len (.inl ⟨_, rfl⟩) (dra_cons (dr_callP (c_ordered E) hr (dra_cons (dr_var 1) (dra_cons (dr_var 2) dra_nil)) (hk := by omega)) dra_nil)) (dr_var 1) (nomark _))))))
   (dss_one ds_never)
   dss_nil)
  (dsi_cons (ds_if (det_of (PW.pt (drw_or (drt_not (drt_tru (dr_callP (c_are_pairs E) hr (dra_cons (dr_var 1) (dra_cons (dr_var 3) dra_nil)) (hk := by omega)))) (drw_or1 (drt_cmpB (w_gtA hr) (dr_bi v_len E.n_len b_len (.inl ⟨_, rfl⟩) (dra_cons (dr_var 3) dra_nil)) (dr_g E.k_MOST_TIES) (nomark _))))))
   (dss_one ds_never)
   dss_nil)
  (dsi_cons (ds_if (det_of (drt_tru (dr_bi (v_any rfl) E.n_any b_any (.inl ⟨_, rfl⟩) (dra_cons (dr_lc [("a", 4), ("b", 5)] rfl sc.nd (dir_tup (dr_var 3)) (blkOk_by (by rfl)) (fun _ _ _ _ _ => (pg_tup (n := 2) rfl (pgs_cons (pg_name (i := 4) sc.nd rfl (by first | exact .inl rfl | exact .inr rfl)) (pgs_cons (pg_name (i := 5) sc.nd rfl (by first | exact .inl rfl | exact .inr rfl)) pgs_nil)))) (gg_tup (ggs_cons (gg_name 4) (ggs_cons (gg_name 5) ggs_nil))) (fun _ _ _ _ _ => drts_nil) (fun _ _ _ _ _ => (dr_cmpB (w_gtA hr) (dr_var 4) (dr_var 5) (nomark _)))) dra_nil))))
   (dss_one ds_never)
   dss_nil)
  (dsi_sets (pk_sets_cons (ps_fld (pv 0) (pv 1) rfl) E.cls_Web.2.2.1 (E.cls_Web.2.2.2.1 _ (by simp)) (pk_sets_cons (ps_fld (pv 0) (pv 2) rfl) E.cls_Web.2.2.1 (E.cls_Web.2.2.2.1 _ (by simp)) (pk_sets_nil (ps_fld (pv 0) (pv 3) rfl) E.cls_Web.2.2.1 (E.cls_Web.2.2.2.1 _ (by simp))))) (by decide) rfl (by decide))))))

/-! is_variable -/
abbrev N_is_variable : List Str := ["web", "thing"]
def b_is_variable : SS :=
  (sRet (ofR (rCallP 2 f_is_under (rCons (rVar 1) (rCons (rAttr "many" (rVar 0)) rNil)))))
def f_is_variable := fnP 2 b_is_variable
set_option maxHeartbeats 4000000 in
theorem c_is_variable (E : Ev K mg) : C8.CalG P K.wd K mg base 3 "is_variable" (spP K 2 f_is_variable) [] := by
  obtain ⟨fa, fd, F, bi⟩ := E.d_is_variable
  have sc : FnScope N_is_variable ["web", "thing"] (C8.fnScope (topS 17)) := C8.fnScope_by (by decide +kernel)
  refine calP (ps := ["web", "thing"]) F bi sc fun cdv A outer s H Ex hr => ?_
  exact (dss_one (ds_ret (de_of (dr_callP (c_is_under E) hr (dra_cons (dr_var 1) (dra_cons (dr_attr (dr_var 0)) dra_nil)) (hk := by omega)))))

/-! parents_of -/
abbrev N_parents_of : List Str := ["web", "variable", "a", "b"]
def b_parents_of : SS :=
  (sRet (ofR (rCal gTuple (rCons (rLc (iTupR (rAttr "arrows" (rVar 0))) (setTup [(setN 2), (setN 3)]) (rB (rBin g_eq (rVar 3) (rVar 1))) (rVar 2) [2, 3]) rNil))))
def f_parents_of := fnP 4 b_parents_of
set_option maxHeartbeats 4000000 in
theorem c_parents_of (E : Ev K mg) : C8.CalG P K.wd K mg base 1 "parents_of" (spP K 2 f_parents_of) [] := by
  obtain ⟨fa, fd, F, bi⟩ := E.d_parents_of
  have sc : FnScope N_parents_of ["web", "variable"] (C8.fnScope (topS 18)) := C8.fnScope_by (by decide +kernel)
  refine calP (ps := ["web", "variable"]) F bi sc fun cdv A outer s H Ex hr => ?_
  exact (dss_one (ds_ret (de_of (dr_bi v_tuple E.n_tuple b_tuple (.inr ⟨_, rfl⟩) (dra_cons (dr_lc [("a", 2), ("b", 3)] rfl sc.nd (dir_tup (dr_attr (dr_var 0))) (blkOk_by (by rfl)) (fun _ _ _ _ _ => (pg_tup (n := 2) rfl (pgs_cons (pg_name (i := 2) sc.nd rfl (by first | exact .inl rfl | exact .inr rfl)) (pgs_cons (pg_name (i := 3) sc.nd rfl (by first | exact .inl rfl | exact .inr rfl)) pgs_nil)))) (gg_tup (ggs_cons (gg_name 2) (ggs_cons (gg_name 3) ggs_nil))) (fun _ _ _ _ _ => (drts_one (drt_cmpB (w_eq hr) (dr_var 3) (dr_var 1) (nomark _)))) (fun _ _ _ _ _ => (dr_var 2))) dra_nil)))))

/-! check_plain -/
abbrev N_check_plain : List Str := ["web"]
def b_check_plain : SS :=
  (sIf (ofRT (rTru (rAttr "ties" (rVar 0))))
   sNever
   sNil)
def f_check_plain := fnP 1 b_check_plain
set_option maxHeartbeats 4000000 in
theorem c_check_plain (E : Ev K mg) : C8.CalG P K.wd K mg base 3 "check_plain" (spP K 1 f_check_plain) [] := by
  obtain ⟨fa, fd, F, bi⟩ := E.d_check_plain
  have sc : FnScope N_check_plain ["web"] (C8.fnScope (topS 20)) := C8.fnScope_by (by decide +kernel)
  refine calP (ps := ["web"]) F bi sc fun cdv A outer s H Ex hr => ?_
  exact (dss_one (ds_if (det_of (drt_tru (dr_attr (dr_var 0))))
   (dss_one ds_never)
   dss_nil))

/-! are_joined -/
abbrev N_are_joined : List Str := ["web", "one", "other"]
def b_are_joined : SS :=
  (sRet (ofR (rOrV (rBin g_in_ (rTup (rCons (rVar 1) (rCons (rVar 2) rNil))) (rAttr "arrows" (rVar 0))) (rBin g_in_ (rTup (rCons (rVar 2) (rCons (rVar 1) rNil))) (rAttr "arrows" (rVar 0))))))
def f_are_joined := fnP 3 b_are_joined
set_option maxHeartbeats 4000000 in
theorem c_are_joined (E : Ev K mg) : C8.CalG P K.wd K mg base 1 "are_joined" (spP K 3 f_are_joined) [] := by
  obtain ⟨fa, fd, F, bi⟩ := E.d_are_joined
  have sc : FnScope N_are_joined ["web", "one", "other"] (C8.fnScope (topS 21)) := C8.fnScope_by (by decide +kernel)
  refine calP (ps := ["web", "one", "other"]) F bi sc fun cdv A outer s H Ex hr => ?_
  exact (dss_one (ds_ret (de_of (dr_or (dr_cmpB (w_in_ hr) (dr_tup (dra_cons (dr_var 1) (dra_cons (dr_var 2) dra_nil))) (dr_attr (dr_var 0)) (by with_unfolding_all rfl)) (dr_one (dr_cmpB (w_in_ hr) (dr_tup (dra_cons (dr_var 2) (dra_cons (dr_var 1) dra_nil))) (dr_attr (dr_var 0)) (by with_unfolding_all rfl)))))))

/-! vees_of -/
abbrev N_vees_of : List Str := ["web", "found", "variable", "ahead", "one", "two"]
def b_vees_of : SS :=
  (sSeq (sAsg (eLst (ofRA rNil)) (setN 1))
  (sSeq (sFor (ofRA (iRgR rng1 (rCons (rAttr "many" (rVar 0)) rNil))) (setN 2)
   (sSeq (sAsg (ofR (rCallP 2 f_parents_of (rCons (rVar 0) (rCons (rVar 2) rNil)))) (setN 3))
   (sFor (ofRA (iTupR (rVar 3))) (setN 4)
    (sExp (eMet gExtend (rVar 1) (eCons (ofR (rLc (iTupR (rVar 3)) (setN 5) (rAnd (rB (rBin g_ltA (rVar 4) (rVar 5))) (rNot (rTru (rCallP 3 f_are_joined (rCons (rVar 0) (rCons (rVar 4) (rCons (rVar 5) rNil))))))) (rTup (rCons (rVar 4) (rCons (rVar 2) (rCons (rVar 5) rNil)))) [5])) (ofRA rNil)))))))
  (sRet (ofR (rCal gSortedA (rCons (rVar 1) rNil))))))
def f_vees_of := fnP 6 b_vees_of
set_option maxHeartbeats 4000000 in
theorem c_vees_of (E : Ev K mg) : C8.CalG P K.wd K mg base 2 "vees_of" (spP K 1 f_vees_of) [] := by
  obtain ⟨fa, fd, F, bi⟩ := E.d_vees_of
  have sc : FnScope N_vees_of ["web"] (C8.fnScope (topS 22)) := C8.fnScope_by (by decide +kernel)
  refine calP (ps := ["web"]) F bi sc fun cdv A outer s H Ex hr => ?_
  exact (dss_cons (ds_set 1 sc.nd (de_lst dea_nil))
  (dss_cons (ds_for PassesOwn.never rfl (di_of (dir_rng1 (dra_cons (dr_attr (dr_var 0)) dra_nil) E.n_range)) (pg_name (i := 2) sc.nd rfl (by first | exact .inl rfl | exact .inr rfl)) (gg_name 2)
   (dss_cons (ds_set 3 sc.nd (de_of (dr_callP (c_parents_of E) hr (dra_cons (dr_var 0) (dra_cons (dr_var 2) dra_nil)) (hk := by omega))))
   (dss_one (ds_for PassesOwn.never rfl (di_of (dir_tup (dr_var 3))) (pg_name (i := 4) sc.nd rfl (by first | exact .inl rfl | exact .inr rfl)) (gg_name 4)
    (dss_one (ds_expr (de_extend (dr_var 1) (dea_cons (de_of (dr_lc [("two", 5)] rfl sc.nd (dir_tup (dr_var 3)) (blkOk_by (by rfl)) (fun _ _ _ _ _ => (pg_name (i := 5) sc.nd rfl (by first | exact .inl rfl | exact .inr rfl))) (gg_name 5) (fun _ _ _ _ _ => (drts_one (PW.pt (drw_and (drt_cmpB (w_ltA hr) (dr_var 4) (dr_var 5) (nomark _)) (drw_and1 (drt_not (drt_tru (dr_callP (c_are_joined E) hr (dra_cons (dr_var 0) (dra_cons (dr_var 4) (dra_cons (dr_var 5) dra_nil))) (hk := by omega))))))))) (fun _ _ _ _ _ => (dr_tup (dra_cons (dr_var 4) (dra_cons (dr_var 2) (dra_cons (dr_var 5) dra_nil))))))) dea_nil))))))))
  (dss_one (ds_ret (de_of (dr_bi (v_sorted rfl hr) E.n_sorted b_sorted (.inl ⟨_, rfl⟩) (dra_cons (dr_var 1) dra_nil)))))))

/-! is_away -/
abbrev N_is_away : List Str := ["web", "far", "one", "other"]
def b_is_away : SS :=
  (sSeq (sIf (ofRT (rOr (rB (rBin g_eq (rVar 1) (rVar 3))) (rTru (rCallP 3 f_are_joined (rCons (rVar 0) (rCons (rVar 1) (rCons (rVar 3) rNil)))))))
   (sRet (ofR (rC (.bl false))))
   sNil)
  (sRet (ofR (rBin g_nin (rTup (rCons (rCal gMin2 (rCons (rVar 1) (rCons (rVar 3) rNil))) (rCons (rVar 2) (rCons (rCal gMax2 (rCons (rVar 1) (rCons (rVar 3) rNil))) rNil)))) (rCallP 1 f_vees_of (rCons (rVar 0) rNil))))))
def f_is_away := fnP 4 b_is_away
set_option maxHeartbeats 4000000 in
theorem c_is_away (E : Ev K mg) : C8.CalG P K.wd K mg base 3 "is_away" (spP K 4 f_is_away) [] := by
  obtain ⟨fa, fd, F, bi⟩ := E.d_is_away
  have sc : FnScope N_is_away ["web", "far", "one", "other"] (C8.fnScope (topS 26)) := C8.fnScope_by (by decide +kernel)
  refine calP (ps := ["web", "far", "one", "other"]) F bi sc fun cdv A outer s H Ex hr => ?_
  exact (dss_cons (ds_if (det_of (PW.pt (drw_or (drt_cmpB (w_eq hr) (dr_var 1) (dr_var 3) (nomark _)) (drw_or1 (drt_tru (dr_callP (c_are_joined E) hr (dra_cons (dr_var 0) (dra_cons (dr_var 1) (dra_cons (dr_var 3) dra_nil))) (hk := by omega)))))))
   (dss_one (ds_ret (de_of dr_bl)))
   dss_nil)
  (dss_one (ds_ret (de_of (dr_cmpB (w_nin hr) (dr_tup (dra_cons (dr_bi (v_min2 rfl) E.n_min b_min (.inl ⟨_, rfl⟩) (dra_cons (dr_var 1) (dra_cons (dr_var 3) dra_nil))) (dra_cons (dr_var 2) (dra_cons (dr_bi (v_max2 rfl) E.n_max b_max (.inl ⟨_, rfl⟩) (dra_cons (dr_var 1) (dra_cons (dr_var 3) dra_nil))) dra_nil)))) (dr_callP (c_vees_of E) hr (dra_cons (dr_var 0) dra_nil) (hk := by omega)) (by with_unfolding_all rfl))))))

/-! is_kite -/
abbrev N_is_kite : List Str := ["web", "known", "one", "near", "far", "other"]
def b_is_kite : SS :=
  (sSeq (sIf (ofRT (rOr (rB (rBin g_ninD (rTup (rCons (rVar 3) (rCons (rVar 5) rNil))) (rVar 1))) (rOr (rB (rBin g_ninD (rTup (rCons (rVar 4) (rCons (rVar 5) rNil))) (rVar 1))) (rTru (rCallP 3 f_are_joined (rCons (rVar 0) (rCons (rVar 3) (rCons (rVar 4) rNil))))))))
   (sRet (ofR (rC (.bl false))))
   sNil)
  (sSeq (sIf (ofRT (rB (rBin g_in_ (rTup (rCons (rVar 3) (rCons (rVar 2) (rCons (rVar 4) rNil)))) (rCallP 1 f_vees_of (rCons (rVar 0) rNil)))))
   (sRet (ofR (rC (.bl false))))
   sNil)
  (sRet (ofR (rAndV (rCallP 3 f_are_joined (rCons (rVar 0) (rCons (rVar 2) (rCons (rVar 3) rNil)))) (rAndV (rCallP 3 f_are_joined (rCons (rVar 0) (rCons (rVar 2) (rCons (rVar 4) rNil)))) (rAndV (rBin g_ne (rVar 2) (rVar 3)) (rBin g_ne (rVar 2) (rVar 4)))))))))
def f_is_kite := fnM 6 b_is_kite
set_option maxHeartbeats 4000000 in
theorem c_is_kite (E : Ev K mg) : C8.CalG P K.wd K mg base 3 "is_kite" (spB K 6 f_is_kite) [] := by
  obtain ⟨fa, fd, F, bi⟩ := E.d_is_kite
  have sc : FnScope N_is_kite ["web", "known", "one", "near", "far", "other"] (C8.fnScope (topS 27)) := C8.fnScope_by (by decide +kernel)
  refine calM (ps := ["web", "known", "one", "near", "far", "other"]) F bi sc fun cdv A outer s H Ex hr => ?_
  exact (dss_cons (ds_if (det_of (PW.pt (drw_or (drt_cmpB (w_ninD hr) (dr_tup (dra_cons (dr_var 3) (dra_cons (dr_var 5) dra_nil))) (dr_var 1) (by with_unfolding_all rfl)) (drw_or (drt_cmpB (w_ninD hr) (dr_tup (dra_cons (dr_var 4) (dra_cons (dr_var 5) dra_nil))) (dr_var 1) (by with_unfolding_all rfl)) (drw_or1 (drt_tru (dr_callP (c_are_joined E) hr (dra_cons (dr_var 0) (dra_cons (dr_var 3) (dra_cons (dr_var 4) dra_nil))) (hk := by omega))))))))
   (dss_one (ds_ret (de_of dr_bl)))
   dss_nil)
  (dss_cons (ds_if (det_of (drt_cmpB (w_in_ hr) (dr_tup (dra_cons (dr_var 3) (dra_cons (dr_var 2) (dra_cons (dr_var 4) dra_nil)))) (dr_callP (c_vees_of E) hr (dra_cons (dr_var 0) dra_nil) (hk := by omega)) (by with_unfolding_all rfl)))
   (dss_one (ds_ret (de_of dr_bl)))
   dss_nil)
  (dss_one (ds_ret (de_of (dr_and (dr_callP (c_are_joined E) hr (dra_cons (dr_var 0) (dra_cons (dr_var 2) (dra_cons (dr_var 3) dra_nil))) (hk := by omega)) (dr_and (dr_callP (c_are_joined E) hr (dra_cons (dr_var 0) (dra_cons (dr_var 2) (dra_cons (dr_var 4) dra_nil))) (hk := by omega)) (dr_and (dr_cmpB (w_ne hr) (dr_var 2) (dr_var 3) (nomark _)) (dr_one (dr_cmpB (w_ne hr) (dr_var 2) (dr_var 4) (nomark _)))))))))))

/-! check_arrow -/
abbrev N_check_arrow : List Str := ["web", "arrow"]
def b_check_arrow : SS :=
  (sSeq (sExp (ofR (rCallP 1 f_check_plain (rCons (rVar 0) rNil))))
  (sSeq (sIf (ofRT (rOr (rNot (rTru (rIsT (isTy "tuple") (rVar 1)))) (rB (rBin g_nin (rVar 1) (rAttr "arrows" (rVar 0))))))
   sNever
   sNil)
  (sIf (ofRT (rOr (rNot (rTru (rCallP 2 f_is_variable (rCons (rVar 0) (rCons (rBin ixA (rVar 1) (rC (.int 0))) rNil))))) (rNot (rTru (rCallP 2 f_is_variable (rCons (rVar 0) (rCons (rBin ixA (rVar 1) (rC (.int 1))) rNil)))))))
   sNever
   sNil)))
def f_check_arrow := fnP 2 b_check_arrow
set_option maxHeartbeats 4000000 in
theorem c_check_arrow (E : Ev K mg) : C8.CalG P K.wd K mg base 4 "check_arrow" (spP K 2 f_check_arrow) [] := by
  obtain ⟨fa, fd, F, bi⟩ := E.d_check_arrow
  have sc : FnScope N_check_arrow ["web", "arrow"] (C8.fnScope (topS 28)) := C8.fnScope_by (by decide +kernel)
  refine calP (ps := ["web", "arrow"]) F bi sc fun cdv A outer s H Ex hr => ?_
  exact (dss_cons (ds_expr (de_of (dr_callP (c_check_plain E) hr (dra_cons (dr_var 0) dra_nil) (hk := by omega))))
  (dss_cons (ds_if (det_of (PW.pt (drw_or (drt_not (drt_tru (dr_is (dr_var 1) E.n_isinstance E.n_tuple b_tuple kt_tuple))) (drw_or1 (drt_cmpB (w_nin hr) (dr_var 1) (dr_attr (dr_var 0)) (by with_unfolding_all rfl))))))
   (dss_one ds_never)
   dss_nil)
  (dss_one (ds_if (det_of (PW.pt (drw_or (drt_not (drt_tru (dr_callP (c_is_variable E) hr (dra_cons (dr_var 0) (dra_cons (dr_ixA hr (dr_var 1) dr_int) dra_nil)) (hk := by omega)))) (drw_or1 (drt_not (drt_tru (dr_callP (c_is_variable E) hr (dra_cons (dr_var 0) (dra_cons (dr_ixA hr (dr_var 1) dr_int) dra_nil)) (hk := by omega))))))))
   (dss_one ds_never)
   dss_nil))))

/-! given_by -/
abbrev N_given_by : List Str := ["web", "known", "step", "arrow", "rule", "first", "is_right", "one"]
def b_given_by : SS :=
  (sSeq (sIf (ofRT (rOr (rNot (rTru (rIsT (isTy "tuple") (rVar 2)))) (rOr (rB (rBin g_eq (rCal gLen (rCons (rVar 2) rNil)) (rC (.int 0)))) (rOr (rNot (rTru (rIsT (isTy "str") (rBin ixA (rVar 2) (rC (.int 0)))))) (rB (rInT true t_LENGTHS (rBin ixA (rVar 2) (rC (.int 0)))))))))
   (sRet (ofR (rC .non)))
   sNil)
  (sSeq (sIf (ofRT (rOr (rB (rBin g_ne (rCal gLen (rCons (rVar 2) rNil)) (rIxT t_LENGTHS (rBin ixA (rVar 2) (rC (.int 0)))))) (rTru (rLc (iTupR (rSlT (rVar 2) (partD (some (rC (.int 1)))) (partD none))) (setN 7) (rNot (rTru (rCallP 2 f_is_variable (rCons (rVar 0) (rCons (rVar 7) rNil))))) (rVar 7) [7]))))
   (sRet (ofR (rC .non)))
   sNil)
  (sSeq (sPar 4 5 (eCons (ofR (rBin ixA (rVar 2) (rC (.int 0)))) (eCons (ofR (rBin ixA (rVar 2) (rC (.int 1)))) (ofRA rNil))))
  (sSeq (sIf (ofRT (rB (rBin g_eq (rVar 4) (rC (.str "v")))))
   (sRet (ofR (rIf (rB (rBin g_in_ (rSlT (rVar 2) (partD (some (rC (.int 1)))) (partD none)) (rCallP 1 f_vees_of (rCons (rVar 0) rNil)))) (rFl (rCons (rTup (rCons (rVar 5) (rCons (rBin ixA (rVar 2) (rC (.int 2))) rNil))) (rCons (rTup (rCons (rBin ixA (rVar 2) (rC (.int 3))) (rCons (rBin ixA (rVar 2) (rC (.int 2))) rNil))) rNil))) (rC .non))))
   sNil)
  (sSeq (sAsg (ofR (rIf (rB (rBin g_eq (rVar 4) (rC (.str "away")))) (rTup (rCons (rBin ixA (rVar 2) (rC (.int 2))) (rCons (rBin ixA (rVar 2) (rC (.int 3))) rNil))) (rTup (rCons (rVar 5) (rCons (rBin ixA (rVar 2) (rNeg (rC (.int 1)))) rNil))))) (setN 3))
  (sSeq (sIf (ofRT (rOr (rB (rBin g_eq (rBin ixA (rVar 3) (rC (.int 0))) (rBin ixA (rVar 3) (rC (.int 1))))) (rNot (rTru (rCallP 3 f_are_joined (rCons (rVar 0) (rCons (rBin ixA (rVar 3) (rC (.int 0))) (rCons (rBin ixA (rVar 3) (rC (.int 1))) rNil))))))))
   (sRet (ofR (rC .non)))
   sNil)
  (sSeq (sIf (ofRT (rB (rBin g_eq (rVar 4) (rC (.str "away")))))
   (sAsg (ofR (rAndV (rBin g_inD (rTup (rCons (rVar 5) (rCons (rBin ixA (rVar 2) (rC (.int 2))) rNil))) (rVar 1)) (rCallP 4 f_is_away (rCons (rVar 0) (rCons (rVar 5) (rCons (rBin ixA (rVar 2) (rC (.int 2))) (rCons (rBin ixA (rVar 2) (rC (.int 3))) rNil))))))) (setN 6))
   (sIf (ofRT (rB (rBin g_eq (rVar 4) (rC (.str "ring")))))
    (sAsg (ofR (rAndV (rBin g_inD (rTup (rCons (rVar 5) (rCons (rBin ixA (rVar 2) (rC (.int 2))) rNil))) (rVar 1)) (rBin g_inD (rTup (rCons (rBin ixA (rVar 2) (rC (.int 2))) (rCons (rBin ixA (rVar 2) (rC (.int 3))) rNil))) (rVar 1)))) (setN 6))
    (sAsg (eAndV (ofR (rBin g_ltA (rBin ixA (rVar 2) (rC (.int 2))) (rBin ixA (rVar 2) (rC (.int 3))))) (eCallM 6 f_is_kite (eCons (ofR (rVar 0)) (eCons (ofR (rVar 1)) (eCons (ofR (rVar 5)) (eCons (ofR (rBin ixA (rVar 2) (rC (.int 2)))) (eCons (ofR (rBin ixA (rVar 2) (rC (.int 3)))) (eCons (ofR (rBin ixA (rVar 2) (rC (.int 4)))) (ofRA rNil))))))))) (setN 6))))
  (sRet (ofR (rIf (rTru (rVar 6)) (rFl (rCons (rVar 3) rNil)) (rC .non)))))))))))
def f_given_by := fnM 8 b_given_by
set_option maxHeartbeats 4000000 in
theorem c_given_by (E : Ev K mg) : C8.CalG P K.wd K mg base 4 "given_by" (spB K 3 f_given_by) [] := by
  obtain ⟨fa, fd, F, bi⟩ := E.d_given_by
  have sc : FnScope N_given_by ["web", "known", "step"] (C8.fnScope (topS 29)) := C8.fnScope_by (by decide +kernel)
  refine calM (ps := ["web", "known", "step"]) F bi sc fun cdv A outer s H Ex hr => ?_
  exact (dss_cons (ds_if (det_of (PW.pt (drw_or (drt_not (drt_tru (dr_is (dr_var 2) E.n_isinstance E.n_tuple b_tuple kt_tuple))) (drw_or (drt_cmpB (w_eq hr) (dr_bi v_len E.n_len b_len (.inl ⟨_, rfl⟩) (dra_cons (dr_var 2) dra_nil)) dr_int (nomark _)) (drw_or (drt_not (drt_tru (dr_is (dr_ixA hr (dr_var 2) dr_int) E.n_isinstance E.n_str b_str kt_str))) (drw_or1 (drt_ninT E.k_LENGTHS (dr_ixA hr (dr_var 2) dr_int))))))))
   (dss_one (ds_ret (de_of dr_non)))
   dss_nil)
  (dss_cons (ds_if (det_of (PW.pt (drw_or (drt_cmpB (w_ne hr) (dr_bi v_len E.n_len b_len (.inl ⟨_, rfl⟩) (dra_cons (dr_var 2) dra_nil)) (dr_ixT E.k_LENGTHS (dr_ixA hr (dr_var 2) dr_int)) (nomark _)) (drw_or1 (drt_tru (dr_lc [("one", 7)] rfl sc.nd (dir_tup (dr_slT (dr_var 2) (dp_some dr_int) dp_none)) (blkOk_by (by rfl)) (fun _ _ _ _ _ => (pg_name (i := 7) sc.nd rfl (by first | exact .inl rfl | exact .inr rfl))) (gg_name 7) (fun _ _ _ _ _ => (drts_one (drt_not (drt_tru (dr_callP (c_is_variable E) hr (dra_cons (dr_var 0) (dra_cons (dr_var 7) dra_nil)) (hk := by omega)))))) (fun _ _ _ _ _ => (dr_var 7))))))))
   (dss_one (ds_ret (de_of dr_non)))
   dss_nil)
  (dss_cons (ds_par 4 5 rfl sc.nd (dea_cons (de_of (dr_ixA hr (dr_var 2) dr_int)) (dea_cons (de_of (dr_ixA hr (dr_var 2) dr_int)) dea_nil)))
  (dss_cons (ds_if (det_of (drt_cmpB (w_eq hr) (dr_var 4) dr_str (nomark _)))
   (dss_one (ds_ret (de_of (dr_if (drt_cmpB (w_in_ hr) (dr_slT (dr_var 2) (dp_some dr_int) dp_none) (dr_callP (c_vees_of E) hr (dra_cons (dr_var 0) dra_nil) (hk := by omega)) (by with_unfolding_all rfl)) (dr_fl (dra_cons (dr_tup (dra_cons (dr_var 5) (dra_cons (dr_ixA hr (dr_var 2) dr_int) dra_nil))) (dra_cons (dr_tup (dra_cons (dr_ixA hr (dr_var 2) dr_int) (dra_cons (dr_ixA hr (dr_var 2) dr_int) dra_nil))) dra_nil))) dr_non))))
   dss_nil)
  (dss_cons (ds_set 3 sc.nd (de_of (dr_if (drt_cmpB (w_eq hr) (dr_var 4) dr_str (nomark _)) (dr_tup (dra_cons (dr_ixA hr (dr_var 2) dr_int) (dra_cons (dr_ixA hr (dr_var 2) dr_int) dra_nil))) (dr_tup (dra_cons (dr_var 5) (dra_cons (dr_ixA hr (dr_var 2) (dr_neg dr_int)) dra_nil))))))
  (dss_cons (ds_if (det_of (PW.pt (drw_or (drt_cmpB (w_eq hr) (dr_ixA hr (dr_var 3) dr_int) (dr_ixA hr (dr_var 3) dr_int) (nomark _)) (drw_or1 (drt_not (drt_tru (dr_callP (c_are_joined E) hr (dra_cons (dr_var 0) (dra_cons (dr_ixA hr (dr_var 3) dr_int) (dra_cons (dr_ixA hr (dr_var 3) dr_int) dra_nil))) (hk := by omega))))))))
   (dss_one (ds_ret (de_of dr_non)))
   dss_nil)
  (dss_cons (ds_if (det_of (drt_cmpB (w_eq hr) (dr_var 4) dr_str (nomark _)))
   (dss_one (ds_set 6 sc.nd (de_of (dr_and (dr_cmpB (w_inD hr) (dr_tup (dra_cons (dr_var 5) (dra_cons (dr_ixA hr (dr_var 2) dr_int) dra_nil))) (dr_var 1) (by with_unfolding_all rfl)) (dr_one (dr_callP (c_is_away E) hr (dra_cons (dr_var 0) (dra_cons (dr_var 5) (dra_cons (dr_ixA hr (dr_var 2) dr_int) (dra_cons (dr_ixA hr (dr_var 2) dr_int) dra_nil)))) (hk := by omega)))))))
   (dss_one (ds_if (det_of (drt_cmpB (w_eq hr) (dr_var 4) dr_str (nomark _)))
    (dss_one (ds_set 6 sc.nd (de_of (dr_and (dr_cmpB (w_inD hr) (dr_tup (dra_cons (dr_var 5) (dra_cons (dr_ixA hr (dr_var 2) dr_int) dra_nil))) (dr_var 1) (by with_unfolding_all rfl)) (dr_one (dr_cmpB (w_inD hr) (dr_tup (dra_cons (dr_ixA hr (dr_var 2) dr_int) (dra_cons (dr_ixA hr (dr_var 2) dr_int) dra_nil))) (dr_var 1) (by with_unfolding_all rfl)))))))
    (dss_one (ds_set 6 sc.nd (de_and (de_of (dr_cmpB (w_ltA hr) (dr_ixA hr (dr_var 2) dr_int) (dr_ixA hr (dr_var 2) dr_int) (nomark _))) (de_one (de_callM (c_is_kite E) hr (dea_cons (de_of (dr_var 0)) (dea_cons (de_of (dr_var 1)) (dea_cons (de_of (dr_var 5)) (dea_cons (de_of (dr_ixA hr (dr_var 2) dr_int)) (dea_cons (de_of (dr_ixA hr (dr_var 2) dr_int)) (dea_cons (de_of (dr_ixA hr (dr_var 2) dr_int)) dea_nil)))))) (hk := by omega)))))))))
  (dss_one (ds_ret (de_of (dr_if (drt_tru (dr_var 6)) (dr_fl (dra_cons (dr_var 3) dra_nil)) dr_non)))))))))))

/-! are_reasons -/
abbrev N_are_reasons : List Str := ["web", "arrow", "thing", "known", "step", "found", "pair"]
def b_are_reasons : SS :=
  (sSeq (sIf (ofRT (rNot (rTru (rIsT (isTy "tuple") (rVar 2)))))
   (sRet (ofR (rC (.bl false))))
   sNil)
  (sSeq (sAsg eDct0 (setN 3))
  (sSeq (sFor (ofRA (iTupR (rVar 2))) (setN 4)
   (sSeq (sAsg (eCallM 3 f_given_by (eCons (ofR (rVar 0)) (eCons (ofR (rVar 3)) (eCons (ofR (rVar 4)) (ofRA rNil))))) (setN 5))
   (sSeq (sIf (ofRT (rB (rBin g_isA (rVar 5) (rC .non))))
    (sRet (ofR (rC (.bl false))))
    sNil)
   (sExp (eUpd (rVar 3) (eDcN (iLstR (rVar 5)) (setN 6) (rVar 6) (rC (.bl true)) [6]))))))
  (sRet (ofR (rBin g_inD (rVar 1) (rVar 3)))))))
def f_are_reasons := fnP 7 b_are_reasons
set_option maxHeartbeats 4000000 in
theorem c_are_reasons (E : Ev K mg) : C8.CalG P K.wd K mg base 5 "are_reasons" (spP K 3 f_are_reasons) [] := by
  obtain ⟨fa, fd, F, bi⟩ := E.d_are_reasons
  have sc : FnScope N_are_reasons ["web", "arrow", "thing"] (C8.fnScope (topS 30)) := C8.fnScope_by (by decide +kernel)
  refine calP (ps := ["web", "arrow", "thing"]) F bi sc fun cdv A outer s H Ex hr => ?_
  exact (dss_cons (ds_if (det_of (drt_not (drt_tru (dr_is (dr_var 2) E.n_isinstance E.n_tuple b_tuple kt_tuple))))
   (dss_one (ds_ret (de_of dr_bl)))
   dss_nil)
  (dss_cons (ds_set 3 sc.nd de_dct0)
  (dss_cons (ds_for PassesOwn.never rfl (di_of (dir_tup (dr_var 2))) (pg_name (i := 4) sc.nd rfl (by first | exact .inl rfl | exact .inr rfl)) (gg_name 4)
   (dss_cons (ds_set 5 sc.nd (de_callM (c_given_by E) hr (dea_cons (de_of (dr_var 0)) (dea_cons (de_of (dr_var 3)) (dea_cons (de_of (dr_var 4)) dea_nil))) (hk := by omega)))
   (dss_cons (ds_if (det_of (drt_cmpB (w_isA hr) (dr_var 5) dr_non (nomark _)))
    (dss_one (ds_ret (de_of dr_bl)))
    dss_nil)
   (dss_one (ds_expr (de_upd hr (dr_var 3) (de_dcN [("pair", 6)] rfl hr sc.nd (dir_lst (dr_var 5)) (blkOk_by (by rfl)) (fun _ _ _ _ _ => (pg_name (i := 6) sc.nd rfl (by first | exact .inl rfl | exact .inr rfl))) (gg_name 6) (fun _ _ _ _ _ => (dr_var 6)) (fun _ _ _ _ _ => dr_bl))))))))
  (dss_one (ds_ret (de_of (dr_cmpB (w_inD hr) (dr_var 1) (dr_var 3) (by with_unfolding_all rfl))))))))

/-! is_loose -/
abbrev N_is_loose : List Str := ["web", "arrow", "thing"]
def b_is_loose : SS :=
  (sSeq (sExp (ofR (rCallP 2 f_check_arrow (rCons (rVar 0) (rCons (rVar 1) rNil)))))
  (sSeq (sIf (ofRT (rOr (rNot (rTru (rIsT (isTy "tuple") (rVar 2)))) (rOr (rB (rBin g_ne (rCal gLen (rCons (rVar 2) rNil)) (rC (.int 2)))) (rNot (rTru (rIsT (isTy "str") (rBin ixA (rVar 2) (rC (.int 0)))))))))
   (sRet (ofR (rC (.bl false))))
   sNil)
  (sSeq (sIf (ofRT (rB (rBin g_eq (rBin ixA (rVar 2) (rC (.int 0))) (rC (.str "forced")))))
   (sRet (ofR (rCallP 3 f_are_reasons (rCons (rVar 0) (rCons (rVar 1) (rCons (rBin ixA (rVar 2) (rC (.int 1))) rNil))))))
   sNil)
  (sSeq (sIf (ofRT (rOr (rB (rBin g_ne (rBin ixA (rVar 2) (rC (.int 0))) (rC (.str "web")))) (rOr (rNot (rTru rNever)) (rOr (rTru (rAttr "ties" (rBin ixA (rVar 2) (rC (.int 1))))) (rB (rBin g_ne (rAttr "many" (rBin ixA (rVar 2) (rC (.int 1)))) (rAttr "many" (rVar 0))))))))
   (sRet (ofR (rC (.bl false))))
   sNil)
  (sRet (ofR rNever))))))
def f_is_loose := fnP 3 b_is_loose
set_option maxHeartbeats 4000000 in
theorem c_is_loose (E : Ev K mg) : C8.CalG P K.wd K mg base 6 "is_loose" (spP K 3 f_is_loose) [] := by
  obtain ⟨fa, fd, F, bi⟩ := E.d_is_loose
  have sc : FnScope N_is_loose ["web", "arrow", "thing"] (C8.fnScope (topS 31)) := C8.fnScope_by (by decide +kernel)
  refine calP (ps := ["web", "arrow", "thing"]) F bi sc fun cdv A outer s H Ex hr => ?_
  exact (dss_cons (ds_expr (de_of (dr_callP (c_check_arrow E) hr (dra_cons (dr_var 0) (dra_cons (dr_var 1) dra_nil)) (hk := by omega))))
  (dss_cons (ds_if (det_of (PW.pt (drw_or (drt_not (drt_tru (dr_is (dr_var 2) E.n_isinstance E.n_tuple b_tuple kt_tuple))) (drw_or (drt_cmpB (w_ne hr) (dr_bi v_len E.n_len b_len (.inl ⟨_, rfl⟩) (dra_cons (dr_var 2) dra_nil)) dr_int (nomark _)) (drw_or1 (drt_not (drt_tru (dr_is (dr_ixA hr (dr_var 2) dr_int) E.n_isinstance E.n_str b_str kt_str))))))))
   (dss_one (ds_ret (de_of dr_bl)))
   dss_nil)
  (dss_cons (ds_if (det_of (drt_cmpB (w_eq hr) (dr_ixA hr (dr_var 2) dr_int) dr_str (nomark _)))
   (dss_one (ds_ret (de_of (dr_callP (c_are_reasons E) hr (dra_cons (dr_var 0) (dra_cons (dr_var 1) (dra_cons (dr_ixA hr (dr_var 2) dr_int) dra_nil))) (hk := by omega)))))
   dss_nil)
  (dss_cons (ds_if (det_of (PW.pt (drw_or (drt_cmpB (w_ne hr) (dr_ixA hr (dr_var 2) dr_int) dr_str (nomark _)) (drw_or (drt_not (drt_tru dr_never)) (drw_or (drt_tru (dr_attr (dr_ixA hr (dr_var 2) dr_int))) (drw_or1 (drt_cmpB (w_ne hr) (dr_attr (dr_ixA hr (dr_var 2) dr_int)) (dr_attr (dr_var 0)) (nomark _))))))))
   (dss_one (ds_ret (de_of dr_bl)))
   dss_nil)
  (dss_one (ds_ret (de_of dr_never)))))))

/-! _law_draws -/
abbrev N__law_draws : List Str := ["script", "many", "row", "big", "seed", "k", "cell"]
def b__law_draws : SS :=
  (sSeq (sAsg (eLst (ofRA rNil)) (setN 2))
  (sSeq (sAsg (ofR (rIf (rTru (rVar 0)) (rCal gAbs (rCons (rCal gInt (rCons (rBin ixA (rVar 0) (rC (.int 0))) rNil)) rNil)) (rC (.int 0)))) (setN 3))
  (sSeq (sIf (ofRT (rB (rBin g_geA (rVar 3) (rC (.int 1000000000000000000)))))
   (sFor (ofRA (iRgR rng1 (rCons (rVar 1) rNil))) (setN 5)
    (sIf (ofRT (rB (rBin g_gtA (rVar 3) (rC (.int 0)))))
     (sSeq (sExp (eMet gAppend (rVar 2) (eCons (ofR (rBin g_mod (rCal gInt (rCons (rVar 3) rNil)) (rC (.int 1009)))) (ofRA rNil))))
     (sAsg (ofR (rBin g_div (rVar 3) (rC (.int 1009)))) (setN 3)))
     sNil))
   sNil)
  (sSeq (sAsg (ofR (rC (.int 4423))) (setN 4))
  (sSeq (sFor (ofRA (iRgR rng1 (rCons (rBin g_sub (rVar 1) (rCal gLen (rCons (rVar 2) rNil))) rNil))) (setN 5)
   (sSeq (sAsg (ofR (rVar 5)) (setN 6))
   (sSeq (sIf (ofRT (rTru (rVar 0)))
    (sAsg (ofR (rBin g_mod (rCal gInt (rCons (rBin ixA (rVar 0) (rBin g_mod (rCal gInt (rCons (rBin g_addA (rVar 5) (rC (.int 1))) rNil)) (rCal gLen (rCons (rVar 0) rNil)))) rNil)) (rC (.int 2147483647)))) (setN 6))
    sNil)
   (sSeq (sAsg (ofR (rBin g_mod (rCal gInt (rCons (rBin g_addA (rBin g_addA (rBin g_addA (rBin g_mulA (rVar 4) (rC (.int 48271))) (rVar 6)) (rBin g_mulA (rVar 5) (rC (.int 69621)))) (rC (.int 13))) rNil)) (rC (.int 2147483647)))) (setN 4))
   (sExp (eMet gAppend (rVar 2) (eCons (ofR (rBin g_mod (rCal gInt (rCons (rBin g_div (rBin g_mod (rCal gInt (rCons (rBin g_addA (rBin g_mulA (rVar 4) (rC (.int 16807))) (rC (.int 54321))) rNil)) (rC (.int 2147483647))) (rC (.int 7))) rNil)) (rC (.int 1009)))) (ofRA rNil))))))))
  (sRet (eRevL (rVar 2))))))))
def f__law_draws := fnB 7 b__law_draws
set_option maxHeartbeats 4000000 in
theorem c__law_draws (E : Ev K mg) : C8.CalG P K.wd K mg base 1 "_law_draws" (spB K 2 f__law_draws) [] := by
  obtain ⟨fa, fd, F, bi⟩ := E.d__law_draws
  have sc : FnScope N__law_draws ["script", "many"] (C8.fnScope (topS 33)) := C8.fnScope_by (by decide +kernel)
  refine calB (ps := ["script", "many"]) F bi sc fun cdv A outer s H Ex hr => ?_
  exact (dss_cons (ds_set 2 sc.nd (de_lst dea_nil))
  (dss_cons (ds_set 3 sc.nd (de_of (dr_if (drt_tru (dr_var 0)) (dr_bi v_abs E.n_abs b_abs (.inl ⟨_, rfl⟩) (dra_cons (dr_bi v_int E.n_int b_int (.inr ⟨_, rfl⟩) (dra_cons (dr_ixA hr (dr_var 0) dr_int) dra_nil)) dra_nil)) dr_int)))
  (dss_cons (ds_if (det_of (drt_cmpB (w_geA hr) (dr_var 3) dr_int (nomark _)))
   (dss_one (ds_for PassesOwn.never rfl (di_of (dir_rng1 (dra_cons (dr_var 1) dra_nil) E.n_range)) (pg_name (i := 5) sc.nd rfl (by first | exact .inl rfl | exact .inr rfl)) (gg_name 5)
    (dss_one (ds_if (det_of (drt_cmpB (w_gtA hr) (dr_var 3) dr_int (nomark _)))
     (dss_cons (ds_expr (de_append (dr_var 2) (dea_cons (de_of (dr_opB (w_mod hr) (dr_bi v_int E.n_int b_int (.inr ⟨_, rfl⟩) (dra_cons (dr_var 3) dra_nil)) dr_int)) dea_nil)))
     (dss_one (ds_set 3 sc.nd (de_of (dr_opB (w_div hr) (dr_var 3) dr_int)))))
     dss_nil))))
   dss_nil)
  (dss_cons (ds_set 4 sc.nd (de_of dr_int))
  (dss_cons (ds_for PassesOwn.never rfl (di_of (dir_rng1 (dra_cons (dr_opB (w_sub hr) (dr_var 1) (dr_bi v_len E.n_len b_len (.inl ⟨_, rfl⟩) (dra_cons (dr_var 2) dra_nil))) dra_nil) E.n_range)) (pg_name (i := 5) sc.nd rfl (by first | exact .inl rfl | exact .inr rfl)) (gg_name 5)
   (dss_cons (ds_set 6 sc.nd (de_of (dr_var 5)))
   (dss_cons (ds_if (det_of (drt_tru (dr_var 0)))
    (dss_one (ds_set 6 sc.nd (de_of (dr_opB (w_mod hr) (dr_bi v_int E.n_int b_int (.inr ⟨_, rfl⟩) (dra_cons (dr_ixA hr (dr_var 0) (dr_opB (w_mod hr) (dr_bi v_int E.n_int b_int (.inr ⟨_, rfl⟩) (dra_cons (dr_opB (w_addA hr) (dr_var 5) dr_int) dra_nil)) (dr_bi v_len E.n_len b_len (.inl ⟨_, rfl⟩) (dra_cons (dr_var 0) dra_nil)))) dra_nil)) dr_int))))
    dss_nil)
   (dss_cons (ds_set 4 sc.nd (de_of (dr_opB (w_mod hr) (dr_bi v_int E.n_int b_int (.inr ⟨_, rfl⟩) (dra_cons (dr_opB (w_addA hr) (dr_opB (w_addA hr) (dr_opB (w_addA hr) (dr_opB (w_mulA hr) (dr_var 4) dr_int) (dr_var 6)) (dr_opB (w_mulA hr) (dr_var 5) dr_int)) dr_int) dra_nil)) dr_int)))
   (dss_one (ds_expr (de_append (dr_var 2) (dea_cons (de_of (dr_opB (w_mod hr) (dr_bi v_int E.n_int b_int (.inr ⟨_, rfl⟩) (dra_cons (dr_opB (w_div hr) (dr_opB (w_mod hr) (dr_bi v_int E.n_int b_int (.inr ⟨_, rfl⟩) (dra_cons (dr_opB (w_addA hr) (dr_opB (w_mulA hr) (dr_var 4) dr_int) dr_int) dra_nil)) dr_int) dr_int) dra_nil)) dr_int)) dea_nil))))))))
  (dss_one (ds_ret (de_revL (dr_var 2)))))))))

/-! _law_take -/
abbrev N__law_take : List Str := ["draws", "many"]
def b__law_take : SS :=
  (sSeq (sIf (ofRT (rNot (rTru (rVar 0))))
   (sRet (ofR (rC (.int 0))))
   sNil)
  (sRet (eBin g_mod (eCal gInt (eCons (ePop (rVar 0)) (ofRA rNil))) (ofR (rVar 1)))))
def f__law_take := fnB 2 b__law_take
set_option maxHeartbeats 4000000 in
theorem c__law_take (E : Ev K mg) : C8.CalG P K.wd K mg base 1 "_law_take" (spB K 2 f__law_take) [] := by
  obtain ⟨fa, fd, F, bi⟩ := E.d__law_take
  have sc : FnScope N__law_take ["draws", "many"] (C8.fnScope (topS 34)) := C8.fnScope_by (by decide +kernel)
  refine calB (ps := ["draws", "many"]) F bi sc fun cdv A outer s H Ex hr => ?_
  exact (dss_cons (ds_if (det_of (drt_not (drt_tru (dr_var 0))))
   (dss_one (ds_ret (de_of dr_int)))
   dss_nil)
  (dss_one (ds_ret (de_opB (w_mod hr) (de_bi v_int E.n_int b_int (.inr ⟨_, rfl⟩) (dea_cons (de_pop (dr_var 0)) dea_nil)) (de_of (dr_var 1))))))

/-! _law_order -/
abbrev N__law_order : List Str := ["draws", "many", "left", "out", "k"]
def b__law_order : SS :=
  (sSeq (sAsg (rgL rng1 (rCons (rVar 1) rNil)) (setN 2))
  (sSeq (sAsg (eLst (ofRA rNil)) (setN 3))
  (sSeq (sFor (ofRA (iRgR rng1 (rCons (rVar 1) rNil))) (setN 4)
   (sExp (eMet gAppend (rVar 3) (eCons (eMet gPopAt (rVar 2) (eCons (eCallB 2 f__law_take (eCons (ofR (rVar 0)) (eCons (ofR (rCal gLen (rCons (rVar 2) rNil))) (ofRA rNil)))) (ofRA rNil))) (ofRA rNil)))))
  (sRet (ofR (rVar 3))))))
def f__law_order := fnB 5 b__law_order
set_option maxHeartbeats 4000000 in
theorem c__law_order (E : Ev K mg) : C8.CalG P K.wd K mg base 2 "_law_order" (spB K 2 f__law_order) [] := by
  obtain ⟨fa, fd, F, bi⟩ := E.d__law_order
  have sc : FnScope N__law_order ["draws", "many"] (C8.fnScope (topS 35)) := C8.fnScope_by (by decide +kernel)
  refine calB (ps := ["draws", "many"]) F bi sc fun cdv A outer s H Ex hr => ?_
  exact (dss_cons (ds_set 2 sc.nd (de_listRg1 rfl (dr_var 1) E.n_list E.n_range))
  (dss_cons (ds_set 3 sc.nd (de_lst dea_nil))
  (dss_cons (ds_for PassesOwn.never rfl (di_of (dir_rng1 (dra_cons (dr_var 1) dra_nil) E.n_range)) (pg_name (i := 4) sc.nd rfl (by first | exact .inl rfl | exact .inr rfl)) (gg_name 4)
   (dss_one (ds_expr (de_append (dr_var 3) (dea_cons (de_popAt (dr_var 2) (dea_cons (de_callB (c__law_take E) hr (dea_cons (de_of (dr_var 0)) (dea_cons (de_of (dr_bi v_len E.n_len b_len (.inl ⟨_, rfl⟩) (dra_cons (dr_var 2) dra_nil))) dea_nil)) (hk := by omega)) dea_nil)) dea_nil)))))
  (dss_one (ds_ret (de_of (dr_var 3)))))))

/-! _law_plain -/
abbrev N__law_plain : List Str := ["draws", "many", "thick", "order", "arrows", "i", "j"]
def b__law_plain : SS :=
  (sSeq (sAsg (eCallB 2 f__law_order (eCons (ofR (rVar 0)) (eCons (ofR (rVar 1)) (ofRA rNil)))) (setN 3))
  (sSeq (sAsg (eLst (ofRA rNil)) (setN 4))
  (sSeq (sFor (ofRA (iRgR rng1 (rCons (rVar 1) rNil))) (setN 5)
   (sFor (ofRA (iRgR rng2 (rCons (rBin g_addA (rVar 5) (rC (.int 1))) (rCons (rVar 1) rNil)))) (setN 6)
    (sIf (eB (eBin g_ltA (eCallB 2 f__law_take (eCons (ofR (rVar 0)) (eCons (ofR (rC (.int 8))) (ofRA rNil)))) (ofR (rVar 2))))
     (sExp (eMet gAppend (rVar 4) (eCons (ofR (rTup (rCons (rBin ixA (rVar 3) (rVar 5)) (rCons (rBin ixA (rVar 3) (rVar 6)) rNil)))) (ofRA rNil))))
     sNil)))
  (sRet (ofR (rTup (rCons (rVar 1) (rCons (rCal gTuple (rCons (rCal gSortedA (rCons (rVar 4) rNil)) rNil)) rNil))))))))
def f__law_plain := fnB 7 b__law_plain
set_option maxHeartbeats 4000000 in
theorem c__law_plain (E : Ev K mg) : C8.CalG P K.wd K mg base 3 "_law_plain" (spB K 3 f__law_plain) [] := by
  obtain ⟨fa, fd, F, bi⟩ := E.d__law_plain
  have sc : FnScope N__law_plain ["draws", "many", "thick"] (C8.fnScope (topS 36)) := C8.fnScope_by (by decide +kernel)
  refine calB (ps := ["draws", "many", "thick"]) F bi sc fun cdv A outer s H Ex hr => ?_
  exact (dss_cons (ds_set 3 sc.nd (de_callB (c__law_order E) hr (dea_cons (de_of (dr_var 0)) (dea_cons (de_of (dr_var 1)) dea_nil)) (hk := by omega)))
  (dss_cons (ds_set 4 sc.nd (de_lst dea_nil))
  (dss_cons (ds_for PassesOwn.never rfl (di_of (dir_rng1 (dra_cons (dr_var 1) dra_nil) E.n_range)) (pg_name (i := 5) sc.nd rfl (by first | exact .inl rfl | exact .inr rfl)) (gg_name 5)
   (dss_one (ds_for PassesOwn.never rfl (di_of (dir_rng2 (dra_cons (dr_opB (w_addA hr) (dr_var 5) dr_int) (dra_cons (dr_var 1) dra_nil)) E.n_range)) (pg_name (i := 6) sc.nd rfl (by first | exact .inl rfl | exact .inr rfl)) (gg_name 6)
    (dss_one (ds_if (det_cmpB (w_ltA hr) (de_callB (c__law_take E) hr (dea_cons (de_of (dr_var 0)) (dea_cons (de_of dr_int) dea_nil)) (hk := by omega)) (de_of (dr_var 2)) (nomark _))
     (dss_one (ds_expr (de_append (dr_var 4) (dea_cons (de_of (dr_tup (dra_cons (dr_ixA hr (dr_var 3) (dr_var 5)) (dra_cons (dr_ixA hr (dr_var 3) (dr_var 6)) dra_nil)))) dea_nil))))
     dss_nil)))))
  (dss_one (ds_ret (de_of (dr_tup (dra_cons (dr_var 1) (dra_cons (dr_bi v_tuple E.n_tuple b_tuple (.inr ⟨_, rfl⟩) (dra_cons (dr_bi (v_sorted rfl hr) E.n_sorted b_sorted (.inl ⟨_, rfl⟩) (dra_cons (dr_var 4) dra_nil)) dra_nil)) dra_nil)))))))))

/-! _law_joined -/
abbrev N__law_joined : List Str := ["web", "arrow"]
def b__law_joined : SS :=
  (sRet (ofR (rCal gTuple (rCons (rCal gSortedA (rCons (rLc (iTupR (rBin ixA (rVar 0) (rC (.int 1)))) (setN 1) cYes (rTup (rCons (rCal gMinT (rCons (rVar 1) rNil)) (rCons (rCal gMaxT (rCons (rVar 1) rNil)) rNil))) [1]) rNil)) rNil))))
def f__law_joined := fnP 2 b__law_joined
set_option maxHeartbeats 4000000 in
theorem c__law_joined (E : Ev K mg) : C8.CalG P K.wd K mg base 1 "_law_joined" (spP K 1 f__law_joined) [] := by
  obtain ⟨fa, fd, F, bi⟩ := E.d__law_joined
  have sc : FnScope N__law_joined ["web"] (C8.fnScope (topS 37)) := C8.fnScope_by (by decide +kernel)
  refine calP (ps := ["web"]) F bi sc fun cdv A outer s H Ex hr => ?_
  exact (dss_one (ds_ret (de_of (dr_bi v_tuple E.n_tuple b_tuple (.inr ⟨_, rfl⟩) (dra_cons (dr_bi (v_sorted rfl hr) E.n_sorted b_sorted (.inl ⟨_, rfl⟩) (dra_cons (dr_lc [("arrow", 1)] rfl sc.nd (dir_tup (dr_ixA hr (dr_var 0) dr_int)) (blkOk_by (by rfl)) (fun _ _ _ _ _ => (pg_name (i := 1) sc.nd rfl (by first | exact .inl rfl | exact .inr rfl))) (gg_name 1) (fun _ _ _ _ _ => drts_nil) (fun _ _ _ _ _ => (dr_tup (dra_cons (dr_bi (v_minT rfl hr) E.n_min b_min (.inl ⟨_, rfl⟩) (dra_cons (dr_var 1) dra_nil)) (dra_cons (dr_bi (v_maxT rfl hr) E.n_max b_max (.inl ⟨_, rfl⟩) (dra_cons (dr_var 1) dra_nil)) dra_nil))))) dra_nil)) dra_nil)))))

/-! _law_vees -/
abbrev N__law_vees : List Str := ["web", "pairs", "out", "a", "c", "b", "d"]
def b__law_vees : SS :=
  (sSeq (sAsg (ofR (rCallP 1 f__law_joined (rCons (rVar 0) rNil))) (setN 1))
  (sSeq (sAsg (eLst (ofRA rNil)) (setN 2))
  (sSeq (sFor (ofRA (iTupR (rBin ixA (rVar 0) (rC (.int 1))))) (setTup [(setN 3), (setN 4)])
   (sFor (ofRA (iTupR (rBin ixA (rVar 0) (rC (.int 1))))) (setTup [(setN 5), (setN 6)])
    (sIf (ofRT (rAnd (rB (rBin g_eq (rVar 4) (rVar 6))) (rAnd (rB (rBin g_ltA (rVar 3) (rVar 5))) (rB (rBin g_nin (rTup (rCons (rVar 3) (rCons (rVar 5) rNil))) (rVar 1))))))
     (sExp (eMet gAppend (rVar 2) (eCons (ofR (rTup (rCons (rVar 3) (rCons (rVar 4) (rCons (rVar 5) rNil))))) (ofRA rNil))))
     sNil)))
  (sRet (ofR (rCal gTuple (rCons (rCal gSortedA (rCons (rVar 2) rNil)) rNil)))))))
def f__law_vees := fnP 7 b__law_vees
set_option maxHeartbeats 4000000 in
theorem c__law_vees (E : Ev K mg) : C8.CalG P K.wd K mg base 2 "_law_vees" (spP K 1 f__law_vees) [] := by
  obtain ⟨fa, fd, F, bi⟩ := E.d__law_vees
  have sc : FnScope N__law_vees ["web"] (C8.fnScope (topS 38)) := C8.fnScope_by (by decide +kernel)
  refine calP (ps := ["web"]) F bi sc fun cdv A outer s H Ex hr => ?_
  exact (dss_cons (ds_set 1 sc.nd (de_of (dr_callP (c__law_joined E) hr (dra_cons (dr_var 0) dra_nil) (hk := by omega))))
  (dss_cons (ds_set 2 sc.nd (de_lst dea_nil))
  (dss_cons (ds_for PassesOwn.never rfl (di_of (dir_tup (dr_ixA hr (dr_var 0) dr_int))) (pg_tup (n := 2) rfl (pgs_cons (pg_name (i := 3) sc.nd rfl (by first | exact .inl rfl | exact .inr rfl)) (pgs_cons (pg_name (i := 4) sc.nd rfl (by first | exact .inl rfl | exact .inr rfl)) pgs_nil))) (gg_tup (ggs_cons (gg_name 3) (ggs_cons (gg_name 4) ggs_nil)))
   (dss_one (ds_for PassesOwn.never rfl (di_of (dir_tup (dr_ixA hr (dr_var 0) dr_int))) (pg_tup (n := 2) rfl (pgs_cons (pg_name (i := 5) sc.nd rfl (by first | exact .inl rfl | exact .inr rfl)) (pgs_cons (pg_name (i := 6) sc.nd rfl (by first | exact .inl rfl | exact .inr rfl)) pgs_nil))) (gg_tup (ggs_cons (gg_name 5) (ggs_cons (gg_name 6) ggs_nil)))
    (dss_one (ds_if (det_of (PW.pt (drw_and (drt_cmpB (w_eq hr) (dr_var 4) (dr_var 6) (nomark _)) (drw_and (drt_cmpB (w_ltA hr) (dr_var 3) (dr_var 5) (nomark _)) (drw_and1 (drt_cmpB (w_nin hr) (dr_tup (dra_cons (dr_var 3) (dra_cons (dr_var 5) dra_nil))) (dr_var 1) (by with_unfolding_all rfl)))))))
     (dss_one (ds_expr (de_append (dr_var 2) (dea_cons (de_of (dr_tup (dra_cons (dr_var 3) (dra_cons (dr_var 4) (dra_cons (dr_var 5) dra_nil))))) dea_nil))))
     dss_nil)))))
  (dss_one (ds_ret (de_of (dr_bi v_tuple E.n_tuple b_tuple (.inr ⟨_, rfl⟩) (dra_cons (dr_bi (v_sorted rfl hr) E.n_sorted b_sorted (.inl ⟨_, rfl⟩) (dra_cons (dr_var 2) dra_nil)) dra_nil))))))))

/-! _law_gives -/
abbrev N__law_gives : List Str := ["web", "given", "step", "spots", "pairs", "vees", "is_apart", "is_led", "are_joined_v", "a", "b", "c", "d", "one"]
def b__law_gives : SS :=
  (sSeq (sAsg (eTup (eCons (ofR (rCallP 1 f__law_joined (rCons (rVar 0) rNil))) (eCons (ofR (rCallP 1 f__law_vees (rCons (rVar 0) rNil))) (ofRA rNil)))) (setTup [(setN 4), (setN 5)]))
  (sSeq (sIf (ofRT (rOr (rNot (rTru (rIsT (isTy "tuple") (rVar 2)))) (rOr (rB (rBin g_eq (rCal gLen (rCons (rVar 2) rNil)) (rC (.int 0)))) (rNot (rTru (rIsT (isTy "str") (rBin ixA (rVar 2) (rC (.int 0)))))))))
   (sRet (ofR (rFl rNil)))
   sNil)
  (sSeq (sAsg (ofR (rSlT (rVar 2) (partD (some (rC (.int 1)))) (partD none))) (setN 3))
  (sSeq (sIf (ofRT (rNot (rTru (rCal gAll (rCons (rLc (iTupR (rVar 3)) (setN 13) cYes (rAndV (rIsT (isTy "int") (rVar 13)) (rAndV (rNotV (rIsT (isTy "bool") (rVar 13))) (rChn g_le g_ltA (rC (.int 0)) (rVar 13) (rBin ixA (rVar 0) (rC (.int 0)))))) [13]) rNil)))))
   (sRet (ofR (rFl rNil)))
   sNil)
  (sSeq (sIf (ofRT (rAnd (rB (rBin g_eq (rBin ixA (rVar 2) (rC (.int 0))) (rC (.str "v")))) (rAnd (rB (rBin g_eq (rCal gLen (rCons (rVar 3) rNil)) (rC (.int 3)))) (rB (rBin g_in_ (rVar 3) (rVar 5))))))
   (sRet (ofR (rFl (rCons (rTup (rCons (rBin ixA (rVar 3) (rC (.int 0))) (rCons (rBin ixA (rVar 3) (rC (.int 1))) rNil))) (rCons (rTup (rCons (rBin ixA (rVar 3) (rC (.int 2))) (rCons (rBin ixA (rVar 3) (rC (.int 1))) rNil))) rNil)))))
   sNil)
  (sSeq (sIf (ofRT (rAnd (rB (rBin g_eq (rBin ixA (rVar 2) (rC (.int 0))) (rC (.str "away")))) (rB (rBin g_eq (rCal gLen (rCons (rVar 3) rNil)) (rC (.int 3))))))
   (sSeq (sAsg (ofR (rVar 3)) (setTup [(setN 9), (setN 10), (setN 11)]))
   (sSeq (sAsg (ofR (rAndV (rBin g_ne (rVar 9) (rVar 11)) (rAndV (rBin g_nin (rTup (rCons (rCal gMin2 (rCons (rVar 9) (rCons (rVar 11) rNil))) (rCons (rCal gMax2 (rCons (rVar 9) (rCons (rVar 11) rNil))) rNil))) (rVar 4)) (rBin g_nin (rTup (rCons (rCal gMin2 (rCons (rVar 9) (rCons (rVar 11) rNil))) (rCons (rVar 10) (rCons (rCal gMax2 (rCons (rVar 9) (rCons (rVar 11) rNil))) rNil)))) (rVar 5))))) (setN 6))
   (sRet (ofR (rIf (rAnd (rB (rBin g_in_ (rTup (rCons (rVar 9) (rCons (rVar 10) rNil))) (rVar 1))) (rAnd (rB (rBin g_in_ (rTup (rCons (rCal gMin2 (rCons (rVar 10) (rCons (rVar 11) rNil))) (rCons (rCal gMax2 (rCons (rVar 10) (rCons (rVar 11) rNil))) rNil))) (rVar 4))) (rTru (rVar 6)))) (rFl (rCons (rTup (rCons (rVar 10) (rCons (rVar 11) rNil))) rNil)) (rFl rNil))))))
   sNil)
  (sSeq (sIf (ofRT (rAnd (rB (rBin g_eq (rBin ixA (rVar 2) (rC (.int 0))) (rC (.str "ring")))) (rB (rBin g_eq (rCal gLen (rCons (rVar 3) rNil)) (rC (.int 3))))))
   (sSeq (sAsg (ofR (rVar 3)) (setTup [(setN 9), (setN 10), (setN 11)]))
   (sSeq (sAsg (ofR (rAndV (rBin g_in_ (rTup (rCons (rVar 9) (rCons (rVar 10) rNil))) (rVar 1)) (rBin g_in_ (rTup (rCons (rVar 10) (rCons (rVar 11) rNil))) (rVar 1)))) (setN 7))
   (sRet (ofR (rIf (rAnd (rTru (rVar 7)) (rB (rBin g_in_ (rTup (rCons (rCal gMin2 (rCons (rVar 9) (rCons (rVar 11) rNil))) (rCons (rCal gMax2 (rCons (rVar 9) (rCons (rVar 11) rNil))) rNil))) (rVar 4)))) (rFl (rCons (rTup (rCons (rVar 9) (rCons (rVar 11) rNil))) rNil)) (rFl rNil))))))
   sNil)
  (sSeq (sIf (ofRT (rAnd (rB (rBin g_eq (rBin ixA (rVar 2) (rC (.int 0))) (rC (.str "kite")))) (rB (rBin g_eq (rCal gLen (rCons (rVar 3) rNil)) (rC (.int 4))))))
   (sSeq (sAsg (ofR (rVar 3)) (setTup [(setN 9), (setN 10), (setN 11), (setN 12)]))
   (sSeq (sAsg (ofR (rCal gAll (rCons (rLc (iTupR (rTup (rCons (rVar 10) (rCons (rVar 11) (rCons (rVar 12) rNil))))) (setN 13) cYes (rBin g_in_ (rTup (rCons (rCal gMin2 (rCons (rVar 9) (rCons (rVar 13) rNil))) (rCons (rCal gMax2 (rCons (rVar 9) (rCons (rVar 13) rNil))) rNil))) (rVar 4)) [13]) rNil))) (setN 8))
   (sSeq (sAsg (ofR (rAndV (rBin g_ltA (rVar 10) (rVar 11)) (rAndV (rBin g_nin (rTup (rCons (rVar 10) (rCons (rVar 11) rNil))) (rVar 4)) (rBin g_nin (rTup (rCons (rVar 10) (rCons (rVar 9) (rCons (rVar 11) rNil)))) (rVar 5))))) (setN 6))
   (sRet (ofR (rIf (rAnd (rTru (rVar 8)) (rAnd (rTru (rVar 6)) (rAnd (rB (rBin g_in_ (rTup (rCons (rVar 10) (rCons (rVar 12) rNil))) (rVar 1))) (rB (rBin g_in_ (rTup (rCons (rVar 11) (rCons (rVar 12) rNil))) (rVar 1)))))) (rFl (rCons (rTup (rCons (rVar 9) (rCons (rVar 12) rNil))) rNil)) (rFl rNil)))))))
   sNil)
  (sRet (ofR (rFl rNil)))))))))))
def f__law_gives := fnP 14 b__law_gives
set_option maxHeartbeats 4000000 in
theorem c__law_gives (E : Ev K mg) : C8.CalG P K.wd K mg base 3 "_law_gives" (spP K 3 f__law_gives) [] := by
  obtain ⟨fa, fd, F, bi⟩ := E.d__law_gives
  have sc : FnScope N__law_gives ["web", "given", "step"] (C8.fnScope (topS 39)) := C8.fnScope_by (by decide +kernel)
  refine calP (ps := ["web", "given", "step"]) F bi sc fun cdv A outer s H Ex hr => ?_
  exact (dss_cons (ds_asg (de_tup (dea_cons (de_of (dr_callP (c__law_joined E) hr (dra_cons (dr_var 0) dra_nil) (hk := by omega))) (dea_cons (de_of (dr_callP (c__law_vees E) hr (dra_cons (dr_var 0) dra_nil) (hk := by omega))) dea_nil))) (pg_tup (n := 2) rfl (pgs_cons (pg_name (i := 4) sc.nd rfl (by first | exact .inl rfl | exact .inr rfl)) (pgs_cons (pg_name (i := 5) sc.nd rfl (by first | exact .inl rfl | exact .inr rfl)) pgs_nil))) (gg_tup (ggs_cons (gg_name 4) (ggs_cons (gg_name 5) ggs_nil))))
  (dss_cons (ds_if (det_of (PW.pt (drw_or (drt_not (drt_tru (dr_is (dr_var 2) E.n_isinstance E.n_tuple b_tuple kt_tuple))) (drw_or (drt_cmpB (w_eq hr) (dr_bi v_len E.n_len b_len (.inl ⟨_, rfl⟩) (dra_cons (dr_var 2) dra_nil)) dr_int (nomark _)) (drw_or1 (drt_not (drt_tru (dr_is (dr_ixA hr (dr_var 2) dr_int) E.n_isinstance E.n_str b_str kt_str))))))))
   (dss_one (ds_ret (de_of (dr_fl dra_nil))))
   dss_nil)
  (dss_cons (ds_set 3 sc.nd (de_of (dr_slT (dr_var 2) (dp_some dr_int) dp_none)))
  (dss_cons (ds_if (det_of (drt_not (drt_tru (dr_bi (v_all rfl) E.n_all b_all (.inl ⟨_, rfl⟩) (dra_cons (dr_lc [("one", 13)] rfl sc.nd (dir_tup (dr_var 3)) (blkOk_by (by rfl)) (fun _ _ _ _ _ => (pg_name (i := 13) sc.nd rfl (by first | exact .inl rfl | exact .inr rfl))) (gg_name 13) (fun _ _ _ _ _ => drts_nil) (fun _ _ _ _ _ => (dr_and (dr_is (dr_var 13) E.n_isinstance E.n_int b_int kt_int) (dr_and (dr_not (dr_is (dr_var 13) E.n_isinstance E.n_bool b_bool kt_bool)) (dr_one (dr_chnB (w_le hr) (w_ltA hr) dr_int (dr_var 13) (dr_ixA hr (dr_var 0) dr_int))))))) dra_nil)))))
   (dss_one (ds_ret (de_of (dr_fl dra_nil))))
   dss_nil)
  (dss_cons (ds_if (det_of (PW.pt (drw_and (drt_cmpB (w_eq hr) (dr_ixA hr (dr_var 2) dr_int) dr_str (nomark _)) (drw_and (drt_cmpB (w_eq hr) (dr_bi v_len E.n_len b_len (.inl ⟨_, rfl⟩) (dra_cons (dr_var 3) dra_nil)) dr_int (nomark _)) (drw_and1 (drt_cmpB (w_in_ hr) (dr_var 3) (dr_var 5) (by with_unfolding_all rfl)))))))
   (dss_one (ds_ret (de_of (dr_fl (dra_cons (dr_tup (dra_cons (dr_ixA hr (dr_var 3) dr_int) (dra_cons (dr_ixA hr (dr_var 3) dr_int) dra_nil))) (dra_cons (dr_tup (dra_cons (dr_ixA hr (dr_var 3) dr_int) (dra_cons (dr_ixA hr (dr_var 3) dr_int) dra_nil))) dra_nil))))))
   dss_nil)
  (dss_cons (ds_if (det_of (PW.pt (drw_and (drt_cmpB (w_eq hr) (dr_ixA hr (dr_var 2) dr_int) dr_str (nomark _)) (drw_and1 (drt_cmpB (w_eq hr) (dr_bi v_len E.n_len b_len (.inl ⟨_, rfl⟩) (dra_cons (dr_var 3) dra_nil)) dr_int (nomark _))))))
   (dss_cons (ds_asg (de_of (dr_var 3)) (pg_tup (n := 3) rfl (pgs_cons (pg_name (i := 9) sc.nd rfl (by first | exact .inl rfl | exact .inr rfl)) (pgs_cons (pg_name (i := 10) sc.nd rfl (by first | exact .inl rfl | exact .inr rfl)) (pgs_cons (pg_name (i := 11) sc.nd rfl (by first | exact .inl rfl | exact .inr rfl)) pgs_nil)))) (gg_tup (ggs_cons (gg_name 9) (ggs_cons (gg_name 10) (ggs_cons (gg_name 11) ggs_nil)))))
   (dss_cons (ds_set 6 sc.nd (de_of (dr_and (dr_cmpB (w_ne hr) (dr_var 9) (dr_var 11) (nomark _)) (dr_and (dr_cmpB (w_nin hr) (dr_tup (dra_cons (dr_bi (v_min2 rfl) E.n_min b_min (.inl ⟨_, rfl⟩) (dra_cons (dr_var 9) (dra_cons (dr_var 11) dra_nil))) (dra_cons (dr_bi (v_max2 rfl) E.n_max b_max (.inl ⟨_, rfl⟩) (dra_cons (dr_var 9) (dra_cons (dr_var 11) dra_nil))) dra_nil))) (dr_var 4) (by with_unfolding_all rfl)) (dr_one (dr_cmpB (w_nin hr) (dr_tup (dra_cons (dr_bi (v_min2 rfl) E.n_min b_min (.inl ⟨_, rfl⟩) (dra_cons (dr_var 9) (dra_cons (dr_var 11) dra_nil))) (dra_cons (dr_var 10) (dra_cons (dr_bi (v_max2 rfl) E.n_max b_max (.inl ⟨_, rfl⟩) (dra_cons (dr_var 9) (dra_cons (dr_var 11) dra_nil))) dra_nil)))) (dr_var 5) (by with_unfolding_all rfl)))))))
   (dss_one (ds_ret (de_of (dr_if (PW.pt (drw_and (drt_cmpB (w_in_ hr) (dr_tup (dra_cons (dr_var 9) (dra_cons (dr_var 10) dra_nil))) (dr_var 1) (by with_unfolding_all rfl)) (drw_and (drt_cmpB (w_in_ hr) (dr_tup (dra_cons (dr_bi (v_min2 rfl) E.n_min b_min (.inl ⟨_, rfl⟩) (dra_cons (dr_var 10) (dra_cons (dr_var 11) dra_nil))) (dra_cons (dr_bi (v_max2 rfl) E.n_max b_max (.inl ⟨_, rfl⟩) (dra_cons (dr_var 10) (dra_cons (dr_var 11) dra_nil))) dra_nil))) (dr_var 4) (by with_unfolding_all rfl)) (drw_and1 (drt_tru (dr_var 6)))))) (dr_fl (dra_cons (dr_tup (dra_cons (dr_var 10) (dra_cons (dr_var 11) dra_nil))) dra_nil)) (dr_fl dra_nil)))))))
   dss_nil)
  (dss_cons (ds_if (det_of (PW.pt (drw_and (drt_cmpB (w_eq hr) (dr_ixA hr (dr_var 2) dr_int) dr_str (nomark _)) (drw_and1 (drt_cmpB (w_eq hr) (dr_bi v_len E.n_len b_len (.inl ⟨_, rfl⟩) (dra_cons (dr_var 3) dra_nil)) dr_int (nomark _))))))
   (dss_cons (ds_asg (de_of (dr_var 3)) (pg_tup (n := 3) rfl (pgs_cons (pg_name (i := 9) sc.nd rfl (by first | exact .inl rfl | exact .inr rfl)) (pgs_cons (pg_name (i := 10) sc.nd rfl (by first | exact .inl rfl | exact .inr rfl)) (pgs_cons (pg_name (i := 11) sc.nd rfl (by first | exact .inl rfl | exact .inr rfl)) pgs_nil)))) (gg_tup (ggs_cons (gg_name 9) (ggs_cons (gg_name 10) (ggs_cons (gg_name 11) ggs_nil)))))
   (dss_cons (ds_set 7 sc.nd (de_of (dr_and (dr_cmpB (w_in_ hr) (dr_tup (dra_cons (dr_var 9) (dra_cons (dr_var 10) dra_nil))) (dr_var 1) (by with_unfolding_all rfl)) (dr_one (dr_cmpB (w_in_ hr) (dr_tup (dra_cons (dr_var 10) (dra_cons (dr_var 11) dra_nil))) (dr_var 1) (by with_unfolding_all rfl))))))
   (dss_one (ds_ret (de_of (dr_if (PW.pt (drw_and (drt_tru (dr_var 7)) (drw_and1 (drt_cmpB (w_in_ hr) (dr_tup (dra_cons (dr_bi (v_min2 rfl) E.n_min b_min (.inl ⟨_, rfl⟩) (dra_cons (dr_var 9) (dra_cons (dr_var 11) dra_nil))) (dra_cons (dr_bi (v_max2 rfl) E.n_max b_max (.inl ⟨_, rfl⟩) (dra_cons (dr_var 9) (dra_cons (dr_var 11) dra_nil))) dra_nil))) (dr_var 4) (by with_unfolding_all rfl))))) (dr_fl (dra_cons (dr_tup (dra_cons (dr_var 9) (dra_cons (dr_var 11) dra_nil))) dra_nil)) (dr_fl dra_nil)))))))
   dss_nil)
  (dss_cons (ds_if (det_of (PW.pt (drw_and (drt_cmpB (w_eq hr) (dr_ixA hr (dr_var 2) dr_int) dr_str (nomark _)) (drw_and1 (drt_cmpB (w_eq hr) (dr_bi v_len E.n_len b_len (.inl ⟨_, rfl⟩) (dra_cons (dr_var 3) dra_nil)) dr_int (nomark _))))))
   (dss_cons (ds_asg (de_of (dr_var 3)) (pg_tup (n := 4) rfl (pgs_cons (pg_name (i := 9) sc.nd rfl (by first | exact .inl rfl | exact .inr rfl)) (pgs_cons (pg_name (i := 10) sc.nd rfl (by first | exact .inl rfl | exact .inr rfl)) (pgs_cons (pg_name (i := 11) sc.nd rfl (by first | exact .inl rfl | exact .inr rfl)) (pgs_cons (pg_name (i := 12) sc.nd rfl (by first | exact .inl rfl | exact .inr rfl)) pgs_nil))))) (gg_tup (ggs_cons (gg_name 9) (ggs_cons (gg_name 10) (ggs_cons (gg_name 11) (ggs_cons (gg_name 12) ggs_nil))))))
   (dss_cons (ds_set 8 sc.nd (de_of (dr_bi (v_all rfl) E.n_all b_all (.inl ⟨_, rfl⟩) (dra_cons (dr_lc [("one", 13)] rfl sc.nd (dir_tup (dr_tup (dra_cons (dr_var 10) (dra_cons (dr_var 11) (dra_cons (dr_var 12) dra_nil))))) (blkOk_by (by rfl)) (fun _ _ _ _ _ => (pg_name (i := 13) sc.nd rfl (by first | exact .inl rfl | exact .inr rfl))) (gg_name 13) (fun _ _ _ _ _ => drts_nil) (fun _ _ _ _ _ => (dr_cmpB (w_in_ hr) (dr_tup (dra_cons (dr_bi (v_min2 rfl) E.n_min b_min (.inl ⟨_, rfl⟩) (dra_cons (dr_var 9) (dra_cons (dr_var 13) dra_nil))) (dra_cons (dr_bi (v_max2 rfl) E.n_max b_max (.inl ⟨_, rfl⟩) (dra_cons (dr_var 9) (dra_cons (dr_var 13) dra_nil))) dra_nil))) (dr_var 4) (by with_unfolding_all rfl)))) dra_nil))))
   (dss_cons (ds_set 6 sc.nd (de_of (dr_and (dr_cmpB (w_ltA hr) (dr_var 10) (dr_var 11) (nomark _)) (dr_and (dr_cmpB (w_nin hr) (dr_tup (dra_cons (dr_var 10) (dra_cons (dr_var 11) dra_nil))) (dr_var 4) (by with_unfolding_all rfl)) (dr_one (dr_cmpB (w_nin hr) (dr_tup (dra_cons (dr_var 10) (dra_cons (dr_var 9) (dra_cons (dr_var 11) dra_nil)))) (dr_var 5) (by with_unfolding_all rfl)))))))
   (dss_one (ds_ret (de_of (dr_if (PW.pt (drw_and (drt_tru (dr_var 8)) (drw_and (drt_tru (dr_var 6)) (drw_and (drt_cmpB (w_in_ hr) (dr_tup (dra_cons (dr_var 10) (dra_cons (dr_var 12) dra_nil))) (dr_var 1) (by with_unfolding_all rfl)) (drw_and1 (drt_cmpB (w_in_ hr) (dr_tup (dra_cons (dr_var 11) (dra_cons (dr_var 12) dra_nil))) (dr_var 1) (by with_unfolding_all rfl))))))) (dr_fl (dra_cons (dr_tup (dra_cons (dr_var 9) (dra_cons (dr_var 12) dra_nil))) dra_nil)) (dr_fl dra_nil))))))))
   dss_nil)
  (dss_one (ds_ret (de_of (dr_fl dra_nil))))))))))))

/-! _law_are_reasons -/
abbrev N__law_are_reasons : List Str := ["web", "arrow", "thing", "given", "step", "more"]
def b__law_are_reasons : SS :=
  (sSeq (sIf (ofRT (rNot (rTru (rIsT (isTy "tuple") (rVar 2)))))
   (sRet (ofR (rC (.bl false))))
   sNil)
  (sSeq (sAsg (ofR (rFl rNil)) (setN 3))
  (sSeq (sFor (ofRA (iTupR (rVar 2))) (setN 4)
   (sSeq (sAsg (ofR (rCallP 3 f__law_gives (rCons (rVar 0) (rCons (rVar 3) (rCons (rVar 4) rNil))))) (setN 5))
   (sSeq (sIf (ofRT (rB (rBin g_eq (rVar 5) (rFl rNil))))
    (sRet (ofR (rC (.bl false))))
    sNil)
   (sAsg (ofR (rBin g_addA (rVar 3) (rVar 5))) (setN 3)))))
  (sRet (ofR (rBin g_in_ (rVar 1) (rVar 3)))))))
def f__law_are_reasons := fnP 6 b__law_are_reasons
set_option maxHeartbeats 4000000 in
theorem c__law_are_reasons (E : Ev K mg) : C8.CalG P K.wd K mg base 4 "_law_are_reasons" (spP K 3 f__law_are_reasons) [] := by
  obtain ⟨fa, fd, F, bi⟩ := E.d__law_are_reasons
  have sc : FnScope N__law_are_reasons ["web", "arrow", "thing"] (C8.fnScope (topS 40)) := C8.fnScope_by (by decide +kernel)
  refine calP (ps := ["web", "arrow", "thing"]) F bi sc fun cdv A outer s H Ex hr => ?_
  exact (dss_cons (ds_if (det_of (drt_not (drt_tru (dr_is (dr_var 2) E.n_isinstance E.n_tuple b_tuple kt_tuple))))
   (dss_one (ds_ret (de_of dr_bl)))
   dss_nil)
  (dss_cons (ds_set 3 sc.nd (de_of (dr_fl dra_nil)))
  (dss_cons (ds_for PassesOwn.never rfl (di_of (dir_tup (dr_var 2))) (pg_name (i := 4) sc.nd rfl (by first | exact .inl rfl | exact .inr rfl)) (gg_name 4)
   (dss_cons (ds_set 5 sc.nd (de_of (dr_callP (c__law_gives E) hr (dra_cons (dr_var 0) (dra_cons (dr_var 3) (dra_cons (dr_var 4) dra_nil))) (hk := by omega))))
   (dss_cons (ds_if (det_of (drt_cmpB (w_eq hr) (dr_var 5) (dr_fl dra_nil) (nomark _)))
    (dss_one (ds_ret (de_of dr_bl)))
    dss_nil)
   (dss_one (ds_set 3 sc.nd (de_of (dr_opB (w_addA hr) (dr_var 3) (dr_var 5))))))))
  (dss_one (ds_ret (de_of (dr_cmpB (w_in_ hr) (dr_var 1) (dr_var 3) (by with_unfolding_all rfl))))))))

/-! _law_all_steps -/
abbrev N__law_all_steps : List Str := ["many", "out", "a", "b", "c", "d"]
def b__law_all_steps : SS :=
  (sSeq (sAsg (eLst (ofRA rNil)) (setN 1))
  (sSeq (sFor (ofRA (iRgR rng1 (rCons (rVar 0) rNil))) (setN 2)
   (sFor (ofRA (iRgR rng1 (rCons (rVar 0) rNil))) (setN 3)
    (sFor (ofRA (iRgR rng1 (rCons (rVar 0) rNil))) (setN 4)
     (sSeq (sExp (eMet gExtend (rVar 1) (eCons (ofR (rFl (rCons (rTup (rCons (rC (.str "away")) (rCons (rVar 2) (rCons (rVar 3) (rCons (rVar 4) rNil))))) (rCons (rTup (rCons (rC (.str "ring")) (rCons (rVar 2) (rCons (rVar 3) (rCons (rVar 4) rNil))))) rNil)))) (ofRA rNil))))
     (sExp (eMet gExtend (rVar 1) (eCons (ofR (rLc (iRgR rng1 (rCons (rVar 0) rNil)) (setN 5) (rB (rBin g_ltA (rVar 3) (rVar 4))) (rTup (rCons (rC (.str "kite")) (rCons (rVar 2) (rCons (rVar 3) (rCons (rVar 4) (rCons (rVar 5) rNil)))))) [5])) (ofRA rNil))))))))
  (sRet (ofR (rVar 1)))))
def f__law_all_steps := fnP 6 b__law_all_steps
set_option maxHeartbeats 4000000 in
theorem c__law_all_steps (E : Ev K mg) : C8.CalG P K.wd K mg base 1 "_law_all_steps" (spP K 1 f__law_all_steps) [] := by
  obtain ⟨fa, fd, F, bi⟩ := E.d__law_all_steps
  have sc : FnScope N__law_all_steps ["many"] (C8.fnScope (topS 41)) := C8.fnScope_by (by decide +kernel)
  refine calP (ps := ["many"]) F bi sc fun cdv A outer s H Ex hr => ?_
  exact (dss_cons (ds_set 1 sc.nd (de_lst dea_nil))
  (dss_cons (ds_for PassesOwn.never rfl (di_of (dir_rng1 (dra_cons (dr_var 0) dra_nil) E.n_range)) (pg_name (i := 2) sc.nd rfl (by first | exact .inl rfl | exact .inr rfl)) (gg_name 2)
   (dss_one (ds_for PassesOwn.never rfl (di_of (dir_rng1 (dra_cons (dr_var 0) dra_nil) E.n_range)) (pg_name (i := 3) sc.nd rfl (by first | exact .inl rfl | exact .inr rfl)) (gg_name 3)
    (dss_one (ds_for PassesOwn.never rfl (di_of (dir_rng1 (dra_cons (dr_var 0) dra_nil) E.n_range)) (pg_name (i := 4) sc.nd rfl (by first | exact .inl rfl | exact .inr rfl)) (gg_name 4)
     (dss_cons (ds_expr (de_extend (dr_var 1) (dea_cons (de_of (dr_fl (dra_cons (dr_tup (dra_cons dr_str (dra_cons (dr_var 2) (dra_cons (dr_var 3) (dra_cons (dr_var 4) dra_nil))))) (dra_cons (dr_tup (dra_cons dr_str (dra_cons (dr_var 2) (dra_cons (dr_var 3) (dra_cons (dr_var 4) dra_nil))))) dra_nil)))) dea_nil)))
     (dss_one (ds_expr (de_extend (dr_var 1) (dea_cons (de_of (dr_lc [("d", 5)] rfl sc.nd (dir_rng1 (dra_cons (dr_var 0) dra_nil) E.n_range) (blkOk_by (by rfl)) (fun _ _ _ _ _ => (pg_name (i := 5) sc.nd rfl (by first | exact .inl rfl | exact .inr rfl))) (gg_name 5) (fun _ _ _ _ _ => (drts_one (drt_cmpB (w_ltA hr) (dr_var 3) (dr_var 4) (nomark _)))) (fun _ _ _ _ _ => (dr_tup (dra_cons dr_str (dra_cons (dr_var 2) (dra_cons (dr_var 3) (dra_cons (dr_var 4) (dra_cons (dr_var 5) dra_nil))))))))) dea_nil))))))))))
  (dss_one (ds_ret (de_of (dr_var 1))))))

/-! _law_reasons -/
abbrev N__law_reasons : List Str := ["web", "arrow", "words", "step", "steps", "at", "row", "given", "is_new", "less", "more", "vee", "one"]
def b__law_reasons : SS :=
  (sSeq (sAsg (ofR (rTup (rCons (rLc (iTupR (rCallP 1 f__law_vees (rCons (rVar 0) rNil))) (setN 11) cYes (rBin g_addA (rTup (rCons (rC (.str "v")) rNil)) (rVar 11)) [11]) (rCons (rFl rNil) (rCons (rC (.bl true)) rNil))))) (setTup [(setN 6), (setN 7), (setN 8)]))
  (sSeq (sFor (iFlE (ofR (rVar 6))) (setN 3)
   (sAsg (ofR (rBin g_addA (rVar 7) (rCallP 3 f__law_gives (rCons (rVar 0) (rCons (rVar 7) (rCons (rVar 3) rNil)))))) (setN 7)))
  (sSeq (sAsg (ofR (rLc (iLstR (rCallP 1 f__law_all_steps (rCons (rBin ixA (rVar 0) (rC (.int 0))) rNil))) (setN 3) (rB (rBin g_in_ (rBin ixA (rVar 3) (rC (.int 0))) (rVar 2))) (rVar 3) [3])) (setN 4))
  (sSeq (whileS (ofRT (rAnd (rTru (rVar 8)) (rB (rBin g_nin (rVar 1) (rVar 7)))))
   (sSeq (sAsg (ofR (rC (.bl false))) (setN 8))
   (sFor (iFlE (ofR (rVar 4))) (setN 3)
    (sSeq (sAsg (ofR (rLc (iLstR (rCallP 3 f__law_gives (rCons (rVar 0) (rCons (rVar 7) (rCons (rVar 3) rNil))))) (setN 12) (rB (rBin g_nin (rVar 12) (rVar 7))) (rVar 12) [12])) (setN 10))
    (sIf (ofRT (rB (rBin g_ne (rVar 10) (rFl rNil))))
     (sAsg (ofR (rTup (rCons (rBin g_addA (rVar 6) (rFl (rCons (rVar 3) rNil))) (rCons (rBin g_addA (rVar 7) (rVar 10)) (rCons (rC (.bl true)) rNil))))) (setTup [(setN 6), (setN 7), (setN 8)]))
     sNil)))))
  (sSeq (sIf (ofRT (rB (rBin g_nin (rVar 1) (rVar 7))))
   (sRet (ofR (rC .non)))
   sNil)
  (sSeq (sFor (ofRA (iRgR rng3 (rCons (rBin g_sub (rCal gLen (rCons (rVar 6) rNil)) (rC (.int 1))) (rCons (rNeg (rC (.int 1))) (rCons (rNeg (rC (.int 1))) rNil))))) (setN 5)
   (sSeq (sAsg (ofR (rBin g_addA (rSlL (rVar 6) (partD none) (partD (some (rVar 5)))) (rSlL (rVar 6) (partD (some (rBin g_addA (rVar 5) (rC (.int 1))))) (partD none)))) (setN 9))
   (sAsg (ofR (rIf (rTru (rCallP 3 f__law_are_reasons (rCons (rVar 0) (rCons (rVar 1) (rCons (rCal gTuple (rCons (rVar 9) rNil)) rNil))))) (rVar 9) (rVar 6))) (setN 6))))
  (sRet (ofR (rCal gTuple (rCons (rVar 6) rNil))))))))))
def f__law_reasons := fnP 13 b__law_reasons
set_option maxHeartbeats 4000000 in
theorem c__law_reasons (E : Ev K mg) : C8.CalG P K.wd K mg base 5 "_law_reasons" (spP K 3 f__law_reasons) [] := by
  obtain ⟨fa, fd, F, bi⟩ := E.d__law_reasons
  have sc : FnScope N__law_reasons ["web", "arrow", "words"] (C8.fnScope (topS 42)) := C8.fnScope_by (by decide +kernel)
  refine calP (ps := ["web", "arrow", "words"]) F bi sc fun cdv A outer s H Ex hr => ?_
  exact (dss_cons (ds_asg (de_of (dr_tup (dra_cons (dr_lc [("vee", 11)] rfl sc.nd (dir_tup (dr_callP (c__law_vees E) hr (dra_cons (dr_var 0) dra_nil) (hk := by omega))) (blkOk_by (by rfl)) (fun _ _ _ _ _ => (pg_name (i := 11) sc.nd rfl (by first | exact .inl rfl | exact .inr rfl))) (gg_name 11) (fun _ _ _ _ _ => drts_nil) (fun _ _ _ _ _ => (dr_opB (w_addA hr) (dr_tup (dra_cons dr_str dra_nil)) (dr_var 11)))) (dra_cons (dr_fl dra_nil) (dra_cons dr_bl dra_nil))))) (pg_tup (n := 3) rfl (pgs_cons (pg_name (i := 6) sc.nd rfl (by first | exact .inl rfl | exact .inr rfl)) (pgs_cons (pg_name (i := 7) sc.nd rfl (by first | exact .inl rfl | exact .inr rfl)) (pgs_cons (pg_name (i := 8) sc.nd rfl (by first | exact .inl rfl | exact .inr rfl)) pgs_nil)))) (gg_tup (ggs_cons (gg_name 6) (ggs_cons (gg_name 7) (ggs_cons (gg_name 8) ggs_nil)))))
  (dss_cons (ds_for PassesOwn.never rfl (di_fl (de_of (dr_var 6))) (pg_name (i := 3) sc.nd rfl (by first | exact .inl rfl | exact .inr rfl)) (gg_name 3)
   (dss_one (ds_set 7 sc.nd (de_of (dr_opB (w_addA hr) (dr_var 7) (dr_callP (c__law_gives E) hr (dra_cons (dr_var 0) (dra_cons (dr_var 7) (dra_cons (dr_var 3) dra_nil))) (hk := by omega)))))))
  (dss_cons (by first | exact (ds_set 4 sc.nd (de_of (dr_lc [("step", 3)] rfl sc.nd (dir_lst (dr_callP (c__law_all_steps E) hr (dra_cons (dr_ixA hr (dr_var 0) dr_int) dra_nil) (hk := by omega))) (blkOk_by (by rfl)) (fun _ _ _ _ _ => (pg_name (i := 3) sc.nd rfl (by first | exact .inl rfl | exact .inr rfl))) (gg_name 3) (fun _ _ _ _ _ => (drts_one (drt_cmpB (w_in_ hr) (dr_ixA hr (dr_var 3) dr_int) (dr_var 2) (by with_unfolding_all rfl)))) (fun _ _ _ _ _ => (dr_var 3))))) | exact (ds_setLcR 4 [("step", 3)] rfl sc.nd (dir_lst (dr_callP (c__law_all_steps E) hr (dra_cons (dr_ixA hr (dr_var 0) dr_int) dra_nil) (hk := by omega))) (blkOk_by (by rfl)) (fun _ _ _ _ _ => (pg_name (i := 3) sc.nd rfl (by first | exact .inl rfl | exact .inr rfl))) (gg_name 3) (fun _ _ _ _ _ => (drts_one (drt_cmpB (w_in_ hr) (dr_ixA hr (dr_var 3) dr_int) (dr_var 2) (by with_unfolding_all rfl)))) (fun _ _ _ _ _ => (dr_var 3))))
  (dss_cons (ds_while PassesOwn.never (det_of (PW.pt (drw_and (drt_tru (dr_var 8)) (drw_and1 (drt_cmpB (w_nin hr) (dr_var 1) (dr_var 7) (by with_unfolding_all rfl))))))
   (dss_cons (ds_set 8 sc.nd (de_of dr_bl))
   (dss_one (ds_for PassesOwn.never rfl (di_fl (de_of (dr_var 4))) (pg_name (i := 3) sc.nd rfl (by first | exact .inl rfl | exact .inr rfl)) (gg_name 3)
    (dss_cons (by first | exact (ds_set 10 sc.nd (de_of (dr_lc [("one", 12)] rfl sc.nd (dir_lst (dr_callP (c__law_gives E) hr (dra_cons (dr_var 0) (dra_cons (dr_var 7) (dra_cons (dr_var 3) dra_nil))) (hk := by omega))) (blkOk_by (by rfl)) (fun _ _ _ _ _ => (pg_name (i := 12) sc.nd rfl (by first | exact .inl rfl | exact .inr rfl))) (gg_name 12) (fun _ _ _ _ _ => (drts_one (drt_cmpB (w_nin hr) (dr_var 12) (dr_var 7) (by with_unfolding_all rfl)))) (fun _ _ _ _ _ => (dr_var 12))))) | exact (ds_setLcR 10 [("one", 12)] rfl sc.nd (dir_lst (dr_callP (c__law_gives E) hr (dra_cons (dr_var 0) (dra_cons (dr_var 7) (dra_cons (dr_var 3) dra_nil))) (hk := by omega))) (blkOk_by (by rfl)) (fun _ _ _ _ _ => (pg_name (i := 12) sc.nd rfl (by first | exact .inl rfl | exact .inr rfl))) (gg_name 12) (fun _ _ _ _ _ => (drts_one (drt_cmpB (w_nin hr) (dr_var 12) (dr_var 7) (by with_unfolding_all rfl)))) (fun _ _ _ _ _ => (dr_var 12))))
    (dss_one (ds_if (det_of (drt_cmpB (w_ne hr) (dr_var 10) (dr_fl dra_nil) (nomark _)))
     (dss_one (ds_asg (de_of (dr_tup (dra_cons (dr_opB (w_addA hr) (dr_var 6) (dr_fl (dra_cons (dr_var 3) dra_nil))) (dra_cons (dr_opB (w_addA hr) (dr_var 7) (dr_var 10)) (dra_cons dr_bl dra_nil))))) (pg_tup (n := 3) rfl (pgs_cons (pg_name (i := 6) sc.nd rfl (by first | exact .inl rfl | exact .inr rfl)) (pgs_cons (pg_name (i := 7) sc.nd rfl (by first | exact .inl rfl | exact .inr rfl)) (pgs_cons (pg_name (i := 8) sc.nd rfl (by first | exact .inl rfl | exact .inr rfl)) pgs_nil)))) (gg_tup (ggs_cons (gg_name 6) (ggs_cons (gg_name 7) (ggs_cons (gg_name 8) ggs_nil))))))
     dss_nil)))))))
  (dss_cons (ds_if (det_of (drt_cmpB (w_nin hr) (dr_var 1) (dr_var 7) (by with_unfolding_all rfl)))
   (dss_one (ds_ret (de_of dr_non)))
   dss_nil)
  (dss_cons (ds_for PassesOwn.never rfl (di_of (dir_rng3 (dra_cons (dr_opB (w_sub hr) (dr_bi v_len E.n_len b_len (.inl ⟨_, rfl⟩) (dra_cons (dr_var 6) dra_nil)) dr_int) (dra_cons (dr_neg dr_int) (dra_cons (dr_neg dr_int) dra_nil))) E.n_range)) (pg_name (i := 5) sc.nd rfl (by first | exact .inl rfl | exact .inr rfl)) (gg_name 5)
   (dss_cons (ds_set 9 sc.nd (de_of (dr_opB (w_addA hr) (dr_slL (dr_var 6) dp_none (dp_some (dr_var 5))) (dr_slL (dr_var 6) (dp_some (dr_opB (w_addA hr) (dr_var 5) dr_int)) dp_none))))
   (dss_one (ds_set 6 sc.nd (de_of (dr_if (drt_tru (dr_callP (c__law_are_reasons E) hr (dra_cons (dr_var 0) (dra_cons (dr_var 1) (dra_cons (dr_bi v_tuple E.n_tuple b_tuple (.inr ⟨_, rfl⟩) (dra_cons (dr_var 9) dra_nil)) dra_nil))) (hk := by omega))) (dr_var 9) (dr_var 6)))))))
  (dss_one (ds_ret (de_of (dr_bi v_tuple E.n_tuple b_tuple (.inr ⟨_, rfl⟩) (dra_cons (dr_var 6) dra_nil)))))))))))

/-! _law_web -/
abbrev N__law_web : List Str := ["web"]
def b__law_web : SS :=
  (sRet (ofR (rCallP 3 f_Web (rCons (rBin ixA (rVar 0) (rC (.int 0))) (rCons (rBin ixA (rVar 0) (rC (.int 1))) (rCons (rTup rNil) rNil))))))
def f__law_web := fnP 1 b__law_web
set_option maxHeartbeats 4000000 in
theorem c__law_web (E : Ev K mg) : C8.CalG P K.wd K mg base 7 "_law_web" (spP K 1 f__law_web) [] := by
  obtain ⟨fa, fd, F, bi⟩ := E.d__law_web
  have sc : FnScope N__law_web ["web"] (C8.fnScope (topS 43)) := C8.fnScope_by (by decide +kernel)
  refine calP (ps := ["web"]) F bi sc fun cdv A outer s H Ex hr => ?_
  exact (dss_one (ds_ret (de_of (dr_mk E.cls_Web.2 (m_Web E) hr (dra_cons (dr_ixA hr (dr_var 0) dr_int) (dra_cons (dr_ixA hr (dr_var 0) dr_int) (dra_cons (dr_tup dra_nil) dra_nil))) (hk := by omega)))))

/-! _law_case -/
abbrev N__law_case : List Str := ["draws", "forms", "kind", "order", "many", "arrows", "a", "b"]
def b__law_case : SS :=
  (sSeq (sAsg (eLst (eCons (ofR (rTup (rCons (rC (.int 4)) (rCons (rFl (rCons (rTup (rCons (rC (.int 0)) (rCons (rC (.int 2)) rNil))) (rCons (rTup (rCons (rC (.int 1)) (rCons (rC (.int 2)) rNil))) (rCons (rTup (rCons (rC (.int 2)) (rCons (rC (.int 3)) rNil))) rNil)))) rNil)))) (eCons (ofR (rTup (rCons (rC (.int 5)) (rCons (rFl (rCons (rTup (rCons (rC (.int 0)) (rCons (rC (.int 2)) rNil))) (rCons (rTup (rCons (rC (.int 1)) (rCons (rC (.int 2)) rNil))) (rCons (rTup (rCons (rC (.int 2)) (rCons (rC (.int 3)) rNil))) (rCons (rTup (rCons (rC (.int 3)) (rCons (rC (.int 4)) rNil))) rNil))))) rNil)))) (ofRA rNil)))) (setN 1))
  (sSeq (sExp (eMet gAppend (rVar 1) (eCons (ofR (rTup (rCons (rC (.int 5)) (rCons (rFl (rCons (rTup (rCons (rC (.int 0)) (rCons (rC (.int 2)) rNil))) (rCons (rTup (rCons (rC (.int 1)) (rCons (rC (.int 2)) rNil))) (rCons (rTup (rCons (rC (.int 2)) (rCons (rC (.int 3)) rNil))) (rCons (rTup (rCons (rC (.int 2)) (rCons (rC (.int 4)) rNil))) (rCons (rTup (rCons (rC (.int 3)) (rCons (rC (.int 4)) rNil))) rNil)))))) rNil)))) (ofRA rNil))))
  (sSeq (sExp (eMet gAppend (rVar 1) (eCons (ofR (rTup (rCons (rC (.int 6)) (rCons (rFl (rCons (rTup (rCons (rC (.int 0)) (rCons (rC (.int 2)) rNil))) (rCons (rTup (rCons (rC (.int 1)) (rCons (rC (.int 2)) rNil))) (rCons (rTup (rCons (rC (.int 2)) (rCons (rC (.int 3)) rNil))) (rCons (rTup (rCons (rC (.int 3)) (rCons (rC (.int 4)) rNil))) (rCons (rTup (rCons (rC (.int 4)) (rCons (rC (.int 5)) rNil))) rNil)))))) rNil)))) (ofRA rNil))))
  (sSeq (sExp (eMet gAppend (rVar 1) (eCons (ofR (rTup (rCons (rC (.int 6)) (rCons (rFl (rCons (rTup (rCons (rC (.int 0)) (rCons (rC (.int 2)) rNil))) (rCons (rTup (rCons (rC (.int 1)) (rCons (rC (.int 2)) rNil))) (rCons (rTup (rCons (rC (.int 2)) (rCons (rC (.int 3)) rNil))) (rCons (rTup (rCons (rC (.int 3)) (rCons (rC (.int 4)) rNil))) (rCons (rTup (rCons (rC (.int 2)) (rCons (rC (.int 5)) rNil))) (rCons (rTup (rCons (rC (.int 5)) (rCons (rC (.int 4)) rNil))) rNil))))))) rNil)))) (ofRA rNil))))
  (sSeq (sExp (eMet gAppend (rVar 1) (eCons (ofR (rTup (rCons (rC (.int 4)) (rCons (rFl (rCons (rTup (rCons (rC (.int 0)) (rCons (rC (.int 1)) rNil))) (rCons (rTup (rCons (rC (.int 0)) (rCons (rC (.int 2)) rNil))) (rCons (rTup (rCons (rC (.int 0)) (rCons (rC (.int 3)) rNil))) (rCons (rTup (rCons (rC (.int 1)) (rCons (rC (.int 3)) rNil))) (rCons (rTup (rCons (rC (.int 2)) (rCons (rC (.int 3)) rNil))) rNil)))))) rNil)))) (ofRA rNil))))
  (sSeq (sExp (eMet gAppend (rVar 1) (eCons (ofR (rTup (rCons (rC (.int 5)) (rCons (rFl (rCons (rTup (rCons (rC (.int 0)) (rCons (rC (.int 1)) rNil))) (rCons (rTup (rCons (rC (.int 0)) (rCons (rC (.int 2)) rNil))) (rCons (rTup (rCons (rC (.int 0)) (rCons (rC (.int 3)) rNil))) (rCons (rTup (rCons (rC (.int 1)) (rCons (rC (.int 3)) rNil))) (rCons (rTup (rCons (rC (.int 2)) (rCons (rC (.int 3)) rNil))) (rCons (rTup (rCons (rC (.int 3)) (rCons (rC (.int 4)) rNil))) rNil))))))) rNil)))) (ofRA rNil))))
  (sSeq (sExp (eMet gAppend (rVar 1) (eCons (ofR (rTup (rCons (rC (.int 5)) (rCons (rFl (rCons (rTup (rCons (rC (.int 0)) (rCons (rC (.int 2)) rNil))) (rCons (rTup (rCons (rC (.int 1)) (rCons (rC (.int 2)) rNil))) (rCons (rTup (rCons (rC (.int 2)) (rCons (rC (.int 3)) rNil))) (rCons (rTup (rCons (rC (.int 0)) (rCons (rC (.int 3)) rNil))) (rCons (rTup (rCons (rC (.int 1)) (rCons (rC (.int 3)) rNil))) (rCons (rTup (rCons (rC (.int 3)) (rCons (rC (.int 4)) rNil))) rNil))))))) rNil)))) (ofRA rNil))))
  (sSeq (sExp (eMet gAppend (rVar 1) (eCons (ofR (rTup (rCons (rC (.int 6)) (rCons (rFl (rCons (rTup (rCons (rC (.int 0)) (rCons (rC (.int 2)) rNil))) (rCons (rTup (rCons (rC (.int 1)) (rCons (rC (.int 2)) rNil))) (rCons (rTup (rCons (rC (.int 2)) (rCons (rC (.int 4)) rNil))) (rCons (rTup (rCons (rC (.int 3)) (rCons (rC (.int 4)) rNil))) (rCons (rTup (rCons (rC (.int 4)) (rCons (rC (.int 5)) rNil))) (rCons (rTup (rCons (rC (.int 2)) (rCons (rC (.int 5)) rNil))) rNil))))))) rNil)))) (ofRA rNil))))
  (sSeq (sAsg (eCallB 2 f__law_take (eCons (ofR (rVar 0)) (eCons (ofR (rC (.int 12))) (ofRA rNil)))) (setN 2))
  (sSeq (sIf (ofRT (rB (rBin g_geA (rVar 2) (rCal gLen (rCons (rVar 1) rNil)))))
   (sRet (eCallB 3 f__law_plain (eCons (ofR (rVar 0)) (eCons (eBin g_addA (ofR (rC (.int 4))) (eCallB 2 f__law_take (eCons (ofR (rVar 0)) (eCons (ofR (rC (.int 3))) (ofRA rNil))))) (eCons (eBin g_addA (ofR (rC (.int 2))) (eCallB 2 f__law_take (eCons (ofR (rVar 0)) (eCons (ofR (rC (.int 3))) (ofRA rNil))))) (ofRA rNil))))))
   sNil)
  (sSeq (sAsg (ofR (rBin ixA (rVar 1) (rVar 2))) (setTup [(setN 4), (setN 5)]))
  (sSeq (sFrz 3 (sAsg (eCallB 2 f__law_order (eCons (ofR (rVar 0)) (eCons (ofR (rVar 4)) (ofRA rNil)))) (setN 3)))
  (sRet (ofR (rTup (rCons (rVar 4) (rCons (rCal gTuple (rCons (rCal gSortedA (rCons (rLc (iLstR (rVar 5)) (setTup [(setN 6), (setN 7)]) cYes (rTup (rCons (rBin ixA (rVar 3) (rVar 6)) (rCons (rBin ixA (rVar 3) (rVar 7)) rNil))) [6, 7]) rNil)) rNil)) rNil)))))))))))))))))
def f__law_case := fnB 8 b__law_case
set_option maxHeartbeats 4000000 in
theorem c__law_case (E : Ev K mg) : C8.CalG P K.wd K mg base 4 "_law_case" (spB K 1 f__law_case) [] := by
  obtain ⟨fa, fd, F, bi⟩ := E.d__law_case
  have sc : FnScope N__law_case ["draws"] (C8.fnScope (topS 44)) := C8.fnScope_by (by decide +kernel)
  refine calB (ps := ["draws"]) F bi sc fun cdv A outer s H Ex hr => ?_
  exact (dss_cons (ds_set 1 sc.nd (de_lst (dea_cons (de_of (dr_tup (dra_cons dr_int (dra_cons (dr_fl (dra_cons (dr_tup (dra_cons dr_int (dra_cons dr_int dra_nil))) (dra_cons (dr_tup (dra_cons dr_int (dra_cons dr_int dra_nil))) (dra_cons (dr_tup (dra_cons dr_int (dra_cons dr_int dra_nil))) dra_nil)))) dra_nil)))) (dea_cons (de_of (dr_tup (dra_cons dr_int (dra_cons (dr_fl (dra_cons (dr_tup (dra_cons dr_int (dra_cons dr_int dra_nil))) (dra_cons (dr_tup (dra_cons dr_int (dra_cons dr_int dra_nil))) (dra_cons (dr_tup (dra_cons dr_int (dra_cons dr_int dra_nil))) (dra_cons (dr_tup (dra_cons dr_int (dra_cons dr_int dra_nil))) dra_nil))))) dra_nil)))) dea_nil))))
  (dss_cons (ds_expr (de_append (dr_var 1) (dea_cons (de_of (dr_tup (dra_cons dr_int (dra_cons (dr_fl (dra_cons (dr_tup (dra_cons dr_int (dra_cons dr_int dra_nil))) (dra_cons (dr_tup (dra_cons dr_int (dra_cons dr_int dra_nil))) (dra_cons (dr_tup (dra_cons dr_int (dra_cons dr_int dra_nil))) (dra_cons (dr_tup (dra_cons dr_int (dra_cons dr_int dra_nil))) (dra_cons (dr_tup (dra_cons dr_int (dra_cons dr_int dra_nil))) dra_nil)))))) dra_nil)))) dea_nil)))
  (dss_cons (ds_expr (de_append (dr_var 1) (dea_cons (de_of (dr_tup (dra_cons dr_int (dra_cons (dr_fl (dra_cons (dr_tup (dra_cons dr_int (dra_cons dr_int dra_nil))) (dra_cons (dr_tup (dra_cons dr_int (dra_cons dr_int dra_nil))) (dra_cons (dr_tup (dra_cons dr_int (dra_cons dr_int dra_nil))) (dra_cons (dr_tup (dra_cons dr_int (dra_cons dr_int dra_nil))) (dra_cons (dr_tup (dra_cons dr_int (dra_cons dr_int dra_nil))) dra_nil)))))) dra_nil)))) dea_nil)))
  (dss_cons (ds_expr (de_append (dr_var 1) (dea_cons (de_of (dr_tup (dra_cons dr_int (dra_cons (dr_fl (dra_cons (dr_tup (dra_cons dr_int (dra_cons dr_int dra_nil))) (dra_cons (dr_tup (dra_cons dr_int (dra_cons dr_int dra_nil))) (dra_cons (dr_tup (dra_cons dr_int (dra_cons dr_int dra_nil))) (dra_cons (dr_tup (dra_cons dr_int (dra_cons dr_int dra_nil))) (dra_cons (dr_tup (dra_cons dr_int (dra_cons dr_int dra_nil))) (dra_cons (dr_tup (dra_cons dr_int (dra_cons dr_int dra_nil))) dra_nil))))))) dra_nil)))) dea_nil)))
  (dss_cons (ds_expr (de_append (dr_var 1) (dea_cons (de_of (dr_tup (dra_cons dr_int (dra_cons (dr_fl (dra_cons (dr_tup (dra_cons dr_int (dra_cons dr_int dra_nil))) (dra_cons (dr_tup (dra_cons dr_int (dra_cons dr_int dra_nil))) (dra_cons (dr_tup (dra_cons dr_int (dra_cons dr_int dra_nil))) (dra_cons (dr_tup (dra_cons dr_int (dra_cons dr_int dra_nil))) (dra_cons (dr_tup (dra_cons dr_int (dra_cons dr_int dra_nil))) dra_nil)))))) dra_nil)))) dea_nil)))
  (dss_cons (ds_expr (de_append (dr_var 1) (dea_cons (de_of (dr_tup (dra_cons dr_int (dra_cons (dr_fl (dra_cons (dr_tup (dra_cons dr_int (dra_cons dr_int dra_nil))) (dra_cons (dr_tup (dra_cons dr_int (dra_cons dr_int dra_nil))) (dra_cons (dr_tup (dra_cons dr_int (dra_cons dr_int dra_nil))) (dra_cons (dr_tup (dra_cons dr_int (dra_cons dr_int dra_nil))) (dra_cons (dr_tup (dra_cons dr_int (dra_cons dr_int dra_nil))) (dra_cons (dr_tup (dra_cons dr_int (dra_cons dr_int dra_nil))) dra_nil))))))) dra_nil)))) dea_nil)))
  (dss_cons (ds_expr (de_append (dr_var 1) (dea_cons (de_of (dr_tup (dra_cons dr_int (dra_cons (dr_fl (dra_cons (dr_tup (dra_cons dr_int (dra_cons dr_int dra_nil))) (dra_cons (dr_tup (dra_cons dr_int (dra_cons dr_int dra_nil))) (dra_cons (dr_tup (dra_cons dr_int (dra_cons dr_int dra_nil))) (dra_cons (dr_tup (dra_cons dr_int (dra_cons dr_int dra_nil))) (dra_cons (dr_tup (dra_cons dr_int (dra_cons dr_int dra_nil))) (dra_cons (dr_tup (dra_cons dr_int (dra_cons dr_int dra_nil))) dra_nil))))))) dra_nil)))) dea_nil)))
  (dss_cons (ds_expr (de_append (dr_var 1) (dea_cons (de_of (dr_tup (dra_cons dr_int (dra_cons (dr_fl (dra_cons (dr_tup (dra_cons dr_int (dra_cons dr_int dra_nil))) (dra_cons (dr_tup (dra_cons dr_int (dra_cons dr_int dra_nil))) (dra_cons (dr_tup (dra_cons dr_int (dra_cons dr_int dra_nil))) (dra_cons (dr_tup (dra_cons dr_int (dra_cons dr_int dra_nil))) (dra_cons (dr_tup (dra_cons dr_int (dra_cons dr_int dra_nil))) (dra_cons (dr_tup (dra_cons dr_int (dra_cons dr_int dra_nil))) dra_nil))))))) dra_nil)))) dea_nil)))
  (dss_cons (ds_set 2 sc.nd (de_callB (c__law_take E) hr (dea_cons (de_of (dr_var 0)) (dea_cons (de_of dr_int) dea_nil)) (hk := by omega)))
  (dss_cons (ds_if (det_of (drt_cmpB (w_geA hr) (dr_var 2) (dr_bi v_len E.n_len b_len (.inl ⟨_, rfl⟩) (dra_cons (dr_var 1) dra_nil)) (nomark _)))
   (dss_one (ds_ret (de_callB (c__law_plain E) hr (dea_cons (de_of (dr_var 0)) (dea_cons (de_opB (w_addA hr) (de_of dr_int) (de_callB (c__law_take E) hr (dea_cons (de_of (dr_var 0)) (dea_cons (de_of dr_int) dea_nil)) (hk := by omega))) (dea_cons (de_opB (w_addA hr) (de_of dr_int) (de_callB (c__law_take E) hr (dea_cons (de_of (dr_var 0)) (dea_cons (de_of dr_int) dea_nil)) (hk := by omega))) dea_nil))) (hk := by omega))))
   dss_nil)
  (dss_cons (ds_asg (de_of (dr_ixA hr (dr_var 1) (dr_var 2))) (pg_tup (n := 2) rfl (pgs_cons (pg_name (i := 4) sc.nd rfl (by first | exact .inl rfl | exact .inr rfl)) (pgs_cons (pg_name (i := 5) sc.nd rfl (by first | exact .inl rfl | exact .inr rfl)) pgs_nil))) (gg_tup (ggs_cons (gg_name 4) (ggs_cons (gg_name 5) ggs_nil))))
  (dss_cons (ds_frz 3 (ds_set 3 sc.nd (de_callB (c__law_order E) hr (dea_cons (de_of (dr_var 0)) (dea_cons (de_of (dr_var 4)) dea_nil)) (hk := by omega))))
  (dss_one (ds_ret (de_of (dr_tup (dra_cons (dr_var 4) (dra_cons (dr_bi v_tuple E.n_tuple b_tuple (.inr ⟨_, rfl⟩) (dra_cons (dr_bi (v_sorted rfl hr) E.n_sorted b_sorted (.inl ⟨_, rfl⟩) (dra_cons (dr_lc [("a", 6), ("b", 7)] rfl sc.nd (dir_lst (dr_var 5)) (blkOk_by (by rfl)) (fun _ _ _ _ _ => (pg_tup (n := 2) rfl (pgs_cons (pg_name (i := 6) sc.nd rfl (by first | exact .inl rfl | exact .inr rfl)) (pgs_cons (pg_name (i := 7) sc.nd rfl (by first | exact .inl rfl | exact .inr rfl)) pgs_nil)))) (gg_tup (ggs_cons (gg_name 6) (ggs_cons (gg_name 7) ggs_nil))) (fun _ _ _ _ _ => drts_nil) (fun _ _ _ _ _ => (dr_tup (dra_cons (dr_ixA hr (dr_var 3) (dr_var 6)) (dra_cons (dr_ixA hr (dr_var 3) (dr_var 7)) dra_nil))))) dra_nil)) dra_nil)) dra_nil))))))))))))))))))

/-! _law_orders -/
abbrev N__law_orders : List Str := ["draws", "reasons", "rows", "turn", "longer", "row", "at", "step"]
def b__law_orders : SS :=
  (sSeq (sIf (ofRT (rB (rBin g_gtA (rCal gLen (rCons (rVar 1) rNil)) (rC (.int 4)))))
   (sRet (eLc (ofRA (iRgR rng1 (rCons (rC (.int 12)) rNil))) (setN 3) cYesE (eCal gTuple (eCons (eLc (iFlE (eFrzE (eCallB 2 f__law_order (eCons (ofR (rVar 0)) (eCons (ofR (rCal gLen (rCons (rVar 1) rNil))) (ofRA rNil)))))) (setN 6) cYesE (ofR (rBin ixA (rVar 1) (rVar 6))) [6]) (ofRA rNil))) [3]))
   sNil)
  (sSeq (sAsg (ofR (rFl (rCons (rTup rNil) rNil))) (setN 2))
  (sSeq (sFor (ofRA (iRgR rng1 (rCons (rCal gLen (rCons (rVar 1) rNil)) rNil))) (setN 3)
   (sSeq (sAsg (eLst (ofRA rNil)) (setN 4))
   (sSeq (sFor (iFlE (ofR (rVar 2))) (setN 5)
    (sExp (eMet gExtend (rVar 4) (eCons (ofR (rLc (iTupR (rVar 1)) (setN 7) (rB (rBin g_nin (rVar 7) (rVar 5))) (rBin g_addA (rVar 5) (rTup (rCons (rVar 7) rNil))) [7])) (ofRA rNil)))))
   (sFrz 2 (sAsg (ofR (rVar 4)) (setN 2))))))
  (sRet (ofR (rVar 2))))))
def f__law_orders := fnB 8 b__law_orders
set_option maxHeartbeats 4000000 in
theorem c__law_orders (E : Ev K mg) : C8.CalG P K.wd K mg base 3 "_law_orders" (spB K 2 f__law_orders) [] := by
  obtain ⟨fa, fd, F, bi⟩ := E.d__law_orders
  have sc : FnScope N__law_orders ["draws", "reasons"] (C8.fnScope (topS 45)) := C8.fnScope_by (by decide +kernel)
  refine calB (ps := ["draws", "reasons"]) F bi sc fun cdv A outer s H Ex hr => ?_
  exact (dss_cons (ds_if (det_of (drt_cmpB (w_gtA hr) (dr_bi v_len E.n_len b_len (.inl ⟨_, rfl⟩) (dra_cons (dr_var 1) dra_nil)) dr_int (nomark _)))
   (dss_one (ds_ret (de_lc [("turn", 3)] rfl sc.nd (di_of (dir_rng1 (dra_cons dr_int dra_nil) E.n_range)) (blkOk_by (by rfl)) (fun _ _ _ _ _ => (pg_name (i := 3) sc.nd rfl (by first | exact .inl rfl | exact .inr rfl))) (gg_name 3) (fun _ _ _ _ _ => dets_nil) (fun _ _ _ _ _ => (de_bi v_tuple E.n_tuple b_tuple (.inr ⟨_, rfl⟩) (dea_cons (de_lc [("at", 6)] rfl sc.nd (di_fl (de_frzE (de_callB (c__law_order E) hr (dea_cons (de_of (dr_var 0)) (dea_cons (de_of (dr_bi v_len E.n_len b_len (.inl ⟨_, rfl⟩) (dra_cons (dr_var 1) dra_nil))) dea_nil)) (hk := by omega)))) (blkOk_by (by rfl)) (fun _ _ _ _ _ => (pg_name (i := 6) sc.nd rfl (by first | exact .inl rfl | exact .inr rfl))) (gg_name 6) (fun _ _ _ _ _ => dets_nil) (fun _ _ _ _ _ => (de_of (dr_ixA hr (dr_var 1) (dr_var 6))))) dea_nil))))))
   dss_nil)
  (dss_cons (ds_set 2 sc.nd (de_of (dr_fl (dra_cons (dr_tup dra_nil) dra_nil))))
  (dss_cons (ds_for PassesOwn.never rfl (di_of (dir_rng1 (dra_cons (dr_bi v_len E.n_len b_len (.inl ⟨_, rfl⟩) (dra_cons (dr_var 1) dra_nil)) dra_nil) E.n_range)) (pg_name (i := 3) sc.nd rfl (by first | exact .inl rfl | exact .inr rfl)) (gg_name 3)
   (dss_cons (ds_set 4 sc.nd (de_lst dea_nil))
   (dss_cons (ds_for PassesOwn.never rfl (di_fl (de_of (dr_var 2))) (pg_name (i := 5) sc.nd rfl (by first | exact .inl rfl | exact .inr rfl)) (gg_name 5)
    (dss_one (ds_expr (de_extend (dr_var 4) (dea_cons (de_of (dr_lc [("step", 7)] rfl sc.nd (dir_tup (dr_var 1)) (blkOk_by (by rfl)) (fun _ _ _ _ _ => (pg_name (i := 7) sc.nd rfl (by first | exact .inl rfl | exact .inr rfl))) (gg_name 7) (fun _ _ _ _ _ => (drts_one (drt_cmpB (w_nin hr) (dr_var 7) (dr_var 5) (by with_unfolding_all rfl)))) (fun _ _ _ _ _ => (dr_opB (w_addA hr) (dr_var 5) (dr_tup (dra_cons (dr_var 7) dra_nil)))))) dea_nil)))))
   (dss_one (ds_frz 2 (ds_set 2 sc.nd (de_of (dr_var 4))))))))
  (dss_one (ds_ret (de_of (dr_var 2)))))))

/-! _law_strange -/
abbrev N__law_strange : List Str := ["draws", "web", "spots", "some", "a", "c", "b", "turn", "word"]
def b__law_strange : SS :=
  (sSeq (sAsg (eLc (ofRA (iRgR rng1 (rCons (rC (.int 4)) rNil))) (setN 7) cYesE (eCallB 2 f__law_take (eCons (ofR (rVar 0)) (eCons (ofR (rBin ixA (rVar 1) (rC (.int 0)))) (ofRA rNil)))) [7]) (setN 2))
  (sSeq (sAsg (eCatR (rLc (iTupR (rTup (rCons (rC (.str "away")) (rCons (rC (.str "ring")) (rCons (rC (.str "v")) rNil))))) (setN 8) cYes (rBin g_addA (rTup (rCons (rVar 8) rNil)) (rCal gTuple (rCons (rSlL (rVar 2) (partD none) (partD (some (rC (.int 3))))) rNil))) [8]) (rFl (rCons (rBin g_addA (rTup (rCons (rC (.str "kite")) rNil)) (rCal gTuple (rCons (rVar 2) rNil))) rNil))) (setN 3))
  (sSeq (sFor (ofRA (iTupR (rSlT (rCallP 1 f__law_vees (rCons (rVar 1) rNil)) (partD none) (partD (some (rC (.int 3))))))) (setTup [(setN 4), (setN 5), (setN 6)])
   (sExp (eMet gExtend (rVar 3) (eCons (ofR (rFl (rCons (rTup (rCons (rC (.str "away")) (rCons (rVar 4) (rCons (rVar 5) (rCons (rVar 6) rNil))))) (rCons (rTup (rCons (rC (.str "away")) (rCons (rVar 6) (rCons (rVar 5) (rCons (rVar 4) rNil))))) (rCons (rTup (rCons (rC (.str "v")) (rCons (rVar 6) (rCons (rVar 5) (rCons (rVar 4) rNil))))) (rCons (rTup (rCons (rC (.str "v")) (rCons (rVar 4) (rCons (rVar 6) (rCons (rVar 5) rNil))))) (rCons (rTup (rCons (rC (.str "v")) (rCons (rVar 4) (rCons (rVar 5) (rCons (rVar 6) rNil))))) rNil))))))) (ofRA rNil)))))
  (sRet (eBin ixA (ofR (rVar 3)) (eCallB 2 f__law_take (eCons (ofR (rVar 0)) (eCons (ofR (rCal gLen (rCons (rVar 3) rNil))) (ofRA rNil)))))))))
def f__law_strange := fnB 9 b__law_strange
set_option maxHeartbeats 4000000 in
theorem c__law_strange (E : Ev K mg) : C8.CalG P K.wd K mg base 3 "_law_strange" (spB K 2 f__law_strange) [] := by
  obtain ⟨fa, fd, F, bi⟩ := E.d__law_strange
  have sc : FnScope N__law_strange ["draws", "web"] (C8.fnScope (topS 46)) := C8.fnScope_by (by decide +kernel)
  refine calB (ps := ["draws", "web"]) F bi sc fun cdv A outer s H Ex hr => ?_
  exact (dss_cons (by first | exact (ds_set 2 sc.nd (de_lc [("turn", 7)] rfl sc.nd (di_of (dir_rng1 (dra_cons dr_int dra_nil) E.n_range)) (blkOk_by (by rfl)) (fun _ _ _ _ _ => (pg_name (i := 7) sc.nd rfl (by first | exact .inl rfl | exact .inr rfl))) (gg_name 7) (fun _ _ _ _ _ => dets_nil) (fun _ _ _ _ _ => (de_callB (c__law_take E) hr (dea_cons (de_of (dr_var 0)) (dea_cons (de_of (dr_ixA hr (dr_var 1) dr_int)) dea_nil)) (hk := by omega))))) | exact (ds_setLcE 2 [("turn", 7)] rfl sc.nd (di_of (dir_rng1 (dra_cons dr_int dra_nil) E.n_range)) (blkOk_by (by rfl)) (fun _ _ _ _ _ => (pg_name (i := 7) sc.nd rfl (by first | exact .inl rfl | exact .inr rfl))) (gg_name 7) (fun _ _ _ _ _ => dets_nil) (fun _ _ _ _ _ => (de_callB (c__law_take E) hr (dea_cons (de_of (dr_var 0)) (dea_cons (de_of (dr_ixA hr (dr_var 1) dr_int)) dea_nil)) (hk := by omega)))))
  (dss_cons (ds_set 3 sc.nd (de_catR (dr_lc [("word", 8)] rfl sc.nd (dir_tup (dr_tup (dra_cons dr_str (dra_cons dr_str (dra_cons dr_str dra_nil))))) (blkOk_by (by rfl)) (fun _ _ _ _ _ => (pg_name (i := 8) sc.nd rfl (by first | exact .inl rfl | exact .inr rfl))) (gg_name 8) (fun _ _ _ _ _ => drts_nil) (fun _ _ _ _ _ => (dr_opB (w_addA hr) (dr_tup (dra_cons (dr_var 8) dra_nil)) (dr_bi v_tuple E.n_tuple b_tuple (.inr ⟨_, rfl⟩) (dra_cons (dr_slL (dr_var 2) dp_none (dp_some dr_int)) dra_nil))))) (dr_fl (dra_cons (dr_opB (w_addA hr) (dr_tup (dra_cons dr_str dra_nil)) (dr_bi v_tuple E.n_tuple b_tuple (.inr ⟨_, rfl⟩) (dra_cons (dr_var 2) dra_nil))) dra_nil))))
  (dss_cons (ds_for PassesOwn.never rfl (di_of (dir_tup (dr_slT (dr_callP (c__law_vees E) hr (dra_cons (dr_var 1) dra_nil) (hk := by omega)) dp_none (dp_some dr_int)))) (pg_tup (n := 3) rfl (pgs_cons (pg_name (i := 4) sc.nd rfl (by first | exact .inl rfl | exact .inr rfl)) (pgs_cons (pg_name (i := 5) sc.nd rfl (by first | exact .inl rfl | exact .inr rfl)) (pgs_cons (pg_name (i := 6) sc.nd rfl (by first | exact .inl rfl | exact .inr rfl)) pgs_nil)))) (gg_tup (ggs_cons (gg_name 4) (ggs_cons (gg_name 5) (ggs_cons (gg_name 6) ggs_nil))))
   (dss_one (ds_expr (de_extend (dr_var 3) (dea_cons (de_of (dr_fl (dra_cons (dr_tup (dra_cons dr_str (dra_cons (dr_var 4) (dra_cons (dr_var 5) (dra_cons (dr_var 6) dra_nil))))) (dra_cons (dr_tup (dra_cons dr_str (dra_cons (dr_var 6) (dra_cons (dr_var 5) (dra_cons (dr_var 4) dra_nil))))) (dra_cons (dr_tup (dra_cons dr_str (dra_cons (dr_var 6) (dra_cons (dr_var 5) (dra_cons (dr_var 4) dra_nil))))) (dra_cons (dr_tup (dra_cons dr_str (dra_cons (dr_var 4) (dra_cons (dr_var 6) (dra_cons (dr_var 5) dra_nil))))) (dra_cons (dr_tup (dra_cons dr_str (dra_cons (dr_var 4) (dra_cons (dr_var 5) (dra_cons (dr_var 6) dra_nil))))) dra_nil))))))) dea_nil)))))
  (dss_one (ds_ret (de_ixA hr (de_of (dr_var 3)) (de_callB (c__law_take E) hr (dea_cons (de_of (dr_var 0)) (dea_cons (de_of (dr_bi v_len E.n_len b_len (.inl ⟨_, rfl⟩) (dra_cons (dr_var 3) dra_nil))) dea_nil)) (hk := by omega))))))))

/-! law -/
abbrev N_law : List Str := ["script", "draws", "web", "arrow", "mine", "words", "reasons", "row", "at", "turn", "due", "vee"]
def b_law : SS :=
  (sSeq (sAsg (eCallB 2 f__law_draws (eCons (ofR (rVar 0)) (eCons (ofR (rC (.int 260))) (ofRA rNil)))) (setN 1))
  (sSeq (sAsg (eCallB 1 f__law_case (eCons (ofR (rVar 1)) (ofRA rNil))) (setN 2))
  (sSeq (sPar 4 5 (eCons (ofR (rCallP 1 f__law_web (rCons (rVar 2) rNil))) (eCons (ofR (rTup (rCons (rC (.str "away")) (rCons (rC (.str "ring")) (rCons (rC (.str "kite")) rNil))))) (ofRA rNil))))
  (sSeq (sFor (ofRA (iTupR (rBin ixA (rVar 2) (rC (.int 1))))) (setN 3)
   (sSeq (sAsg (ofR (rCallP 3 f__law_reasons (rCons (rVar 2) (rCons (rVar 3) (rCons (rVar 5) rNil))))) (setN 6))
   (sSeq (sIf (ofRT (rB (rBin g_isA (rVar 6) (rC .non))))
    (sSeq (sAsg (ofR (rCal gTuple (rCons (rLc (iTupR (rCallP 1 f__law_vees (rCons (rVar 2) rNil))) (setN 11) cYes (rBin g_addA (rTup (rCons (rC (.str "v")) rNil)) (rVar 11)) [11]) rNil))) (setN 6))
    (sSeq (sIf (ofRT (rB (rBin g_isnA (rCallP 3 f_is_loose (rCons (rVar 4) (rCons (rVar 3) (rCons (rTup (rCons (rC (.str "forced")) (rCons (rVar 6) rNil))) rNil)))) (rC (.bl false)))))
     (sRet (ofR (rC (.bl false))))
     sNil)
    sCnt))
    sNil)
   (sSeq (sFor (iFlE (eCallB 2 f__law_orders (eCons (ofR (rVar 1)) (eCons (ofR (rVar 6)) (ofRA rNil))))) (setN 7)
    (sSeq (sAsg (ofR (rCallP 3 f__law_are_reasons (rCons (rVar 2) (rCons (rVar 3) (rCons (rVar 7) rNil))))) (setN 10))
    (sIf (ofRT (rB (rBin g_ne (rCal gRepr (rCons (rCallP 3 f_is_loose (rCons (rVar 4) (rCons (rVar 3) (rCons (rTup (rCons (rC (.str "forced")) (rCons (rVar 7) rNil))) rNil)))) rNil)) (rCal gRepr (rCons (rVar 10) rNil)))))
     (sRet (ofR (rC (.bl false))))
     sNil)))
   (sSeq (sFor (ofRA (iRgR rng1 (rCons (rCal gLen (rCons (rVar 6) rNil)) rNil))) (setN 8)
    (sIf (ofRT (rB (rBin g_isnA (rCallP 3 f_is_loose (rCons (rVar 4) (rCons (rVar 3) (rCons (rTup (rCons (rC (.str "forced")) (rCons (rBin g_addA (rSlT (rVar 6) (partD none) (partD (some (rVar 8)))) (rSlT (rVar 6) (partD (some (rBin g_addA (rVar 8) (rC (.int 1))))) (partD none))) rNil))) rNil)))) (rC (.bl false)))))
     (sRet (ofR (rC (.bl false))))
     sNil))
   (sFor (ofRA (iRgR rng1 (rCons (rC (.int 4)) rNil))) (setN 9)
    (sSeq (sAsg (eCallB 2 f__law_take (eCons (ofR (rVar 1)) (eCons (ofR (rBin g_addA (rCal gLen (rCons (rVar 6) rNil)) (rC (.int 1)))) (ofRA rNil)))) (setN 8))
    (sSeq (sAsg (eBin g_addA (eBin g_addA (ofR (rSlT (rVar 6) (partD none) (partD (some (rVar 8))))) (eTup (eCons (eCallB 2 f__law_strange (eCons (ofR (rVar 1)) (eCons (ofR (rVar 2)) (ofRA rNil)))) (ofRA rNil)))) (ofR (rSlT (rVar 6) (partD (some (rVar 8))) (partD none)))) (setN 7))
    (sIf (ofRT (rB (rBin g_ne (rCal gRepr (rCons (rCallP 3 f_is_loose (rCons (rVar 4) (rCons (rVar 3) (rCons (rTup (rCons (rC (.str "forced")) (rCons (rVar 7) rNil))) rNil)))) rNil)) (rCal gRepr (rCons (rCallP 3 f__law_are_reasons (rCons (rVar 2) (rCons (rVar 3) (rCons (rVar 7) rNil)))) rNil)))))
     (sRet (ofR (rC (.bl false))))
     sNil)))))))))
  (sRet (ofR (rIf (rB (rBin g_ne (rBin ixA (rVar 2) (rC (.int 1))) (rTup rNil))) (rBin g_isA (rCallP 3 f_is_loose (rCons (rVar 4) (rCons (rBin ixA (rBin ixA (rVar 2) (rC (.int 1))) (rC (.int 0))) (rCons (rTup (rCons (rC (.str "forced")) (rCons (rTup rNil) rNil))) rNil)))) (rC (.bl false))) (rC (.bl true)))))))))
def f_law := fnP 12 b_law
set_option maxHeartbeats 4000000 in
theorem c_law (E : Ev K mg) : C8.CalG P K.wd K mg base 8 "law" (spP K 1 f_law) [] := by
  obtain ⟨fa, fd, F, bi⟩ := E.d_law
  have sc : FnScope N_law ["script"] (C8.fnScope (topS 47)) := C8.fnScope_by (by decide +kernel)
  refine calP (ps := ["script"]) F bi sc fun cdv A outer s H Ex hr => ?_
  exact (dss_cons (ds_set 1 sc.nd (de_callB (c__law_draws E) hr (dea_cons (de_of (dr_var 0)) (dea_cons (de_of dr_int) dea_nil)) (hk := by omega)))
  (dss_cons (ds_set 2 sc.nd (de_callB (c__law_case E) hr (dea_cons (de_of (dr_var 1)) dea_nil) (hk := by omega)))
  (dss_cons (ds_par 4 5 rfl sc.nd (dea_cons (de_of (dr_callP (c__law_web E) hr (dra_cons (dr_var 2) dra_nil) (hk := by omega))) (dea_cons (de_of (dr_tup (dra_cons dr_str (dra_cons dr_str (dra_cons dr_str dra_nil))))) dea_nil)))
  (dss_cons (ds_for PassesOwn.never rfl (di_of (dir_tup (dr_ixA hr (dr_var 2) dr_int))) (pg_name (i := 3) sc.nd rfl (by first | exact .inl rfl | exact .inr rfl)) (gg_name 3)
   (dss_cons (ds_set 6 sc.nd (de_of (dr_callP (c__law_reasons E) hr (dra_cons (dr_var 2) (dra_cons (dr_var 3) (dra_cons (dr_var 5) dra_nil))) (hk := by omega))))
   (dss_cons (ds_if (det_of (drt_cmpB (w_isA hr) (dr_var 6) dr_non (nomark _)))
    (dss_cons (ds_set 6 sc.nd (de_of (dr_bi v_tuple E.n_tuple b_tuple (.inr ⟨_, rfl⟩) (dra_cons (dr_lc [("vee", 11)] rfl sc.nd (dir_tup (dr_callP (c__law_vees E) hr (dra_cons (dr_var 2) dra_nil) (hk := by omega))) (blkOk_by (by rfl)) (fun _ _ _ _ _ => (pg_name (i := 11) sc.nd rfl (by first | exact .inl rfl | exact .inr rfl))) (gg_name 11) (fun _ _ _ _ _ => drts_nil) (fun _ _ _ _ _ => (dr_opB (w_addA hr) (dr_tup (dra_cons dr_str dra_nil)) (dr_var 11)))) dra_nil))))
    (dss_cons (ds_if (det_of (drt_cmpB (w_isnA hr) (dr_callP (c_is_loose E) hr (dra_cons (dr_var 4) (dra_cons (dr_var 3) (dra_cons (dr_tup (dra_cons dr_str (dra_cons (dr_var 6) dra_nil))) dra_nil))) (hk := by omega)) dr_bl (nomark _)))
     (dss_one (ds_ret (de_of dr_bl)))
     dss_nil)
    (dss_one ds_cnt)))
    dss_nil)
   (dss_cons (ds_for PassesOwn.never rfl (di_fl (de_callB (c__law_orders E) hr (dea_cons (de_of (dr_var 1)) (dea_cons (de_of (dr_var 6)) dea_nil)) (hk := by omega))) (pg_name (i := 7) sc.nd rfl (by first | exact .inl rfl | exact .inr rfl)) (gg_name 7)
    (dss_cons (ds_set 10 sc.nd (de_of (dr_callP (c__law_are_reasons E) hr (dra_cons (dr_var 2) (dra_cons (dr_var 3) (dra_cons (dr_var 7) dra_nil))) (hk := by omega))))
    (dss_one (ds_if (det_of (drt_cmpB (w_ne hr) (dr_bi (v_repr hr) E.n_repr b_repr (.inl ⟨_, rfl⟩) (dra_cons (dr_callP (c_is_loose E) hr (dra_cons (dr_var 4) (dra_cons (dr_var 3) (dra_cons (dr_tup (dra_cons dr_str (dra_cons (dr_var 7) dra_nil))) dra_nil))) (hk := by omega)) dra_nil)) (dr_bi (v_repr hr) E.n_repr b_repr (.inl ⟨_, rfl⟩) (dra_cons (dr_var 10) dra_nil)) (nomark _)))
     (dss_one (ds_ret (de_of dr_bl)))
     dss_nil))))
   (dss_cons (ds_for PassesOwn.never rfl (di_of (dir_rng1 (dra_cons (dr_bi v_len E.n_len b_len (.inl ⟨_, rfl⟩) (dra_cons (dr_var 6) dra_nil)) dra_nil) E.n_range)) (pg_name (i := 8) sc.nd rfl (by first | exact .inl rfl | exact .inr rfl)) (gg_name 8)
    (dss_one (ds_if (det_of (drt_cmpB (w_isnA hr) (dr_callP (c_is_loose E) hr (dra_cons (dr_var 4) (dra_cons (dr_var 3) (dra_cons (dr_tup (dra_cons dr_str (dra_cons (dr_opB (w_addA hr) (dr_slT (dr_var 6) dp_none (dp_some (dr_var 8))) (dr_slT (dr_var 6) (dp_some (dr_opB (w_addA hr) (dr_var 8) dr_int)) dp_none)) dra_nil))) dra_nil))) (hk := by omega)) dr_bl (nomark _)))
     (dss_one (ds_ret (de_of dr_bl)))
     dss_nil)))
   (dss_one (ds_for PassesOwn.never rfl (di_of (dir_rng1 (dra_cons dr_int dra_nil) E.n_range)) (pg_name (i := 9) sc.nd rfl (by first | exact .inl rfl | exact .inr rfl)) (gg_name 9)
    (dss_cons (ds_set 8 sc.nd (de_callB (c__law_take E) hr (dea_cons (de_of (dr_var 1)) (dea_cons (de_of (dr_opB (w_addA hr) (dr_bi v_len E.n_len b_len (.inl ⟨_, rfl⟩) (dra_cons (dr_var 6) dra_nil)) dr_int)) dea_nil)) (hk := by omega)))
    (dss_cons (ds_set 7 sc.nd (de_opB (w_addA hr) (de_opB (w_addA hr) (de_of (dr_slT (dr_var 6) dp_none (dp_some (dr_var 8)))) (de_tup (dea_cons (de_callB (c__law_strange E) hr (dea_cons (de_of (dr_var 1)) (dea_cons (de_of (dr_var 2)) dea_nil)) (hk := by omega)) dea_nil))) (de_of (dr_slT (dr_var 6) (dp_some (dr_var 8)) dp_none))))
    (dss_one (ds_if (det_of (drt_cmpB (w_ne hr) (dr_bi (v_repr hr) E.n_repr b_repr (.inl ⟨_, rfl⟩) (dra_cons (dr_callP (c_is_loose E) hr (dra_cons (dr_var 4) (dra_cons (dr_var 3) (dra_cons (dr_tup (dra_cons dr_str (dra_cons (dr_var 7) dra_nil))) dra_nil))) (hk := by omega)) dra_nil)) (dr_bi (v_repr hr) E.n_repr b_repr (.inl ⟨_, rfl⟩) (dra_cons (dr_callP (c__law_are_reasons E) hr (dra_cons (dr_var 2) (dra_cons (dr_var 3) (dra_cons (dr_var 7) dra_nil))) (hk := by omega)) dra_nil)) (nomark _)))
     (dss_one (ds_ret (de_of dr_bl)))
     dss_nil)))))))))))
  (dss_one (ds_ret (de_of (dr_if (drt_cmpB (w_ne hr) (dr_ixA hr (dr_var 2) dr_int) (dr_tup dra_nil) (nomark _)) (dr_cmpB (w_isA hr) (dr_callP (c_is_loose E) hr (dra_cons (dr_var 4) (dra_cons (dr_ixA hr (dr_ixA hr (dr_var 2) dr_int) dr_int) (dra_cons (dr_tup (dra_cons dr_str (dra_cons (dr_tup dra_nil) dra_nil))) dra_nil))) (hk := by omega)) dr_bl (nomark _)) dr_bl))))))))

set_option maxHeartbeats 4000000 in
theorem k_law (E : Ev K mg) {fa : Addr} {fd : FuncData} (F : C8.Def K mg "law" (topS 47) fa fd) : FnG P K.wd K mg base C8.CX0 8 fa fd ["script"] (spP K 1 f_law) := by
  have sc : FnScope N_law ["script"] (C8.fnScope (topS 47)) := C8.fnScope_by (by decide +kernel)
  refine calPF (ps := ["script"]) F sc fun cdv A outer s H Ex hr => ?_
  exact (dss_cons (ds_set 1 sc.nd (de_callB (c__law_draws E) hr (dea_cons (de_of (dr_var 0)) (dea_cons (de_of dr_int) dea_nil)) (hk := by omega)))
  (dss_cons (ds_set 2 sc.nd (de_callB (c__law_case E) hr (dea_cons (de_of (dr_var 1)) dea_nil) (hk := by omega)))
  (dss_cons (ds_par 4 5 rfl sc.nd (dea_cons (de_of (dr_callP (c__law_web E) hr (dra_cons (dr_var 2) dra_nil) (hk := by omega))) (dea_cons (de_of (dr_tup (dra_cons dr_str (dra_cons dr_str (dra_cons dr_str dra_nil))))) dea_nil)))
  (dss_cons (ds_for PassesOwn.never rfl (di_of (dir_tup (dr_ixA hr (dr_var 2) dr_int))) (pg_name (i := 3) sc.nd rfl (by first | exact .inl rfl | exact .inr rfl)) (gg_name 3)
   (dss_cons (ds_set 6 sc.nd (de_of (dr_callP (c__law_reasons E) hr (dra_cons (dr_var 2) (dra_cons (dr_var 3) (dra_cons (dr_var 5) dra_nil))) (hk := by omega))))
   (dss_cons (ds_if (det_of (drt_cmpB (w_isA hr) (dr_var 6) dr_non (nomark _)))
    (dss_cons (ds_set 6 sc.nd (de_of (dr_bi v_tuple E.n_tuple b_tuple (.inr ⟨_, rfl⟩) (dra_cons (dr_lc [("vee", 11)] rfl sc.nd (dir_tup (dr_callP (c__law_vees E) hr (dra_cons (dr_var 2) dra_nil) (hk := by omega))) (blkOk_by (by rfl)) (fun _ _ _ _ _ => (pg_name (i := 11) sc.nd rfl (by first | exact .inl rfl | exact .inr rfl))) (gg_name 11) (fun _ _ _ _ _ => drts_nil) (fun _ _ _ _ _ => (dr_opB (w_addA hr) (dr_tup (dra_cons dr_str dra_nil)) (dr_var 11)))) dra_nil))))
    (dss_cons (ds_if (det_of (drt_cmpB (w_isnA hr) (dr_callP (c_is_loose E) hr (dra_cons (dr_var 4) (dra_cons (dr_var 3) (dra_cons (dr_tup (dra_cons dr_str (dra_cons (dr_var 6) dra_nil))) dra_nil))) (hk := by omega)) dr_bl (nomark _)))
     (dss_one (ds_ret (de_of dr_bl)))
     dss_nil)
    (dss_one ds_cnt)))
    dss_nil)
   (dss_cons (ds_for PassesOwn.never rfl (di_fl (de_callB (c__law_orders E) hr (dea_cons (de_of (dr_var 1)) (dea_cons (de_of (dr_var 6)) dea_nil)) (hk := by omega))) (pg_name (i := 7) sc.nd rfl (by first | exact .inl rfl | exact .inr rfl)) (gg_name 7)
    (dss_cons (ds_set 10 sc.nd (de_of (dr_callP (c__law_are_reasons E) hr (dra_cons (dr_var 2) (dra_cons (dr_var 3) (dra_cons (dr_var 7) dra_nil))) (hk := by omega))))
    (dss_one (ds_if (det_of (drt_cmpB (w_ne hr) (dr_bi (v_repr hr) E.n_repr b_repr (.inl ⟨_, rfl⟩) (dra_cons (dr_callP (c_is_loose E) hr (dra_cons (dr_var 4) (dra_cons (dr_var 3) (dra_cons (dr_tup (dra_cons dr_str (dra_cons (dr_var 7) dra_nil))) dra_nil))) (hk := by omega)) dra_nil)) (dr_bi (v_repr hr) E.n_repr b_repr (.inl ⟨_, rfl⟩) (dra_cons (dr_var 10) dra_nil)) (nomark _)))
     (dss_one (ds_ret (de_of dr_bl)))
     dss_nil))))
   (dss_cons (ds_for PassesOwn.never rfl (di_of (dir_rng1 (dra_cons (dr_bi v_len E.n_len b_len (.inl ⟨_, rfl⟩) (dra_cons (dr_var 6) dra_nil)) dra_nil) E.n_range)) (pg_name (i := 8) sc.nd rfl (by first | exact .inl rfl | exact .inr rfl)) (gg_name 8)
    (dss_one (ds_if (det_of (drt_cmpB (w_isnA hr) (dr_callP (c_is_loose E) hr (dra_cons (dr_var 4) (dra_cons (dr_var 3) (dra_cons (dr_tup (dra_cons dr_str (dra_cons (dr_opB (w_addA hr) (dr_slT (dr_var 6) dp_none (dp_some (dr_var 8))) (dr_slT (dr_var 6) (dp_some (dr_opB (w_addA hr) (dr_var 8) dr_int)) dp_none)) dra_nil))) dra_nil))) (hk := by omega)) dr_bl (nomark _)))
     (dss_one (ds_ret (de_of dr_bl)))
     dss_nil)))
   (dss_one (ds_for PassesOwn.never rfl (di_of (dir_rng1 (dra_cons dr_int dra_nil) E.n_range)) (pg_name (i := 9) sc.nd rfl (by first | exact .inl rfl | exact .inr rfl)) (gg_name 9)
    (dss_cons (ds_set 8 sc.nd (de_callB (c__law_take E) hr (dea_cons (de_of (dr_var 1)) (dea_cons (de_of (dr_opB (w_addA hr) (dr_bi v_len E.n_len b_len (.inl ⟨_, rfl⟩) (dra_cons (dr_var 6) dra_nil)) dr_int)) dea_nil)) (hk := by omega)))
    (dss_cons (ds_set 7 sc.nd (de_opB (w_addA hr) (de_opB (w_addA hr) (de_of (dr_slT (dr_var 6) dp_none (dp_some (dr_var 8)))) (de_tup (dea_cons (de_callB (c__law_strange E) hr (dea_cons (de_of (dr_var 1)) (dea_cons (de_of (dr_var 2)) dea_nil)) (hk := by omega)) dea_nil))) (de_of (dr_slT (dr_var 6) (dp_some (dr_var 8)) dp_none))))
    (dss_one (ds_if (det_of (drt_cmpB (w_ne hr) (dr_bi (v_repr hr) E.n_repr b_repr (.inl ⟨_, rfl⟩) (dra_cons (dr_callP (c_is_loose E) hr (dra_cons (dr_var 4) (dra_cons (dr_var 3) (dra_cons (dr_tup (dra_cons dr_str (dra_cons (dr_var 7) dra_nil))) dra_nil))) (hk := by omega)) dra_nil)) (dr_bi (v_repr hr) E.n_repr b_repr (.inl ⟨_, rfl⟩) (dra_cons (dr_callP (c__law_are_reasons E) hr (dra_cons (dr_var 2) (dra_cons (dr_var 3) (dra_cons (dr_var 7) dra_nil))) (hk := by omega)) dra_nil)) (nomark _)))
     (dss_one (ds_ret (de_of dr_bl)))
     dss_nil)))))))))))
  (dss_one (ds_ret (de_of (dr_if (drt_cmpB (w_ne hr) (dr_ixA hr (dr_var 2) dr_int) (dr_tup dra_nil) (nomark _)) (dr_cmpB (w_isA hr) (dr_callP (c_is_loose E) hr (dra_cons (dr_var 4) (dra_cons (dr_ixA hr (dr_ixA hr (dr_var 2) dr_int) dr_int) (dra_cons (dr_tup (dra_cons dr_str (dra_cons (dr_tup dra_nil) dra_nil))) dra_nil))) (hk := by omega)) dr_bl (nomark _)) dr_bl))))))))

end
end K44
namespace FL
open PySem PySem.Spec PyProof.Rows L2
theorem lcR_map {α : Type} {set : Sets} {cond : RT} {elt : RE} {δ : Env'} {G : Hs} (e : α → D) (δ1 : α → Env') (c : α → Bool) (f : α → D) : ∀ (xs : List α),
    (∀ x ∈ xs, set (e x) δ = some (δ1 x) ∧ cond (δ1 x) G = some (c x) ∧ (c x = true → elt (δ1 x) G = some (f x))) → lcR set cond elt (xs.map e) δ G = some ((xs.filter c).map f)
  | [], _ => rfl
  | x :: xs, h => by
    obtain ⟨h1, h2, h3⟩ := h x List.mem_cons_self
    have ih := lcR_map e δ1 c f xs fun y hy => h y (List.mem_cons_of_mem _ hy)
    rw [List.map_cons, lcR, h1, Option.bind_some, h2, Option.bind_some, ih]
    cases hc : c x with
    | true => rw [if_pos rfl, h3 hc, Option.bind_some, Option.bind_some, List.filter_cons, hc]; rfl
    | false => rw [if_neg (by simp), List.filter_cons, hc]; rfl
theorem blsD_map : ∀ bs : List Bool, blsD (bs.map .bl) = some bs
  | [] => rfl
  | b :: bs => by simp [blsD, blsD_map bs]
theorem intsD_map : ∀ bs : List Int, intsD (bs.map .int) = some bs
  | [] => rfl
  | b :: bs => by simp [intsD, intsD_map bs]
def eP (p : Int × Int) : D := .tup [.int p.1, .int p.2]
theorem eqb_int (a b : Int) : eqb (.int a) (.int b) = decide (a = b) := by
  show PyData.eqv (.int a) (.int b) = _
  simp only [PyData.eqv]
  rfl
theorem eqb_P (p q : Int × Int) : eqb (eP p) (eP q) = decide (p = q) := by
  obtain ⟨a, b⟩ := p
  obtain ⟨c, d⟩ := q
  simp only [eqb, eP, D.py, pys, PyData.eqv, PyData.eqvAll]
  by_cases h1 : a = c <;> by_cases h2 : b = d <;> simp [h1, h2]
theorem eP_ok (p : Int × Int) : (eP p).ok = true := rfl
theorem eP_dep (p : Int × Int) : (eP p).dep = 1 := rfl
theorem oks_map {α : Type} {e : α → D} (h : ∀ x, (e x).ok = true) : ∀ xs : List α, oks (xs.map e) = true
  | [] => rfl
  | x :: xs => by simp [oks, h x, oks_map h xs]
theorem deps_map {α : Type} {e : α → D} {n : Nat} (h : ∀ x, (e x).dep ≤ n) : ∀ xs : List α, deps (xs.map e) ≤ n
  | [] => Nat.zero_le _
  | x :: xs => by
    have h1 := h x
    have h2 := deps_map h xs
    simp only [List.map_cons, deps]
    omega
theorem ims_map {α : Type} {e : α → D} (h : ∀ x, (e x).im = true) : ∀ xs : List α, ims (xs.map e) = true
  | [] => rfl
  | x :: xs => by simp [ims, h x, ims_map h xs]
theorem inB_map {α : Type} [DecidableEq α] {e : α → D} {y : α} (h : ∀ x, eqb (e x) (e y) = decide (x = y)) (xs : List α) : inB (e y) (xs.map e) = decide (y ∈ xs) := by
  unfold inB
  rw [List.any_map]
  induction xs with
  | nil => simp
  | cons x xs ih =>
    rw [List.any_cons, ih]
    show (eqb (e x) (e y) || _) = _
    rw [h x]
    by_cases hx : x = y
    · subst hx; simp
    · have : y ≠ x := fun z => hx z.symm
      simp [hx, this]
theorem lt_int (a b : Int) : g_ltA G (.int a) (.int b) = some (.bl (decide (a < b))) := rfl
theorem ltb_P (p q : Int × Int) : ltb (eP p) (eP q) = (decide (p.1 < q.1) || (!decide (q.1 < p.1) && decide (p.2 < q.2))) := by
  obtain ⟨a, b⟩ := p
  obtain ⟨c, d⟩ := q
  show PyProof.Rows.lexLt PyProof.Rows.itemOrd [.inl 1, .inl a, .inl 1, .inl b, .inl 0] [.inl 1, .inl c, .inl 1, .inl d, .inl 0] = _
  rw [PyProof.Rows.lex_self, PyProof.Rows.lex_cons, PyProof.Rows.lex_self, PyProof.Rows.lex_cons, PyProof.Rows.lex_self]
  show (decide (a < c) || (!decide (c < a) && (decide (b < d) || (!decide (d < b) && false)))) = _
  simp
/-- pairs in order -/
def leP (p q : Int × Int) : Bool := !(decide (q.1 < p.1) || (!decide (p.1 < q.1) && decide (q.2 < p.2)))
def ltP (p q : Int × Int) : Prop := p.1 < q.1 ∨ (p.1 = q.1 ∧ p.2 < q.2)
theorem leP_iff (p q : Int × Int) : leP p q = true ↔ p = q ∨ ltP p q := by
  obtain ⟨a, b⟩ := p
  obtain ⟨c, d⟩ := q
  simp only [leP, ltP, Bool.not_eq_true', Bool.or_eq_false_iff, Bool.and_eq_false_iff, decide_eq_false_iff_not, Bool.not_eq_false', decide_eq_true_eq, Prod.mk.injEq]
  omega
theorem srtd_P (L : List (Int × Int)) : srtd (L.map eP) = (L.mergeSort leP).map eP := by
  unfold srtd
  rw [← List.map_mergeSort]
  intro x _ y _
  show leP x y = !(ltb (eP y) (eP x))
  rw [ltb_P]
  rfl
theorem sort_perm (L : List (Int × Int)) : (L.mergeSort leP).Perm L := List.mergeSort_perm L leP
theorem sort_lt {L : List (Int × Int)} (nd : L.Nodup) : (L.mergeSort leP).Pairwise ltP := by
  have h1 : (L.mergeSort leP).Pairwise fun a b => leP a b = true := List.pairwise_mergeSort (le := leP) (fun a b c h1 h2 => by
    rw [leP_iff] at h1 h2 ⊢
    obtain ⟨a1, a2⟩ := a
    obtain ⟨b1, b2⟩ := b
    obtain ⟨c1, c2⟩ := c
    simp only [ltP, Prod.mk.injEq] at h1 h2 ⊢
    omega) (fun a b => by
    rw [Bool.or_eq_true, leP_iff, leP_iff]
    obtain ⟨a1, a2⟩ := a
    obtain ⟨b1, b2⟩ := b
    simp only [ltP, Prod.mk.injEq]
    omega) L
  have h2 : (L.mergeSort leP).Nodup := (sort_perm L).nodup_iff.mpr nd
  exact (List.pairwise_and_iff.mpr ⟨h1, h2⟩).imp fun {a b} h => ((leP_iff a b).mp h.1).resolve_left h.2

section
variable {G : Hs}
theorem ixA_tup (ds : List D) (i : Int) : ixA G (.tup ds) (.int i) = atI ds i := by
  show (match atI ds i with | some d => some d | none => _) = _
  cases h : atI ds i with
  | some d => rfl
  | none => rfl
theorem ixA_fl (ds : List D) (i : Int) : ixA G (.fl ds) (.int i) = atI ds i := by
  show (match atI ds i with | some d => some d | none => _) = _
  cases h : atI ds i with
  | some d => rfl
  | none => rfl
theorem ixA_scr (ns : List Int) (i : Int) : ixA G (.scr ns) (.int i) = (atI ns i).map .int := by
  show (match (atI ns i).map D.int with | some d => some d | none => _) = _
  cases h : atI ns i with
  | some d => rfl
  | none => rfl
theorem ixA_rf {k : Nat} {ds : List D} (i : Int) (h : G[k]? = some (.lst ds)) : ixA G (.rf k) (.int i) = atI ds i := by
  have e : ixD G (.rf k) (.int i) = atI ds i := by simp only [ixD, h]
  unfold ixA fOr
  rw [e]
  cases h2 : atI ds i with
  | some d => rfl
  | none => simp [ixDct, ixFd, fOr, dctG, h]
theorem at_nat {α : Type} (xs : List α) (i : Nat) : L2.atI xs (i : Int) = xs[i]? := by
  unfold L2.atI ixN
  rw [if_pos (Int.natCast_nonneg i)]
  by_cases h : i < xs.length
  · rw [if_pos (by omega)]
    simp
  · rw [if_neg (by omega), List.getElem?_eq_none (by omega)]
    rfl
theorem at_int {α : Type} (xs : List α) {i : Int} (h : 0 ≤ i) : L2.atI xs i = xs[i.toNat]? := by
  rw [← at_nat, Int.toNat_of_nonneg h]
theorem at_0 {α : Type} (x : α) (xs : List α) : L2.atI (x :: xs) 0 = some x := at_nat (x :: xs) 0
theorem at_1 {α : Type} (x y : α) (xs : List α) : L2.atI (x :: y :: xs) 1 = some y := at_nat (x :: y :: xs) 1
theorem at_2 {α : Type} (x y z : α) (xs : List α) : L2.atI (x :: y :: z :: xs) 2 = some z := at_nat (x :: y :: z :: xs) 2
theorem at_m1 {α : Type} (xs : List α) : L2.atI xs (-1) = xs.getLast? := by
  unfold L2.atI ixN
  rw [if_neg (by decide)]
  cases xs with
  | nil => rfl
  | cons x xs =>
    rw [if_pos (by simp only [List.length_cons]; omega), List.getLast?_eq_getElem?]
    simp only [Option.bind_some]
    congr 1
    simp only [List.length_cons]
    omega
theorem lt_ii (a b : Int) : g_ltA G (.int a) (.int b) = some (.bl (decide (a < b))) := rfl
theorem gt_ii (a b : Int) : g_gtA G (.int a) (.int b) = some (.bl (decide (b < a))) := rfl
theorem ge_ii (a b : Int) : g_geA G (.int a) (.int b) = some (.bl (decide (b ≤ a))) := rfl
theorem le_ii (a b : Int) : g_le G (.int a) (.int b) = some (.bl (decide (a ≤ b))) := rfl
theorem add_ii (a b : Int) : g_addA G (.int a) (.int b) = some (.int (a + b)) := rfl
theorem sub_ii (a b : Int) : g_sub G (.int a) (.int b) = some (.int (a - b)) := rfl
theorem mod_ii (a b : Int) (h : 0 < b) : g_mod G (.int a) (.int b) = some (.int (a % b)) := by
  show (if decide (0 < b) = true then _ else _) = _
  rw [if_pos (by simpa using h)]
theorem eq_ii (a b : Int) : g_eq G (.int a) (.int b) = some (.bl (decide (a = b))) := by
  show (if _ then _ else _) = _
  rw [if_pos ⟨⟨rfl, rfl⟩, Nat.zero_le _, Nat.zero_le _⟩, eqb_int]
theorem ne_ii (a b : Int) : g_ne G (.int a) (.int b) = some (.bl (!decide (a = b))) := by
  show (if _ then _ else _) = _
  rw [if_pos ⟨⟨rfl, rfl⟩, Nat.zero_le _, Nat.zero_le _⟩, eqb_int]
theorem len_tup (ds : List D) : gLen G [.tup ds] = some (.int ds.length) := rfl
theorem len_fl (ds : List D) : gLen G [.fl ds] = some (.int ds.length) := rfl
theorem len_scr (ns : List Int) : gLen G [.scr ns] = some (.int ns.length) := rfl
theorem len_rf {k : Nat} {ds : List D} (h : G[k]? = some (.lst ds)) : gLen G [.rf k] = some (.int ds.length) := by simp [gLen, seqG, h]
theorem all_bl (bs : List Bool) : gAll G [.fl (bs.map .bl)] = some (.bl (bs.all id)) := by simp [gAll, lstG, blsD_map]
theorem any_bl (bs : List Bool) : gAny G [.fl (bs.map .bl)] = some (.bl (bs.any id)) := by simp [gAny, lstG, blsD_map]
end
/-- sequencing -/
theorem sq_nx {g h : SS} {δ δ1 : Env'} {G G1 : Hs} (e : g δ G = some (.nx, δ1, G1)) : sSeq g h δ G = h δ1 G1 := by
  unfold sSeq
  rw [e]
  rfl
theorem sq_rt {g h : SS} {δ δ1 : Env'} {G G1 : Hs} {d : D} (e : g δ G = some (.rt d, δ1, G1)) : sSeq g h δ G = some (.rt d, δ1, G1) := by
  unfold sSeq
  rw [e]
  rfl
theorem if_of {t : ET} {g h : SS} {δ : Env'} {G G1 : Hs} {b : Bool} (e : t δ G = some (b, G1)) : sIf t g h δ G = if b = true then g δ G1 else h δ G1 := by
  unfold sIf
  rw [e]
  rfl
theorem ofRT_of {t : RT} {δ : Env'} {G : Hs} {b : Bool} (e : t δ G = some b) : ofRT t δ G = some (b, G) := by
  unfold ofRT
  rw [e]
  rfl
theorem ofR_of {t : RE} {δ : Env'} {G : Hs} {b : D} (e : t δ G = some b) : ofR t δ G = some (b, G) := by
  unfold ofR
  rw [e]
  rfl
theorem asg_of {f : EE} {i : Nat} {δ : Env'} {G G1 : Hs} {d : D} (e : f δ G = some (d, G1)) (h : i < δ.length) : sAsg f (setN i) δ G = some (.nx, δ.set i (some d), G1) := by
  unfold sAsg setN
  rw [e]
  simp [h]
theorem ret_of {f : EE} {δ : Env'} {G G1 : Hs} {d : D} (e : f δ G = some (d, G1)) : sRet f δ G = some (.rt d, δ, G1) := by
  unfold sRet
  rw [e]
  rfl
theorem exp_of {f : EE} {δ : Env'} {G G1 : Hs} {d : D} (e : f δ G = some (d, G1)) : sExp f δ G = some (.nx, δ, G1) := by
  unfold sExp
  rw [e]
  rfl
theorem callP_of {np : Nat} {F : List D → Option D} {fs : RA} {δ : Env'} {G : Hs} {ds : List D} {d : D} (e : fs δ G = some ds) (hi : ims ds = true) (hl : ds.length = np) (hF : F ds = some d) : rCallP np F fs δ G = some d := by
  unfold rCallP
  rw [e, Option.bind_some, if_pos ⟨hi, hl⟩, hF]

section
variable {δ δ1 : Env'} {G G1 : Hs} {fa fb fc : RE} {fs : RA} {t u : RT} {d x y z r : D} {xs : List D} {b c : Bool} {i : Nat} {g g1 g2 : Hs → D → D → Option D} {k : Hs → List D → Option D}
theorem var_of (h : δ[i]? = some (some d)) : rVar i δ G = some d := by simp [rVar, h]
theorem c_of : rC d δ G = some d := rfl
theorem bin_of (ha : fa δ G = some x) (hb : fb δ G = some y) (h : g G x y = some d) : rBin g fa fb δ G = some d := by simp [rBin, ha, hb, h]
theorem cons_of (ha : fa δ G = some x) (hs : fs δ G = some xs) : rCons fa fs δ G = some (x :: xs) := by simp [rCons, ha, hs]
theorem nil_of : rNil δ G = some [] := rfl
theorem cal_of (hs : fs δ G = some xs) (h : k G xs = some d) : rCal k fs δ G = some d := by simp [rCal, hs, h]
theorem cal1_of (ha : fa δ G = some x) (h : k G [x] = some d) : rCal k (rCons fa rNil) δ G = some d := cal_of (cons_of ha nil_of) h
theorem cal2_of (ha : fa δ G = some x) (hb : fb δ G = some y) (h : k G [x, y] = some d) : rCal k (rCons fa (rCons fb rNil)) δ G = some d := cal_of (cons_of ha (cons_of hb nil_of)) h
theorem tup_of (hs : fs δ G = some xs) (hl : xs.length ≤ 1000) : rTup fs δ G = some (.tup xs) := by simp [rTup, hs, hl]
theorem fl_of (hs : fs δ G = some xs) (hl : xs.length ≤ 1000) : rFl fs δ G = some (.fl xs) := by simp [rFl, hs, hl]
theorem tru_of (h : fa δ G = some d) (ht : truD G d = some b) : rTru fa δ G = some b := by simp [rTru, h, ht]
theorem b_of (h : fa δ G = some (.bl b)) : rB fa δ G = some b := by simp [rB, h, toB]
theorem not_of (h : t δ G = some b) : rNot t δ G = some (!b) := by simp [rNot, h]
theorem not_f (h : t δ G = some true) : rNot t δ G = some false := by simp [rNot, h]
theorem not_t (h : t δ G = some false) : rNot t δ G = some true := by simp [rNot, h]
theorem or_of (h : t δ G = some b) (h2 : b = false → u δ G = some c) : rOr t u δ G = some (b || c) := by
  cases b with
  | true => simp [rOr, h]
  | false => simp [rOr, h, h2 rfl]
theorem and_of (h : t δ G = some b) (h2 : b = true → u δ G = some c) : rAnd t u δ G = some (b && c) := by
  cases b with
  | true => simp [rAnd, h, h2 rfl]
  | false => simp [rAnd, h]
theorem andV_of (h : fa δ G = some (.bl b)) (h2 : b = true → fb δ G = some (.bl c)) : rAndV fa fb δ G = some (.bl (b && c)) := by
  cases b with
  | true => simp [rAndV, h, h2 rfl, toB]
  | false => simp [rAndV, h, toB]
theorem orV_of (h : fa δ G = some (.bl b)) (h2 : b = false → fb δ G = some (.bl c)) : rOrV fa fb δ G = some (.bl (b || c)) := by
  cases b with
  | true => simp [rOrV, h, toB]
  | false => simp [rOrV, h, h2 rfl, toB]
theorem notV_of (h : fa δ G = some (.bl b)) : rNotV fa δ G = some (.bl (!b)) := by simp [rNotV, h, toB]
theorem isT_of {p : String → Bool} {T : String} (h : fa δ G = some d) (ht : tyN G d = some T) : rIsT p fa δ G = some (.bl (p T)) := by simp [rIsT, h, ht]
theorem chn_of (ha : fa δ G = some x) (hb : fb δ G = some y) (h1 : g1 G x y = some (.bl b)) (h2 : b = true → fc δ G = some z ∧ g2 G y z = some (.bl c)) : rChn g1 g2 fa fb fc δ G = some (.bl (b && c)) := by
  cases b with
  | true => simp [rChn, ha, hb, h1, toB, (h2 rfl).1, (h2 rfl).2]
  | false => simp [rChn, ha, hb, h1, toB]
theorem rif_t (h : t δ G = some true) : rIf t fa fb δ G = fa δ G := by simp [rIf, h]
theorem rif_f (h : t δ G = some false) : rIf t fa fb δ G = fb δ G := by simp [rIf, h]
theorem if_t {ua : ET} {s1 s2 : SS} (h : ua δ G = some (true, G1)) : sIf ua s1 s2 δ G = s1 δ G1 := by simp [sIf, h]
theorem if_f {ua : ET} {s1 s2 : SS} (h : ua δ G = some (false, G1)) : sIf ua s1 s2 δ G = s2 δ G1 := by simp [sIf, h]
theorem attr_of {f : Str} {C : Str} {ns : List Str} {ds : List D} (h : fa δ G = some (.obj C ns ds)) (hl : (ns.zip ds).lookup f = some d) : rAttr f fa δ G = some d := by simp [rAttr, h, hl]
theorem itup_of (h : fa δ G = some (.tup xs)) : iTupR fa δ G = some xs := by simp [iTupR, h]
theorem ilst_of (h : fa δ G = some x) (hx : lstG G x = some xs) : iLstR fa δ G = some xs := by simp [iLstR, h, hx]
theorem range_map (lo : Int) (n : Nat) : rangeD lo n = (List.range n).map fun i : Nat => .int (lo + (i : Int)) := rfl
theorem rg1_of {j : Int} (h : fa δ G = some (.int j)) (h1 : -1000000 ≤ j) (h2 : j ≤ 1000000) : iRgR rng1 (rCons fa rNil) δ G = some ((List.range j.toNat).map fun i : Nat => .int (0 + (i : Int))) := by
  simp [iRgR, rCons, rNil, h, rng1, h1, h2, range_map]
theorem rg2_of {i j : Int} (h : fa δ G = some (.int i)) (hb : fb δ G = some (.int j)) (h0 : -1000000 ≤ i ∧ i ≤ 1000000) (h1 : -1000000 ≤ j) (h2 : j ≤ 1000000) : iRgR rng2 (rCons fa (rCons fb rNil)) δ G = some ((List.range (j - i).toNat).map fun k : Nat => .int (i + (k : Int))) := by
  simp [iRgR, rCons, rNil, h, hb, rng2, h0, h1, h2, range_map]
theorem rlc_of {α : Type} {src : RA} {set : Sets} {cond : RT} {elt : RE} {vs : List Nat} (e : α → D) (δ1 : α → Env') (c : α → Bool) (f : α → D) (xs : List α) (hs : src δ G = some (xs.map e)) (hl : xs.length ≤ 10000000)
    (h : ∀ x ∈ xs, set (e x) (wipeD δ vs) = some (δ1 x) ∧ cond (δ1 x) G = some (c x) ∧ (c x = true → elt (δ1 x) G = some (f x))) : rLc src set cond elt vs δ G = some (.fl ((xs.filter c).map f)) := by
  unfold rLc
  rw [hs, Option.bind_some, if_pos (by rw [List.length_map]; exact hl), lcR_map e δ1 c f xs h]
  rfl
theorem fnP_of {n : Nat} {body : SS} {ds : List D} (h : body (slots n ds) [] = some (.rt d, δ, G)) (hd : d.im = true) : fnP n body ds = some d := by
  unfold fnP
  rw [h]
  show outD d G = some d
  unfold outD
  rw [if_pos hd]
theorem fnP_fl {n k : Nat} {body : SS} {ds : List D} (h : body (slots n ds) [] = some (.rt (.rf k), δ, G)) (hk : G[k]? = some (.lst xs)) (hd : ims xs = true) : fnP n body ds = some (.fl xs) := by
  unfold fnP
  rw [h]
  show outD (.rf k) G = _
  unfold outD
  rw [if_neg (by simp [D.im])]
  simp [hk, hd]
end
section
variable {δ : Env'} {G G1 : Hs} {fa : RE} {ga : EE} {gs : EA} {d : D} {xs ys zs : List D} {k : Nat}
theorem econs1_of (h : ga δ G = some (d, G1)) : eCons ga (ofRA rNil) δ G = some ([d], G1) := by
  unfold eCons
  rw [h]
  rfl
theorem app_of (ho : fa δ G = some (.rf k)) (hk : G[k]? = some (.lst xs)) (hs : gs δ G = some ([d], G1)) (hk1 : G1[k]? = some (.lst ys)) (hl : ys.length < 10000000) : eMet gAppend fa gs δ G = some (.non, G1.set k (.lst (ys ++ [d]))) := by
  unfold eMet
  simp only [ho, Option.bind_some, lstG, hk, hs, gAppend, hk1]
  rw [if_pos hl]
theorem ext_of (ho : fa δ G = some (.rf k)) (hk : G[k]? = some (.lst xs)) (hs : gs δ G = some ([.fl zs], G1)) (hk1 : G1[k]? = some (.lst ys)) (hl : ys.length + zs.length ≤ 10000000) : eMet gExtend fa gs δ G = some (.non, G1.set k (.lst (ys ++ zs))) := by
  unfold eMet
  simp only [ho, Option.bind_some, lstG, hk, hs, gExtend, hk1]
  rw [if_pos hl]
end
end FL
namespace K44
open PySem PySem.Spec PyProof.Rows L2 FL
theorem is_integer_int (i : Int) : f_is_integer [.int i] = some (.bl true) := rfl
theorem is_integer_str (x : Str) : f_is_integer [.str x] = some (.bl false) := rfl
theorem is_between_int (i a b : Int) : f_is_between [.int i, .int a, .int b] = some (.bl (decide (a ≤ i) && decide (i ≤ b))) :=
  fnP_of (ret_of (ofR_of (andV_of (b := true) (callP_of (cons_of (var_of rfl) nil_of) rfl rfl (is_integer_int i)) fun _ => chn_of (var_of rfl) (var_of rfl) (le_ii a i) fun _ => ⟨var_of rfl, le_ii i b⟩))) rfl
theorem is_under_int (i m : Int) : f_is_under [.int i, .int m] = some (.bl (decide (0 ≤ i) && decide (i < m))) :=
  fnP_of (ret_of (ofR_of (andV_of (b := true) (callP_of (cons_of (var_of rfl) nil_of) rfl rfl (is_integer_int i)) fun _ => chn_of c_of (var_of rfl) (le_ii 0 i) fun _ => ⟨var_of rfl, lt_ii i m⟩))) rfl
theorem is_under_str (x : Str) (m : Int) : f_is_under [.str x, .int m] = some (.bl false) :=
  fnP_of (ret_of (ofR_of (andV_of (b := false) (c := false) (callP_of (cons_of (var_of rfl) nil_of) rfl rfl (is_integer_str x)) fun h => by cases h))) rfl
theorem is_arrow_P {n : Int} {p : Int × Int} (h : 0 ≤ p.1 ∧ p.1 < n ∧ 0 ≤ p.2 ∧ p.2 < n ∧ p.1 ≠ p.2) : f_is_arrow [.int n, eP p] = some (.bl true) := by
  obtain ⟨a, b⟩ := p
  obtain ⟨h1, h2, h3, h4, h5⟩ := h
  have hu1 : f_is_under [.int a, .int n] = some (.bl true) := by
    rw [is_under_int]
    have h1 : 0 ≤ a := h1
    have h2 : a < n := h2
    simp [h1, h2]
  have hu2 : f_is_under [.int b, .int n] = some (.bl true) := by
    rw [is_under_int]
    have h1 : 0 ≤ b := h3
    have h2 : b < n := h4
    simp [h1, h2]
  have hn : decide (a = b) = false := decide_eq_false h5
  have v1 : ∀ G, ixA G (eP (a, b)) (.int 0) = some (.int a) := fun G => by rw [eP, ixA_tup, at_0]
  have v2 : ∀ G, ixA G (eP (a, b)) (.int 1) = some (.int b) := fun G => by rw [eP, ixA_tup, at_1]
  refine fnP_of ((sq_nx (if_f (ofRT_of (or_of (b := false) (c := false) (not_f (tru_of (isT_of (var_of rfl) rfl) rfl)) fun _ => or_of (b := false) (c := false) (b_of (bin_of (cal1_of (var_of rfl) (len_tup _)) c_of (ne_ii _ _))) fun _ =>
    not_f (tru_of (callP_of (cons_of (bin_of (var_of rfl) c_of (v1 _)) (cons_of (var_of rfl) nil_of)) rfl rfl hu1) rfl)) ))).trans
    (ret_of (ofR_of (andV_of (b := true) (c := true) (callP_of (cons_of (bin_of (var_of rfl) c_of (v2 _)) (cons_of (var_of rfl) nil_of)) rfl rfl hu2) fun _ => bin_of (bin_of (var_of rfl) c_of (v1 _)) (bin_of (var_of rfl) c_of (v2 _)) (by rw [ne_ii, hn]; rfl))))) rfl
theorem eP_im (p : Int × Int) : (eP p).im = true := rfl
theorem alike_P (p q : Int × Int) : PySem.W.alike (eP p).py (eP q).py = true := by
  simp [eP, D.py, pys, PySem.W.alike, PySem.W.alikeAll]
theorem lt_P {G : Hs} {p q : Int × Int} (h : ltP p q) : g_ltA G (eP p) (eP q) = some (.bl true) := by
  have e : g_ltA G (eP p) (eP q) = fLtD G (eP p) (eP q) := rfl
  rw [e]
  unfold fLtD
  rw [if_pos ⟨⟨rfl, rfl⟩, alike_P p q, rfl, by show (1 : Nat) ≤ 60; decide⟩, ltb_P]
  congr 2
  obtain ⟨a, b⟩ := p
  obtain ⟨c, d⟩ := q
  rcases h with h | ⟨h1, h2⟩
  · have h : a < c := h
    simp [h]
  · have h1 : a = c := h1
    have h2 : b < d := h2
    simp [h1, h2]
theorem at_map {L : List (Int × Int)} {i : Int} {j : Nat} (hi : 0 ≤ i) (hj : i.toNat = j) (hl : j < L.length) : L2.atI (L.map eP) i = some (eP L[j]) := by
  rw [at_int _ hi, hj, List.getElem?_map, List.getElem?_eq_getElem hl]
  rfl
theorem are_rising_P {L : List (Int × Int)} (h : L.Pairwise ltP) (hl : L.length ≤ 1000) : f_are_rising [.tup (L.map eP)] = some (.bl true) := by
  refine fnP_of (ret_of (ofR_of (cal1_of (rlc_of (fun i : Nat => D.int (1 + (i : Int))) (fun i => [some (.tup (L.map eP)), some (.int (1 + (i : Int)))]) (fun _ => true) (fun _ => .bl true) (List.range (((L.map eP).length : Int) - 1).toNat)
    (rg2_of c_of (cal1_of (var_of rfl) (len_tup _)) (by decide) (by rw [List.length_map]; omega) (by rw [List.length_map]; omega)) (by rw [List.length_range, List.length_map]; omega) fun i hi => ?_) ?_))) rfl
  · have hi' : i + 1 < L.length := by
      have := List.mem_range.mp hi
      rw [List.length_map] at this
      omega
    refine ⟨rfl, rfl, fun _ => bin_of (bin_of (var_of rfl) (bin_of (var_of rfl) c_of (sub_ii _ _)) ((ixA_tup _ _).trans (at_map (j := i) (by omega) (by omega) (by omega)))) (bin_of (var_of rfl) (var_of rfl) ((ixA_tup _ _).trans (at_map (j := i + 1) (by omega) (by omega) hi'))) ?_⟩
    exact lt_P (List.pairwise_iff_getElem.mp h i (i + 1) (by omega) hi' (by omega))
  · have e : ((List.range (((L.map eP).length : Int) - 1).toNat).filter fun _ => true).map (fun _ => D.bl true) = (List.replicate (((L.map eP).length : Int) - 1).toNat true).map .bl := by
      rw [List.map_replicate, List.map_const', List.filter_eq_self.mpr (fun _ _ => rfl), List.length_range]
    rw [e, all_bl]
    congr 2
    rw [List.all_eq_true]
    intro x hx
    exact (List.mem_replicate.mp hx).2
theorem are_pairs_P {n : Int} {L : List (Int × Int)} (h : L.Pairwise ltP) (hl : L.length ≤ 1000) (hp : ∀ p ∈ L, 0 ≤ p.1 ∧ p.1 < n ∧ 0 ≤ p.2 ∧ p.2 < n ∧ p.1 ≠ p.2) : f_are_pairs [.int n, .tup (L.map eP)] = some (.bl true) := by
  have hel : ∀ p ∈ L, rCallP 2 f_is_arrow (rCons (rVar 0) (rCons (rVar 2) rNil)) [some (.int n), some (.tup (L.map eP)), some (eP p)] [] = some (.bl true) := fun p hp' =>
    callP_of (ds := [.int n, eP p]) (cons_of (var_of rfl) (cons_of (var_of rfl) nil_of)) rfl rfl (is_arrow_P (hp p hp'))
  refine fnP_of ((sq_nx (if_f (ofRT_of (or_of (b := false) (c := false) (not_f (tru_of (isT_of (var_of rfl) rfl) rfl)) fun _ => not_f (tru_of (d := .bl true) (cal1_of (rlc_of eP (fun p => [some (.int n), some (.tup (L.map eP)), some (eP p)]) (fun _ => true) (fun _ => .bl true) L (itup_of (var_of rfl)) (by omega) fun p hp' =>
    ⟨rfl, rfl, fun _ => hel p hp'⟩) ?_) rfl))))).trans (ret_of (ofR_of (callP_of (ds := [.tup (L.map eP)]) (cons_of (var_of rfl) nil_of) (by simp [ims, D.im, ims_map eP_im]) rfl (are_rising_P h hl))))) rfl
  have e : (L.filter fun _ => true).map (fun _ => D.bl true) = (List.replicate L.length true).map .bl := by
    rw [List.map_replicate, List.map_const', List.filter_eq_self.mpr (fun _ _ => rfl)]
  rw [e, all_bl]
  have : (List.replicate L.length true).all id = true := by
    rw [List.all_eq_true]
    intro x hx
    exact (List.mem_replicate.mp hx).2
  rw [this]
end K44
namespace FL
open PySem PySem.Spec PyProof.Rows L2
theorem oks_int (xs : List Int) : oks (xs.map D.int) = true := oks_map (fun _ => rfl) xs
theorem deps_int (xs : List Int) : deps (xs.map D.int) ≤ 0 := deps_map (e := D.int) (fun _ => Nat.zero_le _) xs
theorem in_ints {G : Hs} {y : D} {v : Int} {xs : List Int} (h : seqG G y = some (xs.map .int)) (neg : Bool) : fIn neg G (.int v) y = some (.bl (if neg = true then !decide (v ∈ xs) else decide (v ∈ xs))) := by
  unfold fIn
  have hd := deps_int xs
  rw [h, Option.bind_some, if_pos ⟨⟨rfl, oks_int xs⟩, Nat.zero_le _, by omega⟩, inB_map (fun x => eqb_int x v)]
theorem whileS_eq (t : ET) (b : SS) (δ : Env') (G : Hs) : whileS t b δ G = (t δ G).bind fun x => if x.1 = true then (b δ x.2).bind fun y => match y.1 with
    | .nx => whileS t b y.2.1 y.2.2
    | .ct => whileS t b y.2.1 y.2.2
    | .bk => some (.nx, y.2.1, y.2.2)
    | .rt r => some (.rt r, y.2.1, y.2.2)
  else some (.nx, δ, x.2) := by
  rw [whileS]
  rfl
theorem while_nx {t : ET} {b : SS} {δ δ1 : Env'} {G G1 G2 : Hs} (h : t δ G = some (true, G1)) (hb : b δ G1 = some (.nx, δ1, G2)) : whileS t b δ G = whileS t b δ1 G2 := by
  rw [whileS_eq, h, Option.bind_some, if_pos rfl, hb]
  rfl
theorem while_rt {t : ET} {b : SS} {δ δ1 : Env'} {G G1 G2 : Hs} {d : D} (h : t δ G = some (true, G1)) (hb : b δ G1 = some (.rt d, δ1, G2)) : whileS t b δ G = some (.rt d, δ1, G2) := by
  rw [whileS_eq, h, Option.bind_some, if_pos rfl, hb]
  rfl
theorem nodup_le {α : Type} [DecidableEq α] : ∀ {l m : List α}, l.Nodup → (∀ x ∈ l, x ∈ m) → l.length ≤ m.length
  | [], m, _, _ => Nat.zero_le _
  | x :: l, m, nd, h => by
    have hx := h x List.mem_cons_self
    have ih := nodup_le (m := m.erase x) (List.nodup_cons.mp nd).2 fun y hy => by
      have hne : y ≠ x := fun z => (List.nodup_cons.mp nd).1 (z ▸ hy)
      exact (List.mem_erase_of_ne hne).mpr (h y (List.mem_cons_of_mem _ hy))
    rw [List.length_erase_of_mem hx] at ih
    have : 0 < m.length := List.length_pos_of_mem hx
    simp only [List.length_cons]
    omega
end FL
namespace K44
open PySem PySem.Spec PyProof.Rows L2 FL
def upto (n : Nat) : List Int := (List.range n).map fun i : Nat => (i : Int)
theorem mem_upto {n : Nat} {v : Int} : v ∈ upto n ↔ 0 ≤ v ∧ v < n := by
  unfold upto
  rw [List.mem_map]
  constructor
  · rintro ⟨i, hi, rfl⟩
    have := List.mem_range.mp hi
    omega
  · rintro ⟨h1, h2⟩
    exact ⟨v.toNat, List.mem_range.mpr (by omega), by omega⟩
theorem upto_nd (n : Nat) : (upto n).Nodup := by
  unfold upto
  rw [List.Nodup, List.pairwise_map]
  exact List.nodup_range.imp fun {a b} h z => h (by omega)
def rdyC (A : List (Int × Int)) (outs : List Int) (v : Int) : Bool := !decide (v ∈ outs) && (((A.filter fun p => decide (p.2 = v)).map fun p => decide (p.1 ∈ outs)).all id)
def rdy (n : Nat) (A : List (Int × Int)) (outs : List Int) : List Int := (upto n).filter (rdyC A outs)
theorem ready_of {n : Nat} {A : List (Int × Int)} {outs : List Int} {o3 : Option D} (hn : n ≤ 100) (hA : A.length ≤ 1000) :
    rLc (iRgR rng1 (rCons (rVar 0) rNil)) (setN 4) (rAnd (rB (rBin g_nin (rVar 4) (rVar 2))) (rTru (rCal gAll (rCons (rLc (iTupR (rVar 1)) (setTup [(setN 5), (setN 6)]) (rB (rBin g_eq (rVar 6) (rVar 4))) (rBin g_in_ (rVar 5) (rVar 2)) [5, 6]) rNil)))) (rVar 4) [4]
      [some (.int n), some (.tup (A.map eP)), some (.rf 0), o3, none, none, none] [.lst (outs.map .int)] = some (.fl ((rdy n A outs).map .int)) := by
  have h := rlc_of (δ := [some (.int n), some (.tup (A.map eP)), some (.rf 0), o3, none, none, none]) (G := [.lst (outs.map .int)]) (src := iRgR rng1 (rCons (rVar 0) rNil)) (set := setN 4) (vs := [4])
    (cond := rAnd (rB (rBin g_nin (rVar 4) (rVar 2))) (rTru (rCal gAll (rCons (rLc (iTupR (rVar 1)) (setTup [(setN 5), (setN 6)]) (rB (rBin g_eq (rVar 6) (rVar 4))) (rBin g_in_ (rVar 5) (rVar 2)) [5, 6]) rNil)))) (elt := rVar 4)
    (fun i : Nat => D.int (0 + (i : Int))) (fun i => [some (.int n), some (.tup (A.map eP)), some (.rf 0), o3, some (.int (0 + (i : Int))), none, none]) (fun i => rdyC A outs (0 + (i : Int))) (fun i => .int (0 + (i : Int))) (List.range (n : Int).toNat)
    (rg1_of (var_of rfl) (by omega) (by omega)) (by rw [List.length_range]; omega) fun i hi => by
      refine ⟨rfl, and_of (b := !decide (0 + (i : Int) ∈ outs)) (b_of (bin_of (var_of rfl) (var_of rfl) (in_ints (xs := outs) rfl true))) fun _ => tru_of (d := .bl (((A.filter fun p => decide (p.2 = 0 + (i : Int))).map fun p => decide (p.1 ∈ outs)).all id)) (cal1_of (rlc_of eP
        (fun p => [some (.int n), some (.tup (A.map eP)), some (.rf 0), o3, some (.int (0 + (i : Int))), some (.int p.1), some (.int p.2)]) (fun p => decide (p.2 = 0 + (i : Int))) (fun p => .bl (decide (p.1 ∈ outs))) A (itup_of (var_of rfl)) (by omega)
          fun p hp => ⟨rfl, b_of (bin_of (var_of rfl) (var_of rfl) (eq_ii _ _)), fun _ => bin_of (var_of rfl) (var_of rfl) (in_ints (xs := outs) rfl false)⟩) ?_) rfl, fun _ => var_of rfl⟩
      rw [show ((A.filter fun p => decide (p.2 = 0 + (i : Int))).map fun p => D.bl (decide (p.1 ∈ outs))) = ((A.filter fun p => decide (p.2 = 0 + (i : Int))).map fun p => decide (p.1 ∈ outs)).map D.bl by rw [List.map_map]; rfl]
      exact all_bl _
  rw [h]
  congr 2
  unfold rdy upto
  rw [List.filter_map, List.map_map]
  have e : ∀ i : Nat, (0 + (i : Int)) = (i : Int) := fun i => by omega
  simp only [e, Function.comp_def, Int.toNat_natCast]
theorem ordered_go {n : Nat} {A : List (Int × Int)} (hn : n ≤ 100) (hA : A.length ≤ 1000) : ∀ (m : Nat) (outs : List Int) (o3 : Option D), outs.Nodup → (∀ v ∈ outs, v ∈ upto n) → n - outs.length = m →
    ∃ outs' δ G, whileS (ofRT (rTru (rC (.bl true))))
   (sSeq (sAsg (ofR (rLc (iRgR rng1 (rCons (rVar 0) rNil)) (setN 4) (rAnd (rB (rBin g_nin (rVar 4) (rVar 2))) (rTru (rCal gAll (rCons (rLc (iTupR (rVar 1)) (setTup [(setN 5), (setN 6)]) (rB (rBin g_eq (rVar 6) (rVar 4))) (rBin g_in_ (rVar 5) (rVar 2)) [5, 6]) rNil)))) (rVar 4) [4])) (setN 3))
   (sSeq (sIf (ofRT (rNot (rTru (rVar 3))))
    (sRet (ofR (rCal gTuple (rCons (rVar 2) rNil))))
    sNil)
   (sExp (eMet gAppend (rVar 2) (eCons (ofR (rBin ixA (rVar 3) (rC (.int 0)))) (ofRA rNil)))))) [some (.int n), some (.tup (A.map eP)), some (.rf 0), o3, none, none, none] [.lst (outs.map .int)] = some (.rt (.tup (outs'.map .int)), δ, G) ∧ outs'.Nodup ∧ (∀ v ∈ outs', v ∈ upto n) ∧ rdy n A outs' = [] := by
  intro m
  induction m using Nat.strongRecOn with
  | _ m ih =>
    intro outs o3 nd sub hm
    have hr := ready_of (o3 := o3) (outs := outs) hn hA
    cases hy : rdy n A outs with
    | nil =>
      rw [hy] at hr
      refine ⟨outs, _, _, while_rt (G1 := [.lst (outs.map .int)]) rfl ((sq_nx (asg_of (ofR_of hr) (by simp))).trans (sq_rt ((if_t (ofRT_of (not_t (tru_of (var_of rfl) rfl)))).trans (ret_of (ofR_of (cal1_of (var_of rfl) rfl)))))), nd, sub, hy⟩
    | cons v r =>
      rw [hy] at hr
      have hv : v ∈ rdy n A outs := by rw [hy]; exact List.mem_cons_self
      have hv1 := List.mem_filter.mp hv
      have hv2 : v ∉ outs := by
        have := hv1.2
        unfold rdyC at this
        rw [Bool.and_eq_true] at this
        simpa using this.1
      have nd' : (outs ++ [v]).Nodup := by
        rw [List.nodup_append]
        exact ⟨nd, by simp, fun a ha b hb z => by
          have : b = v := by simpa using hb
          subst this
          subst z
          exact hv2 ha⟩
      have sub' : ∀ w ∈ outs ++ [v], w ∈ upto n := fun w hw => by
        rcases List.mem_append.mp hw with hw | hw
        · exact sub w hw
        · have : w = v := by simpa using hw
          subst this
          exact hv1.1
      have hlen := nodup_le nd' sub'
      have hln : (upto n).length = n := by simp [upto]
      rw [hln, List.length_append, List.length_singleton] at hlen
      obtain ⟨outs', δ, G, e, h1, h2, h3⟩ := ih (n - (outs ++ [v]).length) (by rw [List.length_append, List.length_singleton]; omega) (outs ++ [v]) (some (.fl ((v :: r).map .int))) nd' sub' rfl
      refine ⟨outs', δ, G, ?_, h1, h2, h3⟩
      rw [while_nx (G1 := [.lst (outs.map .int)]) rfl ((sq_nx (asg_of (ofR_of hr) (by simp))).trans ((sq_nx (if_f (ofRT_of (not_f (tru_of (var_of rfl) rfl))))).trans (exp_of (G1 := [.lst ((outs ++ [v]).map .int)]) (d := .non) ?_)))]
      · exact e
      · exact app_of (xs := outs.map .int) (var_of rfl) rfl (econs1_of (ofR_of (bin_of (var_of rfl) c_of ((ixA_fl _ _).trans (at_0 _ _))))) rfl (by rw [List.length_map]; omega) |>.trans (by rw [List.map_append]; rfl)
end K44
namespace FL
theorem fnI_of {x : PySem.Str} {n : Nat} {is : List Nat} {body : SS} {ds out : List D} {δ : Env'} {G : Hs} (h : body (slots n (.rf 0 :: ds)) [.ins x [] []] = some (.nx, δ, G)) (hg : G[0]? = some (.ins x [] [])) (h0 : δ[0]? = some (some (.rf 0))) (hp : pickD δ is = some out)   : fnI x n is body ds = some out := by
  unfold fnI
  rw [h]
  simp only [Option.bind_some, h0, hg, hp, if_true]
end FL
namespace K44
open PySem PySem.Spec PyProof.Rows L2 FL
structure Good (n : Nat) (A T : List (Int × Int)) : Prop where
  n1 : 2 ≤ n
  n2 : n ≤ 6
  aS : A.Pairwise ltP
  tS : T.Pairwise ltP
  aR : ∀ p ∈ A, 0 ≤ p.1 ∧ p.1 < n ∧ 0 ≤ p.2 ∧ p.2 < n ∧ p.1 ≠ p.2
  tR : ∀ p ∈ T, 0 ≤ p.1 ∧ p.1 < p.2 ∧ p.2 < n
  aL : A.length ≤ 15
  tL : T.length ≤ 6
  pos : ∃ pos : Int → Nat, ∀ p ∈ A, pos p.1 < pos p.2
def eW (n : Nat) (A T : List (Int × Int)) : D := .tup [.int n, .tup (A.map eP), .tup (T.map eP)]
def eM (n : Nat) (A T : List (Int × Int)) : D := .obj "Web" ["many", "arrows", "ties"] [.int n, .tup (A.map eP), .tup (T.map eP)]
theorem eW_im (n : Nat) (A T : List (Int × Int)) : (eW n A T).im = true := by simp [eW, D.im, ims, ims_map eP_im]
theorem eM_im (n : Nat) (A T : List (Int × Int)) : (eM n A T).im = true := by simp [eM, D.im, ims, ims_map eP_im]
section
variable {n : Nat} {A T : List (Int × Int)}
theorem rdy_nil (g : Good n A T) {outs : List Int} (h : rdy n A outs = []) : ∀ v ∈ upto n, v ∈ outs := by
  obtain ⟨pos, hp⟩ := g.pos
  have main : ∀ (k : Nat) (v : Int), pos v = k → v ∈ upto n → v ∈ outs := by
    intro k
    induction k using Nat.strongRecOn with
    | _ k ih =>
      intro v hk hv
      apply Classical.byContradiction
      intro hn
      have : v ∈ rdy n A outs := by
        refine List.mem_filter.mpr ⟨hv, ?_⟩
        unfold rdyC
        rw [Bool.and_eq_true]
        refine ⟨by simpa using hn, ?_⟩
        rw [List.all_eq_true]
        intro b hb
        obtain ⟨p, hpm, rfl⟩ := List.mem_map.mp hb
        obtain ⟨hpA, hpv⟩ := List.mem_filter.mp hpm
        have hpv : p.2 = v := of_decide_eq_true hpv
        have h1 := g.aR p hpA
        have h2 := hp p hpA
        rw [hpv, hk] at h2
        exact decide_eq_true (ih (pos p.1) h2 p.1 rfl (mem_upto.mpr ⟨h1.1, h1.2.1⟩))
      rw [h] at this
      simp at this
  exact fun v hv => main (pos v) v rfl hv
theorem ordered_P (g : Good n A T) : ∃ outs : List Int, f_ordered [.int n, .tup (A.map eP)] = some (.tup (outs.map .int)) ∧ n ≤ outs.length := by
  have hA := g.aL
  have hn := g.n2
  obtain ⟨outs, δ, G, e, h1, h2, h3⟩ := ordered_go (n := n) (A := A) (by omega) (by omega) (n - 0) [] none List.nodup_nil (by simp) rfl
  refine ⟨outs, fnP_of ((sq_nx (asg_of (G1 := [.lst []]) rfl (by simp [slots]))).trans e) (by simp [D.im, ims_map (e := D.int) (fun _ => rfl)]), ?_⟩
  have := nodup_le (upto_nd n) (rdy_nil g h3)
  simpa [upto] using this

theorem web_P (g : Good n A T) : f_Web [.int n, .tup (A.map eP), .tup (T.map eP)] = some (eM n A T) := by
  have hA := g.aL
  have hT := g.tL
  have hn := g.n2
  have hn1 := g.n1
  obtain ⟨outs, ho, hol⟩ := ordered_P g
  have h1 : f_is_between [.int n, .int 1, c_MOST_VARIABLES] = some (.bl true) := by
    rw [c_MOST_VARIABLES, is_between_int]
    have a1 : (1 : Int) ≤ n := by omega
    have a2 : (n : Int) ≤ 6 := by omega
    simp [a1, a2]
  have h2 : f_are_pairs [.int n, .tup (A.map eP)] = some (.bl true) := are_pairs_P g.aS (by omega) g.aR
  have h3 : f_are_pairs [.int n, .tup (T.map eP)] = some (.bl true) := are_pairs_P g.tS (by omega) fun p hp => by
    have := g.tR p hp
    exact ⟨by omega, by omega, by omega, by omega, by omega⟩
  have l1 : g_ltA [.ins "Web" [] []] (.int ((outs.map D.int).length : Int)) (.int n) = some (.bl false) := by
    rw [lt_ii]
    congr 2
    rw [decide_eq_false_iff_not, List.length_map]
    omega
  have l2 : g_gtA [.ins "Web" [] []] (.int ((T.map eP).length : Int)) c_MOST_TIES = some (.bl false) := by
    rw [c_MOST_TIES, gt_ii]
    congr 2
    rw [decide_eq_false_iff_not, List.length_map]
    omega
  have hany : rLc (iTupR (rVar 3)) (setTup [(setN 4), (setN 5)]) cYes (rBin g_gtA (rVar 4) (rVar 5)) [4, 5] (slots 6 [.rf 0, .int n, .tup (A.map eP), .tup (T.map eP)]) [.ins "Web" [] []] = some (.fl ((T.map fun _ => false).map .bl)) := by
    have h := rlc_of (δ := slots 6 [.rf 0, .int n, .tup (A.map eP), .tup (T.map eP)]) (G := [.ins "Web" [] []]) (src := iTupR (rVar 3)) (set := setTup [(setN 4), (setN 5)]) (cond := cYes) (elt := rBin g_gtA (rVar 4) (rVar 5)) (vs := [4, 5])
      eP (fun p => [some (.rf 0), some (.int n), some (.tup (A.map eP)), some (.tup (T.map eP)), some (.int p.1), some (.int p.2)]) (fun _ => true) (fun _ => .bl false) T (itup_of (var_of rfl)) (by omega) fun p hp => ⟨rfl, rfl, fun _ => bin_of (var_of rfl) (var_of rfl) (by
        rw [gt_ii]
        congr 2
        have := g.tR p hp
        rw [decide_eq_false_iff_not]
        omega)⟩
    rw [h, List.filter_eq_self.mpr (fun _ _ => rfl), List.map_map]
    rfl
  have hi : fnI "Web" 6 [1, 2, 3] b_Web [.int n, .tup (A.map eP), .tup (T.map eP)] = some [.int n, .tup (A.map eP), .tup (T.map eP)] := by
    refine fnI_of ((sq_nx (if_f (ofRT_of (not_f (tru_of (callP_of (ds := [.int n, .int 1, c_MOST_VARIABLES]) (cons_of (var_of rfl) (cons_of c_of (cons_of c_of nil_of))) rfl rfl h1) rfl))))).trans
      ((sq_nx (if_f (ofRT_of (or_of (b := false) (c := false) (not_f (tru_of (callP_of (ds := [.int n, .tup (A.map eP)]) (cons_of (var_of rfl) (cons_of (var_of rfl) nil_of)) (by simp [ims, D.im, ims_map eP_im]) rfl h2) rfl)) fun _ =>
        b_of (bin_of (cal1_of (callP_of (ds := [.int n, .tup (A.map eP)]) (cons_of (var_of rfl) (cons_of (var_of rfl) nil_of)) (by simp [ims, D.im, ims_map eP_im]) rfl ho) (len_tup _)) (var_of rfl) l1))))).trans
      ((sq_nx (if_f (ofRT_of (or_of (b := false) (c := false) (not_f (tru_of (callP_of (ds := [.int n, .tup (T.map eP)]) (cons_of (var_of rfl) (cons_of (var_of rfl) nil_of)) (by simp [ims, D.im, ims_map eP_im]) rfl h3) rfl)) fun _ =>
        b_of (bin_of (cal1_of (var_of rfl) (len_tup _)) c_of l2))))).trans
      ((sq_nx (if_f (ofRT_of (tru_of (d := .bl false) (cal1_of hany ((any_bl _).trans (by congr 2; rw [List.any_map]; simp))) rfl)))).trans rfl)))) rfl rfl rfl
  unfold f_Web mkF
  rw [hi, Option.bind_some, if_pos ⟨by simp [ims, D.im, ims_map eP_im], rfl, by decide⟩]
  rfl
end
end K44
namespace FL
open PySem PySem.Spec PyProof.Rows L2
theorem eqb_str (a b : Str) : eqb (.str a) (.str b) = decide (a = b) := by
  show PyData.eqv (.str a) (.str b) = _
  simp only [PyData.eqv]
  by_cases h : a = b
  · subst h; simp
  · simp [h]
theorem eqb_int_str (a : Int) (b : Str) : eqb (.int a) (.str b) = false := by
  show PyData.eqv (.int a) (.str b) = _
  simp [PyData.eqv]
theorem eqb_str_int (a : Int) (b : Str) : eqb (.str b) (.int a) = false := by
  show PyData.eqv (.str b) (.int a) = _
  simp [PyData.eqv]
theorem eq_of {G : Hs} {x y : D} (hx : x.ok = true) (hy : y.ok = true) (dx : x.dep ≤ 60) (dy : y.dep ≤ 60) : g_eq G x y = some (.bl (eqb x y)) := by
  show fEq G x y = _
  unfold fEq
  rw [if_pos ⟨⟨hx, hy⟩, dx, dy⟩]
theorem ne_of' {G : Hs} {x y : D} (hx : x.ok = true) (hy : y.ok = true) (dx : x.dep ≤ 60) (dy : y.dep ≤ 60) : g_ne G x y = some (.bl (!eqb x y)) := by
  show fNe G x y = _
  unfold fNe
  rw [if_pos ⟨⟨hx, hy⟩, dx, dy⟩]
theorem in_of {G : Hs} {x y : D} {ds : List D} (hs : seqG G y = some ds) (hx : x.ok = true) (hy : oks ds = true) (dx : x.dep ≤ 60) (dy : deps ds ≤ 59) (neg : Bool) : fIn neg G x y = some (.bl (if neg = true then !inB x ds else inB x ds)) := by
  unfold fIn
  rw [hs, Option.bind_some, if_pos ⟨⟨hx, hy⟩, dx, dy⟩]
/-- a loop that leaves by False -/
theorem forL_all {set : Sets} {b : SS} {G : Hs} (c : Nat → Bool) (e : Nat → D) (P : Env' → Prop) : ∀ (ks : List Nat) (δ : Env'), P δ →
    (∀ k ∈ ks, ∀ δ, P δ → ∃ δ1, set (e k) δ = some δ1 ∧ ∃ δ2, P δ2 ∧ b δ1 G = if c k = true then some (.nx, δ2, G) else some (.rt (.bl false), δ2, G)) →
    ∃ δ', P δ' ∧ forL set b (ks.map e) δ G = if ks.all c = true then some (.nx, δ', G) else some (.rt (.bl false), δ', G)
  | [], δ, hP, _ => ⟨δ, hP, by simp [forL]⟩
  | k :: ks, δ, hP, h => by
    obtain ⟨δ1, h1, δ2, h2, h3⟩ := h k List.mem_cons_self δ hP
    rw [List.map_cons]
    cases hc : c k with
    | true =>
      obtain ⟨δ', h4, h5⟩ := forL_all c e P ks δ2 h2 fun k hk => h k (List.mem_cons_of_mem _ hk)
      refine ⟨δ', h4, ?_⟩
      rw [forL, h1, Option.bind_some, h3, hc, if_pos rfl, Option.bind_some, List.all_cons, hc, Bool.true_and]
      exact h5
    | false =>
      refine ⟨δ2, h2, ?_⟩
      rw [forL, h1, Option.bind_some, h3, hc, if_neg (by simp), Option.bind_some, List.all_cons, hc, Bool.false_and, if_neg (by simp)]
theorem rg3_of {δ : Env'} {G : Hs} {fa fb fc : RE} {i j : Int} {m : Nat} (ha : fa δ G = some (.int i)) (hb : fb δ G = some (.int j)) (hc : fc δ G = some (.int 2)) (hi : 0 ≤ i ∧ i ≤ 1000) (hj : -1000 ≤ j ∧ j ≤ 1000) (hm : Builtin.Range.rangeSize i j 2 = m) :
    iRgR rng3 (rCons fa (rCons fb (rCons fc rNil))) δ G = some ((List.range m).map fun k : Nat => .int (i + (k : Int) * 2)) := by
  have hs : Builtin.Range.small i j 2 = true := by
    unfold Builtin.Range.small Builtin.Range.rangeSize
    simp only [Builtin.Range.rangeFitsLong, Bool.and_eq_true, Bool.or_eq_true, decide_eq_true_eq, beq_iff_eq, show ((2 : Int) > 0) from by decide, if_true]
    split <;> omega
  simp only [iRgR, rCons, rNil, ha, hb, hc, Option.bind_some, rng3]
  rw [if_pos ⟨by decide, by decide, hs, by rw [hm]; omega⟩, hm]
  rfl
end FL
namespace FL
open PySem PySem.Spec PyProof.Rows L2
/-- every second item -/
def ev2 {α : Type} (xs : List α) : List α := (List.range ((xs.length + 1) / 2)).filterMap fun k => xs[2 * k]?
theorem adj2 (l : Nat) : Builtin.Slice.sliceAdjust none none 2 (l : Int) = (0, (l : Int)) := by
  unfold Builtin.Slice.sliceAdjust
  simp
theorem plc2 (l : Nat) : Builtin.Slice.slicePlaces 0 (l : Int) 2 = (l + 1) / 2 := by
  unfold Builtin.Slice.slicePlaces
  simp only [show ((2 : Int) > 0) from by decide, if_true]
  split <;> omega
theorem stepL2 {α : Type} (xs : List α) : stepL xs none none 2 = ev2 xs := by
  unfold stepL ev2
  rw [adj2]
  simp only [plc2]
  congr 1
  funext k
  congr 1
  omega
theorem stepC2 {α : Type} (xs : List α) : stepC xs none none 2 = (xs.length + 1) / 2 := by
  unfold stepC
  rw [adj2]
  exact plc2 _
theorem ev2_map {α β : Type} (f : α → β) (xs : List α) : ev2 (xs.map f) = (ev2 xs).map f := by
  unfold ev2
  rw [List.map_filterMap, List.length_map]
  congr 1
  funext k
  rw [List.getElem?_map]
theorem st2_of {δ : Env'} {G : Hs} {fa : RE} {ds : List D} (h : fa δ G = some (.tup ds)) (hl : ds.length ≤ 1000) : rSt fa (partD none) (partD none) (partD (some (rC (.int 2)))) δ G = some (.tup (ev2 ds)) := by
  simp only [rSt, h, Option.bind_some, partD, rC]
  rw [if_pos ⟨by decide, by decide, by rw [stepC2]; omega⟩, stepL2]
theorem ev2_len {α : Type} (xs : List α) : (ev2 xs).length ≤ xs.length := by
  unfold ev2
  refine Nat.le_trans (List.length_filterMap_le _ _) ?_
  rw [List.length_range]
  omega
theorem ev2_all {α : Type} (p : α → Bool) (q : Option α → Bool) (h : ∀ x, q (some x) = p x) (xs : List α) : (ev2 xs).all p = (List.range ((xs.length + 1) / 2)).all fun k => q xs[2 * k]? := by
  unfold ev2
  rw [Bool.eq_iff_iff, List.all_eq_true, List.all_eq_true]
  constructor
  · intro hh k hk
    have hk := List.mem_range.mp hk
    have e : xs[2 * k]? = some (xs[2 * k]'(by omega)) := List.getElem?_eq_getElem (by omega)
    rw [e, h]
    exact hh _ (List.mem_filterMap.mpr ⟨k, List.mem_range.mpr hk, e⟩)
  · intro hh x hx
    obtain ⟨k, hk, e⟩ := List.mem_filterMap.mp hx
    have := hh k hk
    rw [e, h] at this
    exact this
theorem for_nx {src : EA} {set : Sets} {b : SS} {δ : Env'} {G G1 : Hs} {ds : List D} (h : src δ G = some (ds, G1)) : sFor src set b δ G = forL set b ds δ G1 := by
  unfold sFor
  rw [h]
  rfl
theorem ofRA_of {f : RA} {δ : Env'} {G : Hs} {ds : List D} (h : f δ G = some ds) : ofRA f δ G = some (ds, G) := by
  unfold ofRA
  rw [h]
  rfl
end FL
namespace FL
open PySem PySem.Spec PyProof.Rows L2
/-- a loop that runs through, with what it keeps -/
theorem forL_fold {α β : Type} {set : Sets} {b : SS} (e : α → D) (step : β → α → β) (I : Nat → β → Env' → Hs → Prop) : ∀ (xs : List α) (b0 : β) (δ : Env') (G : Hs), I xs.length b0 δ G →
    (∀ x ∈ xs, ∀ k b0 δ G, I (k + 1) b0 δ G → ∃ δ1, set (e x) δ = some δ1 ∧ ∃ δ2 G2, b δ1 G = some (.nx, δ2, G2) ∧ I k (step b0 x) δ2 G2) →
    ∃ δ' G', forL set b (xs.map e) δ G = some (.nx, δ', G') ∧ I 0 (xs.foldl step b0) δ' G'
  | [], b0, δ, G, h, _ => ⟨δ, G, rfl, h⟩
  | x :: xs, b0, δ, G, h, hs => by
    obtain ⟨δ1, h1, δ2, G2, h2, h3⟩ := hs x List.mem_cons_self _ _ _ _ h
    obtain ⟨δ', G', h4, h5⟩ := forL_fold e step I xs (step b0 x) δ2 G2 h3 fun y hy => hs y (List.mem_cons_of_mem _ hy)
    refine ⟨δ', G', ?_, h5⟩
    rw [List.map_cons, forL, h1, Option.bind_some, h2, Option.bind_some]
    exact h4
theorem foldl_flat {α β : Type} (f : α → List β) : ∀ (xs : List α) (b : List β), xs.foldl (fun b x => b ++ f x) b = b ++ xs.flatMap f
  | [], b => by simp
  | x :: xs, b => by rw [List.foldl_cons, foldl_flat f xs, List.flatMap_cons, List.append_assoc]
end FL
namespace FL
open PySem PySem.Spec PyProof.Rows L2
/-- a body that returns a truth value -/
def RB (g : SS) (δ : Env') (G : Hs) (u : Bool) : Prop := ∃ δ2, g δ G = some (.rt (.bl u), δ2, G)
section
variable {δ : Env'} {G : Hs} {g k : SS} {t : RT} {c u : Bool} {fa : RE} {n : Nat} {ds : List D}
theorem rb_if (h : t δ G = some c) (hk : c = false → RB k δ G u) : RB (sSeq (sIf (ofRT t) (sRet (ofR (rC (.bl false)))) FL.sNil) k) δ G (!c && u) := by
  cases c with
  | true => exact ⟨_, sq_rt ((if_t (ofRT_of h)).trans (ret_of (ofR_of c_of)))⟩
  | false =>
    obtain ⟨δ2, e⟩ := hk rfl
    exact ⟨_, (sq_nx (if_f (ofRT_of h))).trans e⟩
theorem rb_for {P : Env' → Prop} (h : ∃ δ', P δ' ∧ g δ G = if c = true then some (.nx, δ', G) else some (.rt (.bl false), δ', G)) (hk : c = true → ∀ δ', P δ' → RB k δ' G u) : RB (sSeq g k) δ G (c && u) := by
  obtain ⟨δ', hP, e⟩ := h
  cases c with
  | true =>
    obtain ⟨δ2, e2⟩ := hk rfl δ' hP
    exact ⟨_, (sq_nx e).trans e2⟩
  | false => exact ⟨_, sq_rt e⟩
theorem rb_ret (h : fa δ G = some (.bl u)) : RB (sRet (ofR fa)) δ G u := ⟨_, ret_of (ofR_of h)⟩
theorem fnP_rb {body : SS} (h : RB body (slots n ds) [] u) : fnP n body ds = some (.bl u) := by
  obtain ⟨δ2, e⟩ := h
  exact fnP_of e rfl
theorem for3 {set : Sets} {b : SS} {fa fb fc : RE} {i j : Int} {m : Nat} (ha : fa δ G = some (.int i)) (hb : fb δ G = some (.int j)) (hc : fc δ G = some (.int 2)) (hi : 0 ≤ i ∧ i ≤ 1000) (hj : -1000 ≤ j ∧ j ≤ 1000) (hm : Builtin.Range.rangeSize i j 2 = m) (c : Nat → Bool) (P : Env' → Prop) (hP : P δ)
    (h : ∀ k < m, ∀ δ, P δ → ∃ δ1, set (.int (i + (k : Int) * 2)) δ = some δ1 ∧ ∃ δ2, P δ2 ∧ b δ1 G = if c k = true then some (.nx, δ2, G) else some (.rt (.bl false), δ2, G)) :
    ∃ δ', P δ' ∧ sFor (ofRA (iRgR rng3 (rCons fa (rCons fb (rCons fc rNil))))) set b δ G = if (List.range m).all c = true then some (.nx, δ', G) else some (.rt (.bl false), δ', G) := by
  obtain ⟨δ', h1, h2⟩ := forL_all (set := set) (b := b) (G := G) c (fun k : Nat => D.int (i + (k : Int) * 2)) P (List.range m) δ hP fun k hk => h k (List.mem_range.mp hk)
  exact ⟨δ', h1, (for_nx (ofRA_of (rg3_of ha hb hc hi hj hm))).trans h2⟩
/-- the body of such a loop: one question -/
theorem if1_of (h : t δ G = some (!c)) : sIf (ofRT t) (sRet (ofR (rC (.bl false)))) FL.sNil δ G = if c = true then some (.nx, δ, G) else some (.rt (.bl false), δ, G) := by
  cases c with
  | true => exact (if_f (ofRT_of h)).trans rfl
  | false => exact (if_t (ofRT_of h)).trans (ret_of (ofR_of c_of))
theorem rsz2 {i j : Int} {m : Nat} (h : (m : Int) = (j - i + 1) / 2 ∧ i < j ∨ j ≤ i ∧ m = 0) : Builtin.Range.rangeSize i j 2 = m := by
  unfold Builtin.Range.rangeSize
  simp only [show ((2 : Int) > 0) from by decide, if_true]
  split <;> omega
end
end FL
namespace K44
open PySem PySem.Spec PyProof.Rows L2 FL
section
variable {n : Nat} {A T : List (Int × Int)}
theorem is_variable_v (v : Int) : f_is_variable [eM n A T, .int v] = some (.bl (decide (0 ≤ v) && decide (v < n))) :=
  fnP_of (ret_of (ofR_of (callP_of (ds := [.int v, .int n]) (cons_of (var_of rfl) (cons_of (attr_of (var_of rfl) rfl) nil_of)) rfl rfl (is_under_int v n)))) rfl
end
theorem in_P {G : Hs} {y : D} {L : List (Int × Int)} {p : Int × Int} (hs : seqG G y = some (L.map eP)) (neg : Bool) : fIn neg G (eP p) y = some (.bl (if neg = true then !decide (p ∈ L) else decide (p ∈ L))) := by
  have hd := deps_map (e := eP) (n := 1) (fun _ => Nat.le_refl _) L
  rw [in_of hs (eP_ok p) (oks_map eP_ok L) (by rw [eP_dep]; omega) (by omega) neg, inB_map (fun x => eqb_P x p)]
  congr 2
  cases neg <;> simp
end K44
namespace FL
open PySem PySem.Spec PyProof.Rows L2
theorem cat_tup {G : Hs} {a b : List D} (h : a.length + b.length ≤ 10000000) : g_addA G (.tup a) (.tup b) = some (.tup (a ++ b)) := by
  have h0 : fAdd G (.tup a) (.tup b) = none := rfl
  simp [fOr, h0, fCatT, h]
theorem cat_lst {G : Hs} {x y : D} {a b : List D} (hx : lstG G x = some a) (hy : lstG G y = some b) (h0 : fAdd G x y = none) (h1 : fCatT G x y = none) (h : a.length + b.length ≤ 10000000) : g_addA G x y = some (.fl (a ++ b)) := by
  simp [fOr, fCatL, h0, h1, hx, hy, h]
theorem par_of {δ : Env'} {G G1 : Hs} {gs : EA} {i j : Nat} {d d' : D} (e : gs δ G = some ([d, d'], G1)) (hi : i < δ.length ∧ j < δ.length) : sPar i j gs δ G = some (.nx, (δ.set i (some d)).set j (some d'), G1) := by
  unfold sPar
  rw [e]
  simp [hi]
theorem frz_of {δ δ1 : Env'} {G G1 : Hs} {g : SS} {i k : Nat} {ds : List D} (e : g δ G = some (.nx, δ1, G1)) (hi : δ1[i]? = some (some (.rf k))) (hk : G1[k]? = some (.lst ds)) : sFrz i g δ G = some (.nx, δ1.set i (some (.fl ds)), G1.set k .dead) := by
  unfold sFrz
  rw [e]
  simp [hi, hk]
theorem set_end {α : Type} (a : List α) (x y : α) : (a ++ [x]).set a.length y = a ++ [y] := by simp
theorem get_end {α : Type} (a : List α) (x : α) : (a ++ [x])[a.length]? = some x := by simp
theorem adjR (l : Nat) : Builtin.Slice.sliceAdjust none none (-1) (l : Int) = ((l : Int) - 1, -1) := by
  unfold Builtin.Slice.sliceAdjust
  simp
theorem plcR (l : Nat) : Builtin.Slice.slicePlaces ((l : Int) - 1) (-1) (-1) = l := by
  unfold Builtin.Slice.slicePlaces
  simp only [show ¬ ((-1 : Int) > 0) from by decide, if_false, show (-(-1 : Int)) = 1 from rfl, Int.ediv_one]
  split <;> omega
theorem fmap_congr {α β : Type} {f g : α → Option β} : ∀ {l : List α}, (∀ x ∈ l, f x = g x) → l.filterMap f = l.filterMap g
  | [], _ => rfl
  | x :: l, h => by rw [List.filterMap_cons, List.filterMap_cons, h x List.mem_cons_self, fmap_congr fun y hy => h y (List.mem_cons_of_mem _ hy)]
theorem range_get {α : Type} (ys : List α) : (List.range ys.length).filterMap (fun k => ys[k]?) = ys := by
  induction ys with
  | nil => rfl
  | cons y ys ih =>
    rw [List.length_cons, List.range_succ_eq_map, List.filterMap_cons]
    simp only [List.getElem?_cons_zero, List.filterMap_map]
    congr 1
theorem stepLR {α : Type} (xs : List α) : stepL xs none none (-1) = xs.reverse := by
  unfold stepL
  rw [adjR]
  simp only [plcR]
  have e : (List.range xs.length).filterMap (fun k => xs.reverse[k]?) = xs.reverse := by
    have := range_get xs.reverse
    rwa [List.length_reverse] at this
  rw [← e]
  refine fmap_congr fun k hk => ?_
  have hk := List.mem_range.mp hk
  rw [List.getElem?_reverse hk]
  congr 1
  omega
theorem stepCR {α : Type} (xs : List α) : stepC xs none none (-1) = xs.length := by
  unfold stepC
  rw [adjR]
  exact plcR _
theorem stR_of {δ : Env'} {G : Hs} {fa fc : RE} {ds : List D} (h : fa δ G = some (.tup ds)) (hp : partD (some fc) δ G = some (some (-1))) (hl : ds.length ≤ 1000) : rSt fa (partD none) (partD none) (partD (some fc)) δ G = some (.tup ds.reverse) := by
  unfold rSt
  rw [h, hp]
  simp only [Option.bind_some, partD]
  rw [if_pos ⟨by decide, by decide, by rw [stepCR]; omega⟩, stepLR]
theorem forf_nx {f : RE} {set : Sets} {b : SS} {δ : Env'} {G : Hs} {ds : List D} (h : f δ G = some (.fl ds)) : sFor (iFlE (ofR f)) set b δ G = forL set b ds δ G := by
  unfold sFor iFlE ofR
  rw [h]
  rfl
theorem put_of {δ : Env'} {G G1 : Hs} {fv fo fi : RE} {x y z : D} (hv : fv δ G = some z) (ho : fo δ G = some x) (hi : fi δ G = some y) (h : stD x y z G = some G1) : sPut (ofR fv) (ofR fo) (ofR fi) δ G = some (.nx, δ, G1) := by
  unfold sPut ofR
  simp [hv, ho, hi, h]
theorem econs_of {δ : Env'} {G G1 G2 : Hs} {fa : EE} {fs : EA} {d : D} {ds : List D} (h : fa δ G = some (d, G1)) (hs : fs δ G1 = some (ds, G2)) : eCons fa fs δ G = some (d :: ds, G2) := by
  unfold eCons
  simp [h, hs]
theorem enil_of {δ : Env'} {G : Hs} : ofRA rNil δ G = some ([], G) := rfl
theorem ebin_of {g : Hs → D → D → Option D} {δ : Env'} {G G1 G2 : Hs} {fa fb : EE} {x y d : D} (ha : fa δ G = some (x, G1)) (hb : fb δ G1 = some (y, G2)) (h : g G2 x y = some d) : eBin g fa fb δ G = some (d, G2) := by
  unfold eBin
  simp [ha, hb, h]
theorem ecal_of {g : Hs → List D → Option D} {δ : Env'} {G G1 : Hs} {fs : EA} {ds : List D} {d : D} (ha : fs δ G = some (ds, G1)) (h : g G1 ds = some d) : eCal g fs δ G = some (d, G1) := by
  unfold eCal
  simp [ha, h]
theorem eb_of {δ : Env'} {G G1 : Hs} {fa : EE} {b : Bool} (h : fa δ G = some (.bl b, G1)) : eB fa δ G = some (b, G1) := by
  unfold eB
  simp [h, toB]
theorem if_any {t : ET} {g h : SS} {δ : Env'} {G G1 : Hs} {b : Bool} (e : t δ G = some (b, G1)) : sIf t g h δ G = if b = true then g δ G1 else h δ G1 := if_of e
theorem log_small {n : Nat} (h : n < 2 ^ 40) : n.log2 < 40 := by
  by_cases h0 : n = 0
  · subst h0; decide
  · exact (Nat.log2_lt h0).mpr h
theorem mul_ii {G : Hs} (a b : Int) (ha : a.natAbs < 2 ^ 40) (hb : b.natAbs < 2 ^ 40) : g_mulA G (.int a) (.int b) = some (.int (a * b)) := by
  have h : fMul G (.int a) (.int b) = some (.int (a * b)) := by
    have h1 := log_small ha
    have h2 := log_small hb
    show (if decide (a.natAbs.log2 + b.natAbs.log2 < 1000000) = true then _ else _) = _
    rw [if_pos (decide_eq_true (by omega))]
  show (match fMul G (.int a) (.int b) with | some d => some d | none => _) = _
  rw [h]
theorem div_ii {G : Hs} (a b : Int) (h : decide (0 < b ∧ b.natAbs.log2 < 9000) = true) : g_div G (.int a) (.int b) = some (.int (a / b)) := by
  show (if decide (0 < b ∧ b.natAbs.log2 < 9000) = true then _ else _) = _
  rw [if_pos h]
theorem pop_of {δ : Env'} {G : Hs} {fo : RE} {k : Nat} {xs : List Int} {x : Int} (ho : fo δ G = some (.rf k)) (hk : G[k]? = some (.lst ((xs ++ [x]).map .int))) : ePop fo δ G = some (.int x, G.set k (.lst (xs.map .int))) := by
  unfold ePop
  simp only [ho, Option.bind_some, hk]
  rw [show ((xs ++ [x]).map D.int)[((xs ++ [x]).map D.int).length - 1]? = some (.int x) by simp, Option.bind_some]
  simp
theorem ims_int (xs : List Int) : ims (xs.map D.int) = true := ims_map (e := D.int) (fun _ => rfl) xs
/-- a call with a root of integers -/
theorem callB_of {F : List D → Hs → Option (D × Hs)} {δ : Env'} {G G1 : Hs} {gs : EA} {k np : Nat} {rest : List D} {r : D} {o o' : GO} (hs : gs δ G = some (.rf k :: rest, G1)) (hn : (D.rf k :: rest).length = np) (hi : ims rest = true) (hk : G1[k]? = some o) (fo : o.flat = true) (hF : F (.rf 0 :: rest) [o] = some (r, [o'])) (fo' : o'.flat = true) (hr : r.im = true) :
    eCallB np F gs δ G = some (r, G1.set k o') := by
  unfold eCallB
  rw [hs, Option.bind_some, if_pos hn]
  unfold callB
  simp only [hi, hk, fo, hF, fo', hr, if_true, Option.bind_some]
/-- a call that hands back a new list root -/
theorem callB_new {F : List D → Hs → Option (D × Hs)} {δ : Env'} {G G1 : Hs} {gs : EA} {k np : Nat} {rest : List D} {o o' o2 : GO} (hs : gs δ G = some (.rf k :: rest, G1)) (hn : (D.rf k :: rest).length = np) (hi : ims rest = true) (hk : G1[k]? = some o) (fo : o.flat = true) (hF : F (.rf 0 :: rest) [o] = some (.rf 1, [o', o2])) (fo' : o'.flat = true) (fo2 : o2.flat = true) :
    eCallB np F gs δ G = some (.rf G1.length, G1.set k o' ++ [o2]) := by
  unfold eCallB
  rw [hs, Option.bind_some, if_pos hn]
  unfold callB
  simp only [hi, hk, fo, hF, fo', fo2, if_true, Option.bind_some, and_self]
theorem callB_new0 {F : List D → Hs → Option (D × Hs)} {δ : Env'} {G G1 : Hs} {gs : EA} {np : Nat} {ds : List D} {o2 : GO} (hs : gs δ G = some (ds, G1)) (hn : ds.length = np) (hi : ims ds = true) (hF : F ds [] = some (.rf 0, [o2])) (fo2 : o2.flat = true) :
    eCallB np F gs δ G = some (.rf G1.length, G1 ++ [o2]) := by
  unfold eCallB
  rw [hs, Option.bind_some, if_pos hn]
  unfold callB
  cases ds with
  | nil => simp [ims, hF, fo2]
  | cons d ds => cases d <;> first | (simp [hi, hF, fo2]; done) | (simp [ims, D.im] at hi)
theorem popAt_of {δ : Env'} {G G1 : Hs} {fo : RE} {gs : EA} {k : Nat} {xs : List D} {ys : List D} {i : Int} {d : D} (ho : fo δ G = some (.rf k)) (hk : G[k]? = some (.lst xs)) (hs : gs δ G = some ([.int i], G1)) (hk1 : G1[k]? = some (.lst ys)) (h : 0 ≤ i ∧ i < 1000000) (hd : ys[i.toNat]? = some d) : eMet gPopAt fo gs δ G = some (d, G1.set k (.lst (ys.eraseIdx i.toNat))) := by
  unfold eMet
  simp only [ho, Option.bind_some, lstG, hk, hs, gPopAt, hk1]
  rw [if_pos h, hd]
  rfl
theorem cons_erase {α : Type} : ∀ {l : List α} {i : Nat} (h : i < l.length), (l[i] :: l.eraseIdx i).Perm l
  | x :: l, 0, _ => List.Perm.refl _
  | x :: l, i + 1, h => by
    have h' : i < l.length := by simpa using h
    have := cons_erase h'
    simp only [List.getElem_cons_succ, List.eraseIdx_cons_succ]
    exact (List.Perm.swap x l[i] (l.eraseIdx i)).trans (this.cons x)
theorem erase_map {α β : Type} (f : α → β) : ∀ (l : List α) (i : Nat), (l.map f).eraseIdx i = (l.eraseIdx i).map f
  | [], _ => rfl
  | x :: l, 0 => rfl
  | x :: l, i + 1 => by simp [erase_map f l i]
theorem nodup_map {α β : Type} {f : α → β} : ∀ {l : List α}, (∀ x ∈ l, ∀ y ∈ l, f x = f y → x = y) → l.Nodup → (l.map f).Nodup
  | [], _, _ => List.nodup_nil
  | x :: l, h, nd => by
    obtain ⟨h1, h2⟩ := List.nodup_cons.mp nd
    rw [List.map_cons, List.nodup_cons]
    refine ⟨fun z => ?_, nodup_map (fun a ha b hb => h a (List.mem_cons_of_mem _ ha) b (List.mem_cons_of_mem _ hb)) h2⟩
    obtain ⟨y, hy, e⟩ := List.mem_map.mp z
    have := h y (List.mem_cons_of_mem _ hy) x List.mem_cons_self e
    subst this
    exact h1 hy
theorem lcE_draws {α β : Type} {set : Sets} {cond : ET} {elt : EE} {δ : Env'} (e : α → D) (eo : β → D) (P : β → Prop) : ∀ (xs : List α) (dr : List Int),
    (∀ x ∈ xs, ∃ δ1, set (e x) δ = some δ1 ∧ ∀ dr : List Int, ∃ (c : Bool) (dr1 : List Int), cond δ1 [.lst (dr.map .int)] = some (c, [.lst (dr1.map .int)]) ∧ (c = true → ∃ (y : β) (dr2 : List Int), P y ∧ elt δ1 [.lst (dr1.map .int)] = some (eo y, [.lst (dr2.map .int)]))) →
    ∃ (ys : List β) (dr' : List Int), lcE set cond elt (xs.map e) δ [.lst (dr.map .int)] = some (ys.map eo, [.lst (dr'.map .int)]) ∧ (∀ y ∈ ys, P y) ∧ ys.length ≤ xs.length
  | [], dr, _ => ⟨[], dr, rfl, (fun _ h => by cases h), Nat.le_refl _⟩
  | x :: xs, dr, h => by
    obtain ⟨δ1, h1, h2⟩ := h x List.mem_cons_self
    obtain ⟨c, dr1, h3, h4⟩ := h2 dr
    cases c with
    | true =>
      obtain ⟨y, dr2, h5, h6⟩ := h4 rfl
      obtain ⟨ys, dr', h7, h8, h9⟩ := lcE_draws e eo P xs dr2 fun z hz => h z (List.mem_cons_of_mem _ hz)
      refine ⟨y :: ys, dr', ?_, fun z hz => ?_, Nat.succ_le_succ h9⟩
      · rw [List.map_cons, lcE, h1, Option.bind_some, h3, Option.bind_some, if_pos rfl, h6, Option.bind_some, h7]
        rfl
      · rcases List.mem_cons.mp hz with rfl | hz
        · exact h5
        · exact h8 z hz
    | false =>
      obtain ⟨ys, dr', h7, h8, h9⟩ := lcE_draws e eo P xs dr1 fun z hz => h z (List.mem_cons_of_mem _ hz)
      refine ⟨ys, dr', ?_, h8, Nat.le_succ_of_le h9⟩
      rw [List.map_cons, lcE, h1, Option.bind_some, h3, Option.bind_some, if_neg (by simp)]
      exact h7
theorem elc_of {src : EA} {set : Sets} {cond : ET} {elt : EE} {vs : List Nat} {δ : Env'} {G G1 G2 : Hs} {ds ys : List D} (hs : src δ G = some (ds, G1)) (hl : ds.length ≤ 10000000) (h : lcE set cond elt ds (wipeD δ vs) G1 = some (ys, G2)) : eLc src set cond elt vs δ G = some (.fl ys, G2) := by
  unfold eLc
  rw [hs, Option.bind_some, if_pos hl, h]
  rfl
theorem isn_bb {G : Hs} (a b : Bool) : g_isnA G (.bl a) (.bl b) = some (.bl (!decide (a = b))) := rfl
theorem repr_of {G : Hs} {d : D} (h : d.ok = true ∧ d.sh = true ∧ d.dep ≤ 60 ∧ d.py.shown.length ≤ 10000000) : gRepr G [d] = some (.str d.py.shown) := by
  show (if d.ok = true ∧ d.sh = true ∧ d.dep ≤ 60 ∧ d.py.shown.length ≤ 10000000 then some (D.str d.py.shown) else none) = _
  rw [if_pos h]
theorem repr_b (b : Bool) : ∃ x, (∀ G, gRepr G [.bl b] = some x) ∧ ∀ G, g_ne G x x = some (.bl false) := by
  refine ⟨.str (D.bl b).py.shown, fun G => ?_, fun G => ?_⟩
  · exact repr_of (by cases b <;> exact ⟨by decide +kernel, by decide +kernel, by decide +kernel, by decide +kernel⟩)
  · show fNe G _ _ = _
    unfold fNe
    rw [if_pos (by cases b <;> exact ⟨⟨by decide +kernel, by decide +kernel⟩, Nat.zero_le _, Nat.zero_le _⟩)]
    refine congrArg (fun b => some (D.bl b)) ?_
    cases b <;> decide +kernel
theorem repr_bb (a b : Bool) : ∃ x, (∀ G, gRepr G [.fl [.bl a, .bl b]] = some x) ∧ ∀ G, g_ne G x x = some (.bl false) := by
  refine ⟨.str (D.fl [.bl a, .bl b]).py.shown, fun G => ?_, fun G => ?_⟩
  · exact repr_of (by cases a <;> cases b <;> exact ⟨by decide +kernel, by decide +kernel, by decide +kernel, by decide +kernel⟩)
  · show fNe G _ _ = _
    unfold fNe
    rw [if_pos (by cases a <;> cases b <;> exact ⟨⟨by decide +kernel, by decide +kernel⟩, Nat.zero_le _, Nat.zero_le _⟩)]
    refine congrArg (fun b => some (D.bl b)) ?_
    cases a <;> cases b <;> decide +kernel
end FL
namespace K44
open PySem PySem.Spec PyProof.Rows L2 FL
theorem eq_bb {G : Hs} (a b : Bool) : g_eq G (.bl a) (.bl b) = some (.bl (a == b)) := by
  rw [eq_of (by rfl) (by rfl) (Nat.zero_le _) (Nat.zero_le _)]
  cases a <;> cases b <;> rfl
theorem pN_of {δ : Env'} {G : Hs} : partD none δ G = some none := rfl
theorem pS_of {δ : Env'} {G : Hs} {f : RE} {i : Int} (h : f δ G = some (.int i)) : partD (some f) δ G = some (some i) := by
  show ((f δ G).bind _) = _
  rw [h]
  rfl
theorem eIf_t {t : ET} {f g : EE} {δ : Env'} {G G1 : Hs} (h : t δ G = some (true, G1)) : eIf t f g δ G = f δ G1 := by
  unfold eIf
  rw [h]
  rfl
theorem eIf_f {t : ET} {f g : EE} {δ : Env'} {G G1 : Hs} (h : t δ G = some (false, G1)) : eIf t f g δ G = g δ G1 := by
  unfold eIf
  rw [h]
  rfl
theorem asgT_of {f : EE} {δ : Env'} {G G1 : Hs} {d e : D} {i j : Nat} (h : f δ G = some (.tup [d, e], G1)) (hi : i < δ.length) (hj : j < δ.length) : sAsg f (setTup [(setN i), (setN j)]) δ G = some (.nx, (δ.set i (some d)).set j (some e), G1) := by
  unfold sAsg
  rw [h, Option.bind_some]
  show ((setTs [(setN i), (setN j)] [d, e] δ).bind _) = _
  have e1 : setN i d δ = some (δ.set i (some d)) := by
    unfold setN
    rw [if_pos hi]
  have e2 : setN j e (δ.set i (some d)) = some ((δ.set i (some d)).set j (some e)) := by
    unfold setN
    rw [if_pos (by rw [List.length_set]; exact hj)]
  simp [setTs, e1, e2]
theorem etup_of {fs : EA} {δ : Env'} {G G1 : Hs} {ds : List D} (h : fs δ G = some (ds, G1)) (hl : ds.length ≤ 1000) : eTup fs δ G = some (.tup ds, G1) := by
  unfold eTup
  rw [h, Option.bind_some, if_pos hl]
end K44
namespace K44
open PySem PySem.Spec PyProof.Rows L2 FL
theorem take_P {m : Int} (hm : 0 < m) (xs : List Int) : ∃ (r : Int) (xs' : List Int), f__law_take [.rf 0, .int m] [.lst (xs.map .int)] = some (.int r, [.lst (xs'.map .int)]) ∧ 0 ≤ r ∧ r < m := by
  have gc : ∀ (r : Int) (ys : List Int), gcD 1 (.int r) [.lst (ys.map .int)] = some (.int r, [.lst (ys.map .int)]) := fun r ys => by
    unfold gcD
    simp [GO.flat, ims_int, D.im]
  cases e : xs.reverse with
  | nil =>
    have : xs = [] := by simpa using e
    subst this
    exact ⟨0, [], rfl, Int.le_refl _, hm⟩
  | cons x ys =>
    have hx : xs = ys.reverse ++ [x] := by
      rw [← List.reverse_reverse xs, e, List.reverse_cons]
    subst hx
    refine ⟨x % m, ys.reverse, ?_, Int.emod_nonneg _ (by omega), Int.emod_lt_of_pos _ hm⟩
    have h : b__law_take (slots 2 [.rf 0, .int m]) [.lst ((ys.reverse ++ [x]).map .int)] = some (.rt (.int (x % m)), slots 2 [.rf 0, .int m], [.lst (ys.reverse.map .int)]) := by
      refine (sq_nx (if_f (ofRT_of (not_f (tru_of (var_of rfl) ?_))))).trans (ret_of (ebin_of (ecal_of (econs_of (pop_of (k := 0) (var_of rfl) rfl) enil_of) rfl) (ofR_of (var_of rfl)) (mod_ii _ _ hm)))
      simp [truD]
    show ((b__law_take (slots 2 [.rf 0, .int m]) [.lst ((ys.reverse ++ [x]).map .int)]).bind _) = _
    rw [h]
    exact gc _ _
theorem flat_int (xs : List Int) : (GO.lst (xs.map D.int)).flat = true := ims_int xs
theorem tk_of {δ : Env'} {G : Hs} {k : Nat} {fo fm : RE} {xs : List Int} {m : Int} (ho : fo δ G = some (.rf k)) (hk : G[k]? = some (.lst (xs.map .int))) (hm : fm δ G = some (.int m)) (h : 0 < m) :
    ∃ (r : Int) (xs' : List Int), eCallB 2 f__law_take (eCons (ofR fo) (eCons (ofR fm) (ofRA rNil))) δ G = some (.int r, G.set k (.lst (xs'.map .int))) ∧ 0 ≤ r ∧ r < m := by
  obtain ⟨r, xs', h1, h2⟩ := take_P h xs
  exact ⟨r, xs', callB_of (econs_of (ofR_of ho) (econs_of (ofR_of hm) enil_of)) rfl rfl hk (flat_int _) h1 (flat_int _) rfl, h2⟩
def DI1 (ns : List Int) (m : Nat) (_ : Unit) (δ : Env') (G : Hs) : Prop := ∃ (xs : List Int) (big : Int) (o4 o5 o6 : Option D), δ = [some (.scr ns), some (.int 260), some (.rf 0), some (.int big), o4, o5, o6] ∧ G = [.lst (xs.map .int)] ∧ xs.length + m ≤ 260
def DI2 (ns : List Int) (m : Nat) (_ : Unit) (δ : Env') (G : Hs) : Prop := ∃ (xs : List Int) (seed : Int) (o3 o5 o6 : Option D), δ = [some (.scr ns), some (.int 260), some (.rf 0), o3, some (.int seed), o5, o6] ∧ G = [.lst (xs.map .int)] ∧ xs.length + m ≤ 260 ∧ 0 ≤ seed ∧ seed < 2147483647
theorem draws1 (ns : List Int) (i : Nat) {m : Nat} {u : Unit} {δ : Env'} {G : Hs} (h : DI1 ns (m + 1) u δ G) : ∃ δ1, setN 5 (.int (0 + (i : Int))) δ = some δ1 ∧ ∃ δ2 G2, (sIf (ofRT (rB (rBin g_gtA (rVar 3) (rC (.int 0)))))
     (sSeq (sExp (eMet gAppend (rVar 2) (eCons (ofR (rBin g_mod (rCal gInt (rCons (rVar 3) rNil)) (rC (.int 1009)))) (ofRA rNil))))
     (sAsg (ofR (rBin g_div (rVar 3) (rC (.int 1009)))) (setN 3)))
     FL.sNil) δ1 G = some (.nx, δ2, G2) ∧ DI1 ns m () δ2 G2 := by
  obtain ⟨xs, big, o4, o5, o6, hδ, hG, hm⟩ := h
  subst hδ hG
  refine ⟨_, rfl, ?_⟩
  have t : rB (rBin g_gtA (rVar 3) (rC (.int 0))) [some (.scr ns), some (.int 260), some (.rf 0), some (.int big), o4, some (.int (0 + (i : Int))), o6] [.lst (xs.map .int)] = some (decide (0 < big)) := b_of (bin_of (var_of rfl) c_of (gt_ii _ _))
  by_cases hb : 0 < big
  · rw [decide_eq_true hb] at t
    refine ⟨_, _, (if_t (ofRT_of t)).trans ((sq_nx (exp_of (app_of (k := 0) (var_of rfl) rfl (econs1_of (ofR_of (bin_of (cal1_of (var_of rfl) rfl) c_of (mod_ii _ _ (by decide))))) rfl (by rw [List.length_map]; omega)))).trans (asg_of (ofR_of (bin_of (var_of rfl) c_of (div_ii _ _ (by decide +kernel)))) (by simp))), xs ++ [big % 1009], big / 1009, _, _, _, rfl, ?_, by simp; omega⟩
    show [GO.lst (xs.map .int ++ [.int (big % 1009)])] = _
    rw [List.map_append]
    rfl
  · rw [decide_eq_false hb] at t
    exact ⟨_, _, (if_f (ofRT_of t)).trans rfl, xs, big, _, _, _, rfl, rfl, by omega⟩
theorem draws2 (ns : List Int) (i : Nat) (hi : i ≤ 1000) {m : Nat} {u : Unit} {δ : Env'} {G : Hs} (h : DI2 ns (m + 1) u δ G) : ∃ δ1, setN 5 (.int (0 + (i : Int))) δ = some δ1 ∧ ∃ δ2 G2, (sSeq (sAsg (ofR (rVar 5)) (setN 6))
   (sSeq (sIf (ofRT (rTru (rVar 0)))
    (sAsg (ofR (rBin g_mod (rCal gInt (rCons (rBin ixA (rVar 0) (rBin g_mod (rCal gInt (rCons (rBin g_addA (rVar 5) (rC (.int 1))) rNil)) (rCal gLen (rCons (rVar 0) rNil)))) rNil)) (rC (.int 2147483647)))) (setN 6))
    FL.sNil)
   (sSeq (sAsg (ofR (rBin g_mod (rCal gInt (rCons (rBin g_addA (rBin g_addA (rBin g_addA (rBin g_mulA (rVar 4) (rC (.int 48271))) (rVar 6)) (rBin g_mulA (rVar 5) (rC (.int 69621)))) (rC (.int 13))) rNil)) (rC (.int 2147483647)))) (setN 4))
   (sExp (eMet gAppend (rVar 2) (eCons (ofR (rBin g_mod (rCal gInt (rCons (rBin g_div (rBin g_mod (rCal gInt (rCons (rBin g_addA (rBin g_mulA (rVar 4) (rC (.int 16807))) (rC (.int 54321))) rNil)) (rC (.int 2147483647))) (rC (.int 7))) rNil)) (rC (.int 1009)))) (ofRA rNil))))))) δ1 G = some (.nx, δ2, G2) ∧ DI2 ns m () δ2 G2 := by
  obtain ⟨xs, seed, o3, o5, o6, hδ, hG, hm, hs0, hs1⟩ := h
  subst hδ hG
  refine ⟨_, rfl, ?_⟩
  have hcell : ∃ cell : Int, sIf (ofRT (rTru (rVar 0)))
    (sAsg (ofR (rBin g_mod (rCal gInt (rCons (rBin ixA (rVar 0) (rBin g_mod (rCal gInt (rCons (rBin g_addA (rVar 5) (rC (.int 1))) rNil)) (rCal gLen (rCons (rVar 0) rNil)))) rNil)) (rC (.int 2147483647)))) (setN 6))
    FL.sNil [some (.scr ns), some (.int 260), some (.rf 0), o3, some (.int seed), some (.int (0 + (i : Int))), some (.int (0 + (i : Int)))] [.lst (xs.map .int)] = some (.nx, [some (.scr ns), some (.int 260), some (.rf 0), o3, some (.int seed), some (.int (0 + (i : Int))), some (.int cell)], [.lst (xs.map .int)]) := by
    cases ns with
    | nil => exact ⟨0 + (i : Int), (if_f (ofRT_of (tru_of (var_of rfl) rfl))).trans rfl⟩
    | cons x ns =>
      have hp : (0 : Int) < (x :: ns).length := by simp only [List.length_cons]; omega
      have h0 := Int.emod_nonneg (0 + (i : Int) + 1) (show ((x :: ns).length : Int) ≠ 0 by omega)
      have h1 := Int.emod_lt_of_pos (0 + (i : Int) + 1) hp
      have e : (x :: ns)[((0 + (i : Int) + 1) % ((x :: ns).length : Int)).toNat]? = some ((x :: ns)[((0 + (i : Int) + 1) % ((x :: ns).length : Int)).toNat]'(by omega)) := List.getElem?_eq_getElem (by omega)
      refine ⟨_, (if_t (ofRT_of (tru_of (var_of rfl) rfl))).trans (asg_of (ofR_of (bin_of (cal1_of (bin_of (var_of rfl) (bin_of (cal1_of (bin_of (var_of rfl) c_of (add_ii _ _)) rfl) (cal1_of (var_of rfl) (len_scr _)) (mod_ii _ _ hp)) ((ixA_scr _ _).trans (by rw [at_int _ h0, e]; rfl))) rfl) c_of (mod_ii _ _ (by decide)))) (by simp))⟩
  obtain ⟨cell, hcell⟩ := hcell
  have hn0 := Int.emod_nonneg (seed * 48271 + cell + (0 + (i : Int)) * 69621 + 13) (show (2147483647 : Int) ≠ 0 by decide)
  have hn1 := Int.emod_lt_of_pos (seed * 48271 + cell + (0 + (i : Int)) * 69621 + 13) (show (0 : Int) < 2147483647 by decide)
  refine ⟨_, _, (sq_nx (asg_of (ofR_of (var_of rfl)) (by simp))).trans ((sq_nx hcell).trans ((sq_nx (asg_of (ofR_of (bin_of (cal1_of (bin_of (bin_of (bin_of (bin_of (var_of rfl) c_of (mul_ii seed _ (by omega) (by decide))) (var_of rfl) (add_ii _ _)) (bin_of (var_of rfl) c_of (mul_ii (0 + (i : Int)) _ (by omega) (by decide))) (add_ii _ _)) c_of (add_ii _ _)) rfl) c_of (mod_ii _ _ (by decide)))) (by simp))).trans (exp_of (app_of (k := 0) (var_of rfl) rfl (econs1_of (ofR_of (bin_of (cal1_of (bin_of (bin_of (cal1_of (bin_of (bin_of (var_of rfl) c_of (mul_ii ((seed * 48271 + cell + (0 + (i : Int)) * 69621 + 13) % 2147483647) _ (by omega) (by decide))) c_of (add_ii _ _)) rfl) c_of (mod_ii _ _ (by decide))) c_of (div_ii _ _ (by decide +kernel))) rfl) c_of (mod_ii _ _ (by decide))))) rfl (by rw [List.length_map]; omega))))), xs ++ [((seed * 48271 + cell + (0 + (i : Int)) * 69621 + 13) % 2147483647 * 16807 + 54321) % 2147483647 / 7 % 1009], _, _, _, _, rfl, ?_, by simp; omega, hn0, hn1⟩
  · show [GO.lst (xs.map .int ++ [.int (((seed * 48271 + cell + (0 + (i : Int)) * 69621 + 13) % 2147483647 * 16807 + 54321) % 2147483647 / 7 % 1009)])] = _
    rw [List.map_append]
    rfl
theorem draws_P (ns : List Int) : ∃ xs : List Int, f__law_draws [.scr ns, .int 260] [] = some (.rf 0, [.lst (xs.map .int)]) := by
  have hbig : ∃ big : Int, rIf (rTru (rVar 0)) (rCal gAbs (rCons (rCal gInt (rCons (rBin ixA (rVar 0) (rC (.int 0))) rNil)) rNil)) (rC (.int 0)) [some (.scr ns), some (.int 260), some (.rf 0), none, none, none, none] [.lst []] = some (.int big) := by
    cases ns with
    | nil => exact ⟨0, (rif_f (tru_of (var_of rfl) rfl)).trans rfl⟩
    | cons x ns => exact ⟨_, (rif_t (tru_of (var_of rfl) rfl)).trans (cal1_of (cal1_of (bin_of (var_of rfl) c_of ((ixA_scr _ _).trans (by rw [at_0]; rfl))) rfl) rfl)⟩
  obtain ⟨big, hbig⟩ := hbig
  have t : rB (rBin g_geA (rVar 3) (rC (.int 1000000000000000000))) [some (.scr ns), some (.int 260), some (.rf 0), some (.int big), none, none, none] [.lst []] = some (decide (1000000000000000000 ≤ big)) := b_of (bin_of (var_of rfl) c_of (ge_ii _ _))
  have hif : ∃ (xs : List Int) (bq : Int) (o4 o5 o6 : Option D), sIf (ofRT (rB (rBin g_geA (rVar 3) (rC (.int 1000000000000000000)))))
   (sFor (ofRA (iRgR rng1 (rCons (rVar 1) rNil))) (setN 5)
    (sIf (ofRT (rB (rBin g_gtA (rVar 3) (rC (.int 0)))))
     (sSeq (sExp (eMet gAppend (rVar 2) (eCons (ofR (rBin g_mod (rCal gInt (rCons (rVar 3) rNil)) (rC (.int 1009)))) (ofRA rNil))))
     (sAsg (ofR (rBin g_div (rVar 3) (rC (.int 1009)))) (setN 3)))
     FL.sNil))
   FL.sNil [some (.scr ns), some (.int 260), some (.rf 0), some (.int big), none, none, none] [.lst []] = some (.nx, [some (.scr ns), some (.int 260), some (.rf 0), some (.int bq), o4, o5, o6], [.lst (xs.map .int)]) ∧ xs.length ≤ 260 := by
    by_cases hb : 1000000000000000000 ≤ big
    · rw [decide_eq_true hb] at t
      obtain ⟨δ', G', h1, xs, big', o4, o5, o6, rfl, rfl, hm⟩ := forL_fold (set := setN 5) (b := (sIf (ofRT (rB (rBin g_gtA (rVar 3) (rC (.int 0)))))
     (sSeq (sExp (eMet gAppend (rVar 2) (eCons (ofR (rBin g_mod (rCal gInt (rCons (rVar 3) rNil)) (rC (.int 1009)))) (ofRA rNil))))
     (sAsg (ofR (rBin g_div (rVar 3) (rC (.int 1009)))) (setN 3)))
     FL.sNil)) (fun i : Nat => D.int (0 + (i : Int))) (fun _ _ => ()) (DI1 ns) (List.range (260 : Int).toNat) () [some (.scr ns), some (.int 260), some (.rf 0), some (.int big), none, none, none] [.lst []] ⟨[], big, none, none, none, rfl, rfl, by simp⟩ fun i _ m u δ G h => draws1 ns i h
      exact ⟨xs, big', o4, o5, o6, (if_t (ofRT_of t)).trans ((for_nx (ofRA_of (rg1_of (j := 260) (var_of rfl) (by decide) (by decide)))).trans h1), by omega⟩
    · rw [decide_eq_false hb] at t
      exact ⟨[], big, none, none, none, (if_f (ofRT_of t)).trans rfl, by simp⟩
  obtain ⟨xs, big', o4, o5, o6, hif, hx⟩ := hif
  obtain ⟨δ', G', h1, xs', seed, o3, o5', o6', rfl, rfl, _⟩ := forL_fold (set := setN 5) (b := (sSeq (sAsg (ofR (rVar 5)) (setN 6))
   (sSeq (sIf (ofRT (rTru (rVar 0)))
    (sAsg (ofR (rBin g_mod (rCal gInt (rCons (rBin ixA (rVar 0) (rBin g_mod (rCal gInt (rCons (rBin g_addA (rVar 5) (rC (.int 1))) rNil)) (rCal gLen (rCons (rVar 0) rNil)))) rNil)) (rC (.int 2147483647)))) (setN 6))
    FL.sNil)
   (sSeq (sAsg (ofR (rBin g_mod (rCal gInt (rCons (rBin g_addA (rBin g_addA (rBin g_addA (rBin g_mulA (rVar 4) (rC (.int 48271))) (rVar 6)) (rBin g_mulA (rVar 5) (rC (.int 69621)))) (rC (.int 13))) rNil)) (rC (.int 2147483647)))) (setN 4))
   (sExp (eMet gAppend (rVar 2) (eCons (ofR (rBin g_mod (rCal gInt (rCons (rBin g_div (rBin g_mod (rCal gInt (rCons (rBin g_addA (rBin g_mulA (rVar 4) (rC (.int 16807))) (rC (.int 54321))) rNil)) (rC (.int 2147483647))) (rC (.int 7))) rNil)) (rC (.int 1009)))) (ofRA rNil)))))))) (fun i : Nat => D.int (0 + (i : Int))) (fun _ _ => ()) (DI2 ns) (List.range (260 - (xs.length : Int)).toNat) () [some (.scr ns), some (.int 260), some (.rf 0), some (.int big'), some (.int 4423), o5, o6] [.lst (xs.map .int)] ⟨xs, 4423, _, _, _, rfl, rfl, by rw [List.length_range]; omega, by decide, by decide⟩ fun i hi m u δ G h => draws2 ns i (by have := List.mem_range.mp hi; omega) h
  have h : b__law_draws (slots 7 [.scr ns, .int 260]) [] = some (.rt (.rf 1), [some (.scr ns), some (.int 260), some (.rf 0), o3, some (.int seed), o5', o6'], [.lst (xs'.map .int), .lst (xs'.map .int).reverse]) :=
    (sq_nx (asg_of (d := .rf 0) (G1 := [.lst []]) rfl (by show (2 : Nat) < 7; decide))).trans ((sq_nx (asg_of (ofR_of hbig) (by show (3 : Nat) < 7; decide))).trans ((sq_nx hif).trans ((sq_nx (asg_of (ofR_of c_of) (by simp))).trans ((sq_nx ((for_nx (ofRA_of (rg1_of (j := 260 - (xs.length : Int)) (bin_of (var_of rfl) (cal1_of (var_of rfl) ((len_rf (k := 0) (ds := xs.map .int) rfl).trans (by rw [List.length_map]))) (sub_ii _ _)) (by omega) (by omega)))).trans h1)).trans (ret_of rfl)))))
  refine ⟨xs'.reverse, ?_⟩
  show ((b__law_draws (slots 7 [.scr ns, .int 260]) []).bind _) = _
  rw [h]
  show gcD 0 (.rf 1) _ = _
  unfold gcD
  simp [D.im, GO.flat, ← List.map_reverse, ims_int]
end K44
namespace K44
open PySem PySem.Spec PyProof.Rows L2 FL
def OI (m : Nat) (k : Nat) (_ : Unit) (δ : Env') (G : Hs) : Prop := ∃ (xs left out : List Int) (o4 : Option D), δ = [some (.rf 0), some (.int m), some (.rf 1), some (.rf 2), o4] ∧ G = [.lst (xs.map .int), .lst (left.map .int), .lst (out.map .int)] ∧ left.length = k ∧ (out ++ left).Perm (upto m)
theorem upto_len (m : Nat) : (upto m).length = m := by simp [upto]
theorem order_step (m : Nat) (hm : m ≤ 10000) (i : Nat) {k : Nat} {u : Unit} {δ : Env'} {G : Hs} (h : OI m (k + 1) u δ G) : ∃ δ1, setN 4 (.int (0 + (i : Int))) δ = some δ1 ∧ ∃ δ2 G2, (sExp (eMet gAppend (rVar 3) (eCons (eMet gPopAt (rVar 2) (eCons (eCallB 2 f__law_take (eCons (ofR (rVar 0)) (eCons (ofR (rCal gLen (rCons (rVar 2) rNil))) (ofRA rNil)))) (ofRA rNil))) (ofRA rNil)))) δ1 G = some (.nx, δ2, G2) ∧ OI m k () δ2 G2 := by
  obtain ⟨xs, left, out, o4, hδ, hG, hl, hp⟩ := h
  subst hδ hG
  refine ⟨_, rfl, ?_⟩
  have hlen := hp.length_eq
  rw [List.length_append, upto_len] at hlen
  obtain ⟨r, xs', h1, h2, h3⟩ := tk_of (δ := [some (.rf 0), some (.int m), some (.rf 1), some (.rf 2), some (.int (0 + (i : Int)))]) (G := [.lst (xs.map .int), .lst (left.map .int), .lst (out.map .int)]) (k := 0) (fo := rVar 0) (fm := rCal gLen (rCons (rVar 2) rNil)) (xs := xs) (m := left.length) (var_of rfl) rfl (cal1_of (var_of rfl) ((len_rf (k := 1) (ds := left.map .int) rfl).trans (by rw [List.length_map]))) (by omega)
  have hr : r.toNat < left.length := by omega
  have hd : (left.map D.int)[r.toNat]? = some (.int left[r.toNat]) := by
    rw [List.getElem?_map, List.getElem?_eq_getElem hr]
    rfl
  refine ⟨_, _, exp_of (app_of (k := 2) (xs := out.map .int) (ys := out.map .int) (var_of rfl) rfl (econs1_of (popAt_of (k := 1) (var_of rfl) rfl (econs1_of h1) rfl (by omega) hd)) rfl (by rw [List.length_map]; omega)), xs', left.eraseIdx r.toNat, out ++ [left[r.toNat]], _, rfl, ?_, ?_, ?_⟩
  · show [GO.lst (xs'.map D.int), GO.lst ((left.map D.int).eraseIdx r.toNat), GO.lst (out.map D.int ++ [.int left[r.toNat]])] = _
    rw [erase_map, List.map_append]
    rfl
  · rw [List.length_eraseIdx_of_lt hr]
    omega
  · rw [List.append_assoc]
    exact ((cons_erase hr).append_left out).trans hp
theorem order_P (m : Nat) (hm : m ≤ 10000) (xs : List Int) : ∃ ord xs' : List Int, f__law_order [.rf 0, .int m] [.lst (xs.map .int)] = some (.rf 1, [.lst (xs'.map .int), .lst (ord.map .int)]) ∧ ord.Perm (upto m) := by
  obtain ⟨δ', G', h1, xs', left, out, o4, rfl, rfl, hl, hp⟩ := forL_fold (set := setN 4) (b := (sExp (eMet gAppend (rVar 3) (eCons (eMet gPopAt (rVar 2) (eCons (eCallB 2 f__law_take (eCons (ofR (rVar 0)) (eCons (ofR (rCal gLen (rCons (rVar 2) rNil))) (ofRA rNil)))) (ofRA rNil))) (ofRA rNil))))) (fun i : Nat => D.int (0 + (i : Int))) (fun _ _ => ()) (OI m) (List.range (m : Int).toNat) () [some (.rf 0), some (.int m), some (.rf 1), some (.rf 2), none] [.lst (xs.map .int), .lst ((upto m).map .int), .lst []] ⟨xs, upto m, [], none, rfl, rfl, by rw [upto_len, List.length_range, Int.toNat_natCast], List.Perm.refl _⟩ fun i _ k u δ G h => order_step m hm i h
  have hl : left = [] := List.eq_nil_of_length_eq_zero hl
  subst hl
  rw [List.append_nil] at hp
  refine ⟨out, xs', ?_, hp⟩
  have hr : rgL rng1 (rCons (rVar 1) rNil) (slots 5 [.rf 0, .int m]) [.lst (xs.map .int)] = some (.rf 1, [.lst (xs.map .int), .lst ((upto m).map .int)]) := by
    have e : rng1 [.int (m : Int)] = some ((upto m).map .int) := by
      show (if -1000000 ≤ (m : Int) ∧ (m : Int) ≤ 1000000 then some (rangeD 0 (m : Int).toNat) else none) = _
      rw [if_pos (by omega)]
      unfold rangeD upto
      rw [List.map_map, Int.toNat_natCast]
      congr 2
      funext i
      show D.int (0 + (i : Int)) = D.int (i : Int)
      rw [Int.zero_add]
    show ((rng1 [.int (m : Int)]).bind fun xs' => some (D.rf 1, [GO.lst (xs.map .int)] ++ [GO.lst xs'])) = _
    rw [e]
    rfl
  have h : b__law_order (slots 5 [.rf 0, .int m]) [.lst (xs.map .int)] = some (.rt (.rf 2), [some (.rf 0), some (.int m), some (.rf 1), some (.rf 2), o4], [.lst (xs'.map .int), .lst [], .lst (out.map .int)]) :=
    (sq_nx (asg_of hr (by show (2 : Nat) < 5; decide))).trans ((sq_nx (asg_of (d := .rf 2) (G1 := [.lst (xs.map .int), .lst ((upto m).map .int), .lst []]) rfl (by show (3 : Nat) < 5; decide))).trans ((sq_nx ((for_nx (ofRA_of (rg1_of (j := m) (var_of rfl) (by omega) (by omega)))).trans h1)).trans (ret_of (ofR_of (var_of rfl)))))
  show ((b__law_order (slots 5 [.rf 0, .int m]) [.lst (xs.map .int)]).bind _) = _
  rw [h]
  show gcD 1 (.rf 2) _ = _
  unfold gcD
  simp [D.im, GO.flat, ims_int]
end K44
namespace K44
open PySem PySem.Spec PyProof.Rows L2 FL
theorem sort_P {G : Hs} {d : D} {L : List (Int × Int)} (h : lstG G d = some (L.map eP)) (hl : L.length ≤ 1000000) : gSortedA G [d] = some (.fl ((L.mergeSort leP).map eP)) := by
  have so : sortable (L.map eP) = true := by
    unfold sortable
    simp only [List.all_map, Bool.and_eq_true, List.all_eq_true, Function.comp_apply, Bool.or_eq_true, decide_eq_true_eq, List.length_map]
    refine ⟨⟨⟨fun x _ y _ => alike_P x y, fun x _ => ⟨rfl, ?_⟩⟩, by omega⟩, .inl fun x _ => rfl⟩
    show (1 : Nat) ≤ 60
    decide
  have e : gSorted G [d] = some (.fl ((L.mergeSort leP).map eP)) := by
    unfold gSorted
    simp only [h, Option.bind_some]
    rw [if_pos so, srtd_P]
  show (match gSorted G [d] with | some d => some d | none => gSortedN G [d]) = _
  rw [e]
def mn (a b : Int) : Int := if b < a then b else a
def mx (a b : Int) : Int := if b > a then b else a
def og (ord : List Int) (i : Nat) : Int := ord.getD i 0
def fA (ord : List Int) (p : Nat × Nat) : Int × Int := (og ord p.1, og ord p.2)
def fT (ord : List Int) (p : Nat × Nat) : Int × Int := (mn (og ord p.1) (og ord p.2), mx (og ord p.1) (og ord p.2))
def prs (m i : Nat) : List (Nat × Nat) := (List.range (m - (i + 1))).map fun k => (i, i + 1 + k)
def allP (m : Nat) : List (Nat × Nat) := (List.range m).flatMap (prs m)
theorem ord_ix {G : Hs} {ord : List Int} (hG : G[1]? = some (.lst (ord.map .int))) {i : Nat} (hi : i < ord.length) {v : Int} (hv : v = i) : ixA G (.rf 1) (.int v) = some (.int (og ord i)) := by
  subst hv
  rw [ixA_rf _ hG, at_nat, List.getElem?_map]
  unfold og
  rw [List.getD_eq_getElem?_getD, List.getElem?_eq_getElem hi]
  rfl
theorem allP_nd {m : Nat} (hm : m ≤ 6) : (allP m).Nodup := by
  have : ∀ m < 7, (allP m).Nodup := by decide
  exact this m (by omega)
theorem allP_len {m : Nat} (hm : m ≤ 6) : (allP m).length ≤ 15 := by
  have : ∀ m < 7, (allP m).length ≤ 15 := by decide
  exact this m (by omega)
theorem allP_mem {m : Nat} {p : Nat × Nat} (h : p ∈ allP m) : p.1 < p.2 ∧ p.2 < m := by
  obtain ⟨i, hi, hp⟩ := List.mem_flatMap.mp h
  obtain ⟨k, hk, rfl⟩ := List.mem_map.mp hp
  have hi := List.mem_range.mp hi
  have hk := List.mem_range.mp hk
  simp only
  omega
theorem good_gen {m : Nat} (h2 : 2 ≤ m) (hm : m ≤ 6) {ord : List Int} (ho : ord.Perm (upto m)) {IA IT : List (Nat × Nat)} (pos0 : Nat → Nat) (memA : ∀ p ∈ IA, p.1 < m ∧ p.2 < m ∧ pos0 p.1 < pos0 p.2) (memT : ∀ p ∈ IT, p.1 < p.2 ∧ p.2 < m) (nA : IA.Nodup) (nT : IT.Nodup) (lA : IA.length ≤ 15) (lT : IT.length ≤ 6) : Good m ((IA.map (fA ord)).mergeSort leP) ((IT.map (fT ord)).mergeSort leP) := by
  have ol : ord.length = m := by rw [ho.length_eq, upto_len]
  have ond : ord.Nodup := ho.nodup_iff.mpr (upto_nd m)
  have og_eq : ∀ i (h : i < m), og ord i = ord[i]'(by omega) := fun i h => by
    unfold og
    rw [List.getD_eq_getElem?_getD, List.getElem?_eq_getElem (by omega)]
    rfl
  have og_rg : ∀ i < m, 0 ≤ og ord i ∧ og ord i < m := fun i h => by
    rw [og_eq i h]
    exact mem_upto.mp (ho.mem_iff.mp (List.getElem_mem _))
  have og_inj : ∀ i < m, ∀ j < m, og ord i = og ord j → i = j := fun i hi j hj e => by
    rw [og_eq i hi, og_eq j hj] at e
    exact (List.getElem_inj ond).mp e
  have ndA : (IA.map (fA ord)).Nodup := nodup_map (fun x hx y hy e => by
    have h1 := memA x hx
    have h2 := memA y hy
    simp only [fA, Prod.mk.injEq] at e
    exact Prod.ext (og_inj _ (by omega) _ (by omega) e.1) (og_inj _ (by omega) _ (by omega) e.2)) nA
  have ndT : (IT.map (fT ord)).Nodup := nodup_map (fun x hx y hy e => by
    have h1 := memT x hx
    have h2 := memT y hy
    have i1 := og_inj x.1 (by omega) y.1 (by omega)
    have i2 := og_inj x.2 (by omega) y.2 (by omega)
    have i3 := og_inj x.1 (by omega) y.2 (by omega)
    have i4 := og_inj x.2 (by omega) y.1 (by omega)
    simp only [fT, Prod.mk.injEq, mn, mx] at e
    have key : (og ord x.1 = og ord y.1 ∧ og ord x.2 = og ord y.2) ∨ (og ord x.1 = og ord y.2 ∧ og ord x.2 = og ord y.1) := by
      revert e
      generalize og ord x.1 = a
      generalize og ord x.2 = b
      generalize og ord y.1 = c
      generalize og ord y.2 = d
      intro e
      omega
    rcases key with ⟨k1, k2⟩ | ⟨k1, k2⟩
    · exact Prod.ext (i1 k1) (i2 k2)
    · have := i3 k1
      have := i4 k2
      omega) nT
  refine ⟨h2, hm, sort_lt ndA, sort_lt ndT, fun p hp => ?_, fun p hp => ?_, ?_, ?_, ?_⟩
  · obtain ⟨q, hq, rfl⟩ := List.mem_map.mp ((sort_perm _).mem_iff.mp hp)
    have h1 := memA q hq
    have r1 := og_rg q.1 (by omega)
    have r2 := og_rg q.2 (by omega)
    exact ⟨r1.1, r1.2, r2.1, r2.2, fun e => by have := og_inj _ (by omega) _ (by omega) e; rw [this] at h1; omega⟩
  · obtain ⟨q, hq, rfl⟩ := List.mem_map.mp ((sort_perm _).mem_iff.mp hp)
    have h1 := memT q hq
    have r1 := og_rg q.1 (by omega)
    have r2 := og_rg q.2 (by omega)
    have ne : og ord q.1 ≠ og ord q.2 := fun e => by have := og_inj _ (by omega) _ (by omega) e; omega
    simp only [fT, mn, mx]
    revert r1 r2 ne
    generalize og ord q.1 = a
    generalize og ord q.2 = b
    intro r1 r2 ne
    omega
  · rw [List.length_mergeSort, List.length_map]
    exact lA
  · rw [List.length_mergeSort, List.length_map]
    exact lT
  · refine ⟨fun v => pos0 (List.idxOf v ord), fun p hp => ?_⟩
    obtain ⟨q, hq, rfl⟩ := List.mem_map.mp ((sort_perm _).mem_iff.mp hp)
    have h1 := memA q hq
    simp only [fA]
    rw [og_eq q.1 (by omega), og_eq q.2 (by omega), ond.idxOf_getElem, ond.idxOf_getElem]
    exact h1.2.2
def nP (p : Nat × Nat) : Int × Int := (p.1, p.2)
theorem og_ix {G : Hs} {ord : List Int} {i : Nat} (hi : i < ord.length) : ixA G (.fl (ord.map .int)) (.int (i : Int)) = some (.int (og ord i)) := by
  rw [ixA_fl, at_nat, List.getElem?_map, List.getElem?_eq_getElem hi]
  unfold og
  rw [List.getD_eq_getElem?_getD, List.getElem?_eq_getElem hi]
  rfl

def WB (m : Nat) (th : Int) (ord : List Int) (o5 : Option (Option D)) (done : List (Nat × Nat)) (δ : Env') (G : Hs) : Prop :=
  ∃ (xs : List Int) (IA : List (Nat × Nat)) (o5' o6 : Option D), δ = [some (.rf 0), some (.int m), some (.int th), some (.rf 1), some (.rf 2), o5', o6] ∧ (∀ o, o5 = some o → o = o5') ∧ G = [.lst (xs.map .int), .lst (ord.map .int), .lst ((IA.map (fA ord)).map eP)] ∧ IA.Sublist done
abbrev innB : SS := (sIf (eB (eBin g_ltA (eCallB 2 f__law_take (eCons (ofR (rVar 0)) (eCons (ofR (rC (.int 8))) (ofRA rNil)))) (ofR (rVar 2))))
     (sExp (eMet gAppend (rVar 4) (eCons (ofR (rTup (rCons (rBin ixA (rVar 3) (rVar 5)) (rCons (rBin ixA (rVar 3) (rVar 6)) rNil)))) (ofRA rNil))))
     FL.sNil)
abbrev outB : SS := (sFor (ofRA (iRgR rng2 (rCons (rBin g_addA (rVar 5) (rC (.int 1))) (rCons (rVar 1) rNil)))) (setN 6) innB)
theorem pair_step {m : Nat} {th : Int} {ord : List Int} (hm : m ≤ 6) (ho : ord.length = m) {i j : Nat} (hij : i < m ∧ j < m) {done : List (Nat × Nat)} (hd : done.length ≤ 1000) {δ : Env'} {G : Hs} {vj : Int} (hvj : vj = j) (h : WB m th ord (some (some (.int (0 + (i : Int))))) done δ G) :
    ∃ δ1, setN 6 (.int vj) δ = some δ1 ∧ ∃ δ2 G2, innB δ1 G = some (.nx, δ2, G2) ∧ WB m th ord (some (some (.int (0 + (i : Int))))) (done ++ [(i, j)]) δ2 G2 := by
  obtain ⟨xs, IA, o5', o6, hδ, h5, hG, sA⟩ := h
  have h5 := h5 _ rfl
  subst hδ hG h5 hvj
  have lA := sA.length_le
  refine ⟨_, rfl, ?_⟩
  have s0 : ∀ {I : List (Nat × Nat)}, I.Sublist done → I.Sublist (done ++ [(i, j)]) := fun h => h.trans (List.sublist_append_left _ _)
  have s1 : ∀ {I : List (Nat × Nat)}, I.Sublist done → (I ++ [(i, j)]).Sublist (done ++ [(i, j)]) := fun h => h.append (List.Sublist.refl _)
  obtain ⟨r, xs', h1, _, _⟩ := tk_of (δ := [some (.rf 0), some (.int m), some (.int th), some (.rf 1), some (.rf 2), some (.int (0 + (i : Int))), some (.int (j : Int))]) (G := [.lst (xs.map .int), .lst (ord.map .int), .lst ((IA.map (fA ord)).map eP)]) (k := 0) (fo := rVar 0) (fm := rC (.int 8)) (xs := xs) (m := 8) (var_of rfl) rfl c_of (by decide)
  have t := eb_of (ebin_of h1 (ofR_of (var_of (i := 2) (d := .int th) rfl)) (lt_ii r th))
  by_cases hc : r < th
  · rw [decide_eq_true hc] at t
    refine ⟨_, _, (if_t t).trans (exp_of (app_of (k := 2) (d := eP (fA ord (i, j))) (var_of rfl) rfl (econs1_of (ofR_of (tup_of (cons_of (bin_of (var_of rfl) (var_of rfl) (ord_ix rfl (by omega) (by omega))) (cons_of (bin_of (var_of rfl) (var_of rfl) (ord_ix rfl (by omega) rfl)) nil_of)) (by simp)))) rfl (by simp only [List.length_map]; omega))), xs', IA ++ [(i, j)], _, _, rfl, fun o ho => (Option.some.inj ho).symm, ?_, s1 sA⟩
    rw [List.map_append, List.map_append]
    rfl
  · rw [decide_eq_false hc] at t
    exact ⟨_, _, (if_f t).trans rfl, xs', IA, _, _, rfl, fun o ho => (Option.some.inj ho).symm, rfl, s0 sA⟩
theorem row_step {m : Nat} {th : Int} {ord : List Int} (hm : m ≤ 6) (ho : ord.length = m) {i : Nat} (hi : i < m) {done : List (Nat × Nat)} (hd : done.length + 6 ≤ 900) {δ : Env'} {G : Hs} (h : WB m th ord none done δ G) :
    ∃ δ1, setN 5 (.int (0 + (i : Int))) δ = some δ1 ∧ ∃ δ2 G2, outB δ1 G = some (.nx, δ2, G2) ∧ WB m th ord none (done ++ prs m i) δ2 G2 := by
  obtain ⟨xs, IA, o5, o6, hδ, _, hG, sA⟩ := h
  subst hδ hG
  refine ⟨_, rfl, ?_⟩
  obtain ⟨δ2, G2, h1, h2, _⟩ := forL_fold (set := setN 6) (b := innB) (fun k : Nat => D.int (0 + (i : Int) + 1 + (k : Int))) (fun (d : List (Nat × Nat)) k => d ++ [(i, i + 1 + k)]) (fun k d δ G => WB m th ord (some (some (.int (0 + (i : Int))))) d δ G ∧ d.length + k ≤ 900) (List.range ((m : Int) - (0 + (i : Int) + 1)).toNat) done
    [some (.rf 0), some (.int m), some (.int th), some (.rf 1), some (.rf 2), some (.int (0 + (i : Int))), o6] [.lst (xs.map .int), .lst (ord.map .int), .lst ((IA.map (fA ord)).map eP)] ⟨⟨xs, IA, _, _, rfl, fun o ho => (Option.some.inj ho).symm, rfl, sA⟩, by rw [List.length_range]; omega⟩ (fun k hk n d δ G ⟨h, hl⟩ => by
      have hk := List.mem_range.mp hk
      obtain ⟨δ1, e1, δ2, G2, e2, e3⟩ := pair_step hm ho (i := i) (j := i + 1 + k) ⟨hi, by omega⟩ (by omega) (vj := 0 + (i : Int) + 1 + (k : Int)) (by omega) h
      exact ⟨δ1, e1, δ2, G2, e2, e3, by rw [List.length_append, List.length_singleton]; omega⟩)
  have e : (List.range ((m : Int) - (0 + (i : Int) + 1)).toNat).foldl (fun (d : List (Nat × Nat)) k => d ++ [(i, i + 1 + k)]) done = done ++ prs m i := by
    rw [foldl_flat (fun k => [(i, i + 1 + k)])]
    unfold prs
    rw [show ((m : Int) - (0 + (i : Int) + 1)).toNat = m - (i + 1) by omega]
    congr 1
    generalize List.range (m - (i + 1)) = l
    induction l with
    | nil => rfl
    | cons x l ih => rw [List.flatMap_cons, ih]; rfl
  rw [e] at h2
  obtain ⟨xs', IA', o5', o6', rfl, _, rfl, sA'⟩ := h2
  exact ⟨_, _, (for_nx (ofRA_of (rg2_of (i := 0 + (i : Int) + 1) (j := m) (bin_of (var_of rfl) c_of (add_ii _ _)) (var_of rfl) (by omega) (by omega) (by omega)))).trans h1, xs', IA', o5', o6', rfl, fun o ho => (by cases ho), rfl, sA'⟩
def eU (n : Nat) (A : List (Int × Int)) : D := .tup [.int n, .tup (A.map eP)]
theorem eU_im (n : Nat) (A : List (Int × Int)) : (eU n A).im = true := by simp [eU, D.im, ims, ims_map eP_im]
theorem gtup_fl {G : Hs} (ds : List D) : gTuple G [.fl ds] = some (.tup ds) := rfl
theorem plain_P {m : Nat} (h2 : 2 ≤ m) (hm : m ≤ 6) (th : Int) (xs : List Int) : ∃ (A : List (Int × Int)) (xs' : List Int), f__law_plain [.rf 0, .int m, .int th] [.lst (xs.map .int)] = some (eU m A, [.lst (xs'.map .int)]) ∧ Good m A [] := by
  obtain ⟨ord, xs1, ho, hp⟩ := order_P m (by omega) xs
  have ol : ord.length = m := by rw [hp.length_eq, upto_len]
  obtain ⟨δ2, G2, h1, ⟨xs', IA, o5, o6, rfl, _, rfl, sA⟩, _⟩ := forL_fold (set := setN 5) (b := outB) (fun i : Nat => D.int (0 + (i : Int))) (fun d i => d ++ prs m i) (fun k d δ G => WB m th ord none d δ G ∧ d.length + 5 * k ≤ 50) (List.range (m : Int).toNat) []
    [some (.rf 0), some (.int m), some (.int th), some (.rf 1), some (.rf 2), none, none] [.lst (xs1.map .int), .lst (ord.map .int), .lst []] ⟨⟨xs1, [], _, _, rfl, fun o ho => (by cases ho), rfl, List.Sublist.refl _⟩, by rw [List.length_range]; simp; omega⟩ (fun i hi k d δ G ⟨h, hl⟩ => by
      have hi := List.mem_range.mp hi
      obtain ⟨δ1, e1, δ2, G2, e2, e3⟩ := row_step hm ol (i := i) (by omega) (by omega) h
      have : (prs m i).length ≤ 5 := by
        unfold prs
        rw [List.length_map, List.length_range]
        omega
      exact ⟨δ1, e1, δ2, G2, e2, e3, by rw [List.length_append]; omega⟩)
  have e : (List.range (m : Int).toNat).foldl (fun d i => d ++ prs m i) [] = allP m := by
    rw [foldl_flat (prs m), List.nil_append, Int.toNat_natCast]
    rfl
  rw [e] at sA
  have lA := Nat.le_trans sA.length_le (allP_len hm)
  refine ⟨(IA.map (fA ord)).mergeSort leP, xs', ?_, by
    have := good_gen h2 hm hp (IA := IA) (IT := []) id (fun p hp => by have := allP_mem (sA.subset hp); exact ⟨by omega, by omega, this.1⟩) (fun p hp => by cases hp) ((allP_nd hm).sublist sA) List.nodup_nil lA (by simp)
    simpa using this⟩
  have hcall : eCallB 2 f__law_order (eCons (ofR (rVar 0)) (eCons (ofR (rVar 1)) (ofRA rNil))) (slots 7 [.rf 0, .int m, .int th]) [.lst (xs.map .int)] = some (.rf 1, [.lst (xs1.map .int), .lst (ord.map .int)]) :=
    callB_new (k := 0) (o := .lst (xs.map .int)) (econs_of (ofR_of (var_of rfl)) (econs_of (ofR_of (var_of rfl)) enil_of)) rfl rfl rfl (flat_int _) ho (flat_int _) (flat_int _)
  have h : b__law_plain (slots 7 [.rf 0, .int m, .int th]) [.lst (xs.map .int)] = some (.rt (eU m ((IA.map (fA ord)).mergeSort leP)), [some (.rf 0), some (.int m), some (.int th), some (.rf 1), some (.rf 2), o5, o6], [.lst (xs'.map .int), .lst (ord.map .int), .lst ((IA.map (fA ord)).map eP)]) :=
    (sq_nx (asg_of hcall (by show (3 : Nat) < 7; decide))).trans ((sq_nx (asg_of (d := .rf 2) (G1 := [.lst (xs1.map .int), .lst (ord.map .int), .lst []]) rfl (by show (4 : Nat) < 7; decide))).trans ((sq_nx ((for_nx (ofRA_of (rg1_of (j := m) (var_of rfl) (by omega) (by omega)))).trans h1)).trans
      (ret_of (ofR_of (tup_of (cons_of (var_of rfl) (cons_of (cal1_of (cal1_of (var_of rfl) (sort_P (L := IA.map (fA ord)) rfl (by rw [List.length_map]; omega))) (gtup_fl _)) nil_of)) (by simp))))))
  show ((b__law_plain (slots 7 [.rf 0, .int m, .int th]) [.lst (xs.map .int)]).bind _) = _
  rw [h]
  show gcD 1 (eU m _) _ = _
  unfold gcD
  simp [eU_im, GO.flat, ims_int]
end K44
namespace K44
open PySem PySem.Spec PyProof.Rows L2 FL

structure Fm where
  m : Nat
  a : List (Nat × Nat)
  pos : List Nat
def FORMS : List Fm :=
  [⟨4, [(0, 2), (1, 2), (2, 3)], [0, 1, 2, 3, 4, 5]⟩, ⟨5, [(0, 2), (1, 2), (2, 3), (3, 4)], [0, 1, 2, 3, 4, 5]⟩, ⟨5, [(0, 2), (1, 2), (2, 3), (2, 4), (3, 4)], [0, 1, 2, 3, 4, 5]⟩,
   ⟨6, [(0, 2), (1, 2), (2, 3), (3, 4), (4, 5)], [0, 1, 2, 3, 4, 5]⟩, ⟨6, [(0, 2), (1, 2), (2, 3), (3, 4), (2, 5), (5, 4)], [0, 1, 2, 3, 5, 4]⟩, ⟨4, [(0, 1), (0, 2), (0, 3), (1, 3), (2, 3)], [0, 1, 2, 3, 4, 5]⟩,
   ⟨5, [(0, 1), (0, 2), (0, 3), (1, 3), (2, 3), (3, 4)], [0, 1, 2, 3, 4, 5]⟩, ⟨5, [(0, 2), (1, 2), (2, 3), (0, 3), (1, 3), (3, 4)], [0, 1, 2, 3, 4, 5]⟩, ⟨6, [(0, 2), (1, 2), (2, 4), (3, 4), (4, 5), (2, 5)], [0, 1, 2, 3, 4, 5]⟩]
def Fm.ok (f : Fm) : Bool := decide (2 ≤ f.m ∧ f.m ≤ 6) && (f.a.all fun p => decide (p.1 < f.m ∧ p.2 < f.m ∧ f.pos.getD p.1 0 < f.pos.getD p.2 0)) && decide f.a.Nodup && decide (f.a.length ≤ 15)
def eF (f : Fm) : D := .tup [.int f.m, .fl (f.a.map fun p => eP (nP p))]
theorem forms_ok : FORMS.all Fm.ok = true := by decide +kernel
abbrev restB : SS :=
  (sSeq (sAsg (eCallB 2 f__law_take (eCons (ofR (rVar 0)) (eCons (ofR (rC (.int 12))) (ofRA rNil)))) (setN 2))
  (sSeq (sIf (ofRT (rB (rBin g_geA (rVar 2) (rCal gLen (rCons (rVar 1) rNil)))))
   (sRet (eCallB 3 f__law_plain (eCons (ofR (rVar 0)) (eCons (eBin g_addA (ofR (rC (.int 4))) (eCallB 2 f__law_take (eCons (ofR (rVar 0)) (eCons (ofR (rC (.int 3))) (ofRA rNil))))) (eCons (eBin g_addA (ofR (rC (.int 2))) (eCallB 2 f__law_take (eCons (ofR (rVar 0)) (eCons (ofR (rC (.int 3))) (ofRA rNil))))) (ofRA rNil))))))
   FL.sNil)
  (sSeq (sAsg (ofR (rBin ixA (rVar 1) (rVar 2))) (setTup [(setN 4), (setN 5)]))
  (sSeq (sFrz 3 (sAsg (eCallB 2 f__law_order (eCons (ofR (rVar 0)) (eCons (ofR (rVar 4)) (ofRA rNil)))) (setN 3)))
  (sRet (ofR (rTup (rCons (rVar 4) (rCons (rCal gTuple (rCons (rCal gSortedA (rCons (rLc (iLstR (rVar 5)) (setTup [(setN 6), (setN 7)]) cYes (rTup (rCons (rBin ixA (rVar 3) (rVar 6)) (rCons (rBin ixA (rVar 3) (rVar 7)) rNil))) [6, 7]) rNil)) rNil)) rNil)))))))))
theorem case_pre (xs : List Int) : b__law_case (slots 8 [.rf 0]) [.lst (xs.map .int)] = restB [some (.rf 0), some (.rf 1), none, none, none, none, none, none] [.lst (xs.map .int), .lst (FORMS.map eF)] := by kernel_rfl
theorem case_P (xs : List Int) : ∃ (n : Nat) (A : List (Int × Int)) (xs' : List Int), f__law_case [.rf 0] [.lst (xs.map .int)] = some (eU n A, [.lst (xs'.map .int)]) ∧ Good n A [] := by
  have fin : ∀ (n : Nat) (A : List (Int × Int)) (xs' : List Int) (δ : Env') (tl : Hs), restB [some (.rf 0), some (.rf 1), none, none, none, none, none, none] [.lst (xs.map .int), .lst (FORMS.map eF)] = some (.rt (eU n A), δ, .lst (xs'.map .int) :: tl) → f__law_case [.rf 0] [.lst (xs.map .int)] = some (eU n A, [.lst (xs'.map .int)]) := fun n A xs' δ tl h => by
    unfold f__law_case fnB
    rw [case_pre, h]
    show gcD 1 (eU n A) _ = _
    unfold gcD
    simp [eU_im, GO.flat, ims_int]
  generalize eL : (GO.lst (FORMS.map eF)) = gF at fin
  obtain ⟨r, xs1, e1, r0, r1⟩ := tk_of (δ := [some (.rf 0), some (.rf 1), none, none, none, none, none, none]) (G := [.lst (xs.map .int), gF]) (k := 0) (fo := rVar 0) (fm := rC (.int 12)) (xs := xs) (m := 12) (var_of rfl) rfl c_of (by decide)
  have hlen : FORMS.length = 9 := rfl
  have t : rB (rBin g_geA (rVar 2) (rCal gLen (rCons (rVar 1) rNil))) [some (.rf 0), some (.rf 1), some (.int r), none, none, none, none, none] [.lst (xs1.map .int), gF] = some (decide (9 ≤ r)) :=
    b_of (bin_of (var_of rfl) (cal1_of (var_of rfl) ((len_rf (k := 1) (ds := FORMS.map eF) (by rw [← eL]; rfl)).trans (by rw [List.length_map, hlen]; rfl))) (ge_ii _ _))
  by_cases hr : 9 ≤ r
  · rw [decide_eq_true hr] at t
    obtain ⟨q, xs2, e2, q0, q1⟩ := tk_of (δ := [some (.rf 0), some (.rf 1), some (.int r), none, none, none, none, none]) (G := [.lst (xs1.map .int), gF]) (k := 0) (fo := rVar 0) (fm := rC (.int 3)) (xs := xs1) (m := 3) (var_of rfl) rfl c_of (by decide)
    obtain ⟨m, hm⟩ : ∃ m : Nat, 4 + q = (m : Int) := ⟨(4 + q).toNat, by omega⟩
    have e3 := ebin_of (ofR_of (δ := [some (.rf 0), some (.rf 1), some (.int r), none, none, none, none, none]) (G := [.lst (xs1.map .int), gF]) (c_of (d := .int 4))) e2 ((add_ii _ _).trans (by rw [hm]))
    obtain ⟨th, xs3, e4, _, _⟩ := tk_of (δ := [some (.rf 0), some (.rf 1), some (.int r), none, none, none, none, none]) (G := [.lst (xs2.map .int), gF]) (k := 0) (fo := rVar 0) (fm := rC (.int 3)) (xs := xs2) (m := 3) (var_of rfl) rfl c_of (by decide)
    obtain ⟨A, xs4, e6, g⟩ := plain_P (m := m) (by omega) (by omega) (2 + th) xs3
    refine ⟨m, A, xs4, fin m A xs4 _ [gF] ((sq_nx (asg_of e1 (by show (2 : Nat) < 8; decide))).trans (sq_rt ((if_t (ofRT_of t)).trans (ret_of (callB_of (k := 0) (o := .lst (xs3.map .int)) (econs_of (ofR_of (var_of rfl)) (econs_of e3 (econs_of (ebin_of (ofR_of c_of) e4 (add_ii _ _)) enil_of))) rfl rfl rfl (flat_int _) e6 (flat_int _) (eU_im _ _)))))), g⟩
  · rw [decide_eq_false hr] at t
    obtain ⟨f, hf, hix⟩ : ∃ f ∈ FORMS, ixA [.lst (xs1.map .int), gF] (.rf 1) (.int r) = some (eF f) := by
      have hl : r.toNat < FORMS.length := by show r.toNat < 9; omega
      exact ⟨FORMS[r.toNat], List.getElem_mem _, (ixA_rf (ds := FORMS.map eF) _ (by rw [← eL]; rfl)).trans (by rw [at_int _ r0, List.getElem?_map, List.getElem?_eq_getElem hl]; rfl)⟩
    have ok := List.all_eq_true.mp forms_ok f hf
    unfold Fm.ok at ok
    simp only [Bool.and_eq_true, decide_eq_true_eq, List.all_eq_true] at ok
    obtain ⟨⟨⟨hm, oA⟩, oN⟩, oL⟩ := ok
    obtain ⟨ord, xs2, e7, hp⟩ := order_P f.m (by omega) xs1
    have ol : ord.length = f.m := by rw [hp.length_eq, upto_len]
    have e5 : sAsg (ofR (rBin ixA (rVar 1) (rVar 2))) (setTup [(setN 4), (setN 5)]) [some (.rf 0), some (.rf 1), some (.int r), none, none, none, none, none] [.lst (xs1.map .int), gF] = some (.nx, [some (.rf 0), some (.rf 1), some (.int r), none, some (.int f.m), some (.fl (f.a.map fun p => eP (nP p))), none, none], [.lst (xs1.map .int), gF]) :=
      asgT_of (ofR_of (bin_of (var_of rfl) (var_of rfl) hix)) (by show (4 : Nat) < 8; decide) (by show (5 : Nat) < 8; decide)
    have e8 : sAsg (eCallB 2 f__law_order (eCons (ofR (rVar 0)) (eCons (ofR (rVar 4)) (ofRA rNil)))) (setN 3) [some (.rf 0), some (.rf 1), some (.int r), none, some (.int f.m), some (.fl (f.a.map fun p => eP (nP p))), none, none] [.lst (xs1.map .int), gF] = some (.nx, [some (.rf 0), some (.rf 1), some (.int r), some (.rf 2), some (.int f.m), some (.fl (f.a.map fun p => eP (nP p))), none, none], [.lst (xs2.map .int), gF, .lst (ord.map .int)]) :=
      asg_of (callB_new (k := 0) (o := .lst (xs1.map .int)) (econs_of (ofR_of (var_of rfl)) (econs_of (ofR_of (var_of rfl)) enil_of)) rfl rfl rfl (flat_int _) e7 (flat_int _) (flat_int _)) (by show (3 : Nat) < 8; decide)
    have e9 := frz_of (i := 3) (k := 2) (ds := ord.map .int) e8 rfl rfl
    have elc : ∀ G, rLc (iLstR (rVar 5)) (setTup [(setN 6), (setN 7)]) cYes (rTup (rCons (rBin ixA (rVar 3) (rVar 6)) (rCons (rBin ixA (rVar 3) (rVar 7)) rNil))) [6, 7] [some (.rf 0), some (.rf 1), some (.int r), some (.fl (ord.map .int)), some (.int f.m), some (.fl (f.a.map fun p => eP (nP p))), none, none] G = some (.fl ((f.a.map (fA ord)).map eP)) := fun G => by
      refine (rlc_of (fun p => eP (nP p)) (fun p => [some (.rf 0), some (.rf 1), some (.int r), some (.fl (ord.map .int)), some (.int f.m), some (.fl (f.a.map fun p => eP (nP p))), some (.int (p.1 : Nat)), some (.int (p.2 : Nat))]) (fun _ => true) (fun p => eP (fA ord p)) f.a (ilst_of (var_of rfl) rfl) (by omega) fun p hp => ⟨rfl, rfl, fun _ => ?_⟩).trans ?_
      · have := oA p hp
        exact tup_of (cons_of (bin_of (var_of rfl) (var_of rfl) (og_ix (by omega))) (cons_of (bin_of (var_of rfl) (var_of rfl) (og_ix (by omega))) nil_of)) (by simp)
      · rw [List.filter_eq_self.mpr (fun _ _ => rfl), List.map_map]
        rfl
    refine ⟨f.m, (f.a.map (fA ord)).mergeSort leP, xs2, fin _ _ xs2 _ [gF, .dead] ((sq_nx (asg_of e1 (by show (2 : Nat) < 8; decide))).trans ((sq_nx ((if_f (ofRT_of t)).trans rfl)).trans ((sq_nx e5).trans ((sq_nx e9).trans
      (ret_of (ofR_of (tup_of (cons_of (var_of rfl) (cons_of (cal1_of (cal1_of (elc _) (sort_P (L := f.a.map (fA ord)) rfl (by rw [List.length_map]; omega))) (gtup_fl _)) nil_of)) (by simp)))))))), ?_⟩
    have := good_gen hm.1 hm.2 hp (IA := f.a) (IT := []) (fun v => f.pos.getD v 0) (fun p hp => oA p hp) (fun p hp => by cases hp) oN List.nodup_nil oL (by simp)
    simpa using this
theorem law_web_P {n : Nat} {A : List (Int × Int)} (g : Good n A []) : f__law_web [eU n A] = some (eM n A []) :=
  fnP_of (ret_of (ofR_of (callP_of (ds := [.int n, .tup (A.map eP), .tup (([] : List (Int × Int)).map eP)]) (cons_of (bin_of (var_of rfl) c_of ((ixA_tup _ _).trans (at_0 _ _))) (cons_of (bin_of (var_of rfl) c_of ((ixA_tup _ _).trans (at_1 _ _ _))) (cons_of (tup_of nil_of (by simp)) nil_of))) (by simp [ims, D.im, ims_map eP_im]) rfl (web_P g)))) (eM_im _ _ _)
end K44
namespace FL
open PySem PySem.Spec PyProof.Rows L2
/-- sorted of data that may be compared: some order of it -/
theorem sort_any {α : Type} {e : α → D} {G : Hs} {d : D} {L : List α} (h : lstG G d = some (L.map e)) (so : sortable (L.map e) = true) : ∃ L' : List α, L'.Perm L ∧ gSortedA G [d] = some (.fl (L'.map e)) := by
  refine ⟨L.mergeSort (fun x y => !(ltb (e y) (e x))), List.mergeSort_perm _ _, ?_⟩
  have e2 : gSorted G [d] = some (.fl ((L.mergeSort (fun x y => !(ltb (e y) (e x)))).map e)) := by
    unfold gSorted
    simp only [h, Option.bind_some]
    rw [if_pos so]
    unfold srtd
    rw [← List.map_mergeSort]
    intro x _ y _
    rfl
  show (match gSorted G [d] with | some d => some d | none => gSortedN G [d]) = _
  rw [e2]
end FL
namespace K44
open PySem PySem.Spec PyProof.Rows L2 FL
abbrev Pq := Int × Int
abbrev Tr := Int × Int × Int
def eV (t : Tr) : D := .tup [.int t.1, .int t.2.1, .int t.2.2]
theorem eV_im (t : Tr) : (eV t).im = true := rfl
theorem eV_ok (t : Tr) : (eV t).ok = true := rfl
theorem eqb_V (p q : Tr) : eqb (eV p) (eV q) = decide (p = q) := by
  obtain ⟨a, b, c⟩ := p
  obtain ⟨x, y, z⟩ := q
  simp only [eqb, eV, D.py, pys, PyData.eqv, PyData.eqvAll]
  by_cases h1 : a = x <;> by_cases h2 : b = y <;> by_cases h3 : c = z <;> simp [h1, h2, h3]
theorem in_V {G : Hs} {y : D} {L : List Tr} {p : Tr} (hs : seqG G y = some (L.map eV)) (neg : Bool) : fIn neg G (eV p) y = some (.bl (if neg = true then !decide (p ∈ L) else decide (p ∈ L))) := by
  have hd := deps_map (e := eV) (n := 1) (fun _ => Nat.le_refl _) L
  rw [in_of hs (eV_ok p) (oks_map eV_ok L) (by show (1 : Nat) ≤ 60; decide) (by omega) neg, inB_map (fun x => eqb_V x p)]
  congr 2
  cases neg <;> simp
theorem sortable_V (L : List Tr) (hl : L.length ≤ 1000000) : sortable (L.map eV) = true := by
  unfold sortable
  simp only [List.all_map, Bool.and_eq_true, List.all_eq_true, Function.comp_apply, Bool.or_eq_true, decide_eq_true_eq, List.length_map]
  refine ⟨⟨⟨fun x _ y _ => ?_, fun x _ => ⟨rfl, ?_⟩⟩, by omega⟩, .inl fun x _ => rfl⟩
  · rfl
  · show (1 : Nat) ≤ 60
    decide
/-- joined -/
def J (A : List Pq) (x y : Int) : Bool := decide ((x, y) ∈ A) || decide ((y, x) ∈ A)
def jn (p : Pq) : Pq := (min p.1 p.2, max p.1 p.2)
theorem min_P {G : Hs} (p : Pq) : gMinT G [eP p] = some (.int (min p.1 p.2)) := rfl
theorem max_P {G : Hs} (p : Pq) : gMaxT G [eP p] = some (.int (max p.1 p.2)) := rfl
def JL (A : List Pq) : List Pq := (A.map jn).mergeSort leP
theorem JL_len (A : List Pq) : (JL A).length = A.length := by unfold JL; rw [List.length_mergeSort, List.length_map]
theorem joined_P (n : Nat) (A : List Pq) (hl : A.length ≤ 15) : f__law_joined [eU n A] = some (.tup ((JL A).map eP)) := by
  have h : rLc (iTupR (rBin ixA (rVar 0) (rC (.int 1)))) (setN 1) cYes (rTup (rCons (rCal gMinT (rCons (rVar 1) rNil)) (rCons (rCal gMaxT (rCons (rVar 1) rNil)) rNil))) [1] (slots 2 [eU n A]) [] = some (.fl ((A.map jn).map eP)) := by
    refine (rlc_of eP (fun p => [some (eU n A), some (eP p)]) (fun _ => true) (fun p => eP (jn p)) A (itup_of (bin_of (var_of rfl) c_of ((ixA_tup _ _).trans (at_1 _ _ _)))) (by omega) fun p hp => ⟨rfl, rfl, fun _ => ?_⟩).trans ?_
    · exact tup_of (cons_of (cal1_of (var_of rfl) (min_P p)) (cons_of (cal1_of (var_of rfl) (max_P p)) nil_of)) (by simp)
    · rw [List.filter_eq_self.mpr (fun _ _ => rfl), List.map_map]
      rfl
  exact fnP_of (ret_of (ofR_of (cal1_of (cal1_of h (sort_P (L := A.map jn) rfl (by rw [List.length_map]; omega))) (gtup_fl _)))) (by simp [D.im, ims_map eP_im])
theorem mem_JL {A : List Pq} (hA : ∀ p ∈ A, p.1 ≠ p.2) (x y : Int) : ((mn x y, mx x y) ∈ JL A) ↔ J A x y = true := by
  unfold JL J
  rw [(sort_perm _).mem_iff, List.mem_map, Bool.or_eq_true, decide_eq_true_eq, decide_eq_true_eq]
  constructor
  · rintro ⟨⟨a, b⟩, hp, e⟩
    have := hA _ hp
    simp only [jn, mn, mx, Prod.mk.injEq] at e this
    have : (a = x ∧ b = y) ∨ (a = y ∧ b = x) := by omega
    rcases this with ⟨rfl, rfl⟩ | ⟨rfl, rfl⟩
    · exact .inl hp
    · exact .inr hp
  · rintro (h | h)
    · exact ⟨(x, y), h, by simp only [jn, mn, mx, Prod.mk.injEq]; omega⟩
    · exact ⟨(y, x), h, by simp only [jn, mn, mx, Prod.mk.injEq]; omega⟩
theorem mem_JL' {A : List Pq} (hA : ∀ p ∈ A, p.1 ≠ p.2) {x y : Int} (h : x < y) : ((x, y) ∈ JL A) ↔ J A x y = true := by
  rw [← mem_JL hA, show mn x y = x by unfold mn; omega, show mx x y = y by unfold mx; omega]
theorem J_symm (A : List Pq) (x y : Int) : J A x y = J A y x := by unfold J; exact Bool.or_comm _ _
theorem J_irr {A : List Pq} (hA : ∀ p ∈ A, p.1 ≠ p.2) (x : Int) : J A x x = false := by
  unfold J
  simp only [Bool.or_self, decide_eq_false_iff_not]
  exact fun h => hA _ h rfl
/-- two arrows meet at m, their tails not joined -/
def V (A : List Pq) (x m y : Int) : Bool := decide ((x, m) ∈ A) && decide ((y, m) ∈ A) && decide (x < y) && !J A x y
/-! the law's list of meetings -/
abbrev vB : SS := (sIf (ofRT (rAnd (rB (rBin g_eq (rVar 4) (rVar 6))) (rAnd (rB (rBin g_ltA (rVar 3) (rVar 5))) (rB (rBin g_nin (rTup (rCons (rVar 3) (rCons (rVar 5) rNil))) (rVar 1))))))
     (sExp (eMet gAppend (rVar 2) (eCons (ofR (rTup (rCons (rVar 3) (rCons (rVar 4) (rCons (rVar 5) rNil))))) (ofRA rNil))))
     FL.sNil)
def v2 (A : List Pq) (p q : Pq) : List Tr := if p.2 = q.2 ∧ p.1 < q.1 ∧ (p.1, q.1) ∉ JL A then [(p.1, p.2, q.1)] else []
def VI (n : Nat) (A : List Pq) (p : Option Pq) (k : Nat) (b : List Tr) (δ : Env') (G : Hs) : Prop := ∃ o3 o4 o5 o6, δ = [some (eU n A), some (.tup ((JL A).map eP)), some (.rf 0), o3, o4, o5, o6] ∧ (∀ q, p = some q → o3 = some (.int q.1) ∧ o4 = some (.int q.2)) ∧ G = [.lst (b.map eV)] ∧ b.length + k ≤ 1000
theorem v_in (n : Nat) {A : List Pq} (p q : Pq) {k : Nat} {b : List Tr} {δ : Env'} {G : Hs} (h : VI n A (some p) (k + 1) b δ G) : ∃ δ1, setTup [(setN 5), (setN 6)] (eP q) δ = some δ1 ∧ ∃ δ2 G2, vB δ1 G = some (.nx, δ2, G2) ∧ VI n A (some p) k (b ++ v2 A p q) δ2 G2 := by
  obtain ⟨o3, o4, o5, o6, rfl, hp, rfl, hl⟩ := h
  obtain ⟨rfl, rfl⟩ := hp p rfl
  refine ⟨_, rfl, ?_⟩
  have t : rAnd (rB (rBin g_eq (rVar 4) (rVar 6))) (rAnd (rB (rBin g_ltA (rVar 3) (rVar 5))) (rB (rBin g_nin (rTup (rCons (rVar 3) (rCons (rVar 5) rNil))) (rVar 1)))) [some (eU n A), some (.tup ((JL A).map eP)), some (.rf 0), some (.int p.1), some (.int p.2), some (.int q.1), some (.int q.2)] [.lst (b.map eV)] = some (decide (p.2 = q.2) && (decide (p.1 < q.1) && !decide ((p.1, q.1) ∈ JL A))) :=
    and_of (b_of (bin_of (var_of rfl) (var_of rfl) (eq_ii _ _))) fun _ => and_of (b_of (bin_of (var_of rfl) (var_of rfl) (lt_ii _ _))) fun _ => b_of (bin_of (tup_of (xs := [.int p.1, .int q.1]) (cons_of (var_of rfl) (cons_of (var_of rfl) nil_of)) (by simp)) (var_of rfl) (in_P (p := (p.1, q.1)) rfl true))
  by_cases hc : p.2 = q.2 ∧ p.1 < q.1 ∧ (p.1, q.1) ∉ JL A
  · have hv : v2 A p q = [(p.1, p.2, q.1)] := if_pos hc
    rw [hv]
    have t' : _ = some true := t.trans (by simp [hc.1, hc.2.1, hc.2.2])
    refine ⟨_, _, (if_t (ofRT_of t')).trans (exp_of (app_of (k := 0) (d := eV (p.1, p.2, q.1)) (var_of rfl) rfl (econs1_of (ofR_of (tup_of (cons_of (var_of rfl) (cons_of (var_of rfl) (cons_of (var_of rfl) nil_of))) (by simp)))) rfl (by rw [List.length_map]; omega))), _, _, _, _, rfl, fun q e => by cases e; exact ⟨rfl, rfl⟩, ?_, by rw [List.length_append, List.length_singleton]; omega⟩
    rw [List.map_append]
    rfl
  · have hv : v2 A p q = [] := if_neg hc
    rw [hv, List.append_nil]
    have t' : _ = some false := t.trans (by
      congr 1
      rw [Bool.eq_false_iff]
      intro z
      simp only [Bool.and_eq_true, decide_eq_true_eq, Bool.not_eq_true', decide_eq_false_iff_not] at z
      exact hc z)
    exact ⟨_, _, (if_f (ofRT_of t')).trans rfl, _, _, _, _, rfl, fun q e => by cases e; exact ⟨rfl, rfl⟩, rfl, by omega⟩
theorem v_out (n : Nat) {A : List Pq} (hA : A.length ≤ 15) (p : Pq) {k : Nat} {b : List Tr} {δ : Env'} {G : Hs} (h : VI n A none ((k + 1) * 15) b δ G) : ∃ δ1, setTup [(setN 3), (setN 4)] (eP p) δ = some δ1 ∧ ∃ δ2 G2, (sFor (ofRA (iTupR (rBin ixA (rVar 0) (rC (.int 1))))) (setTup [(setN 5), (setN 6)]) vB) δ1 G = some (.nx, δ2, G2) ∧ VI n A none (k * 15) (b ++ A.flatMap (v2 A p)) δ2 G2 := by
  obtain ⟨o3, o4, o5, o6, rfl, _, rfl, hl⟩ := h
  refine ⟨_, rfl, ?_⟩
  obtain ⟨δ2, G2, h1, h2⟩ := forL_fold (set := setTup [(setN 5), (setN 6)]) (b := vB) eP (fun b q => b ++ v2 A p q) (fun m b δ G => VI n A (some p) (k * 15 + m) b δ G) A b
    [some (eU n A), some (.tup ((JL A).map eP)), some (.rf 0), some (.int p.1), some (.int p.2), o5, o6] [.lst (b.map eV)] ⟨_, _, _, _, rfl, fun q e => by cases e; exact ⟨rfl, rfl⟩, rfl, by omega⟩ (fun q _ m b δ G h => v_in n p q (by rw [Nat.add_assoc]; exact h))
  rw [foldl_flat (v2 A p)] at h2
  obtain ⟨o3', o4', o5', o6', rfl, _, rfl, hl'⟩ := h2
  exact ⟨_, _, (for_nx (ofRA_of (itup_of (xs := A.map eP) (bin_of (var_of rfl) c_of ((ixA_tup _ _).trans (at_1 _ _ _)))))).trans h1, _, _, _, _, rfl, (fun q e => by cases e), rfl, by omega⟩
def vL (A : List Pq) : List Tr := A.flatMap fun p => A.flatMap (v2 A p)
theorem vees_P (n : Nat) {A : List Pq} (hA : A.length ≤ 15) : ∃ L : List Tr, L.Perm (vL A) ∧ L.length ≤ 1000 ∧ f__law_vees [eU n A] = some (.tup (L.map eV)) := by
  obtain ⟨δ2, G2, h1, h2⟩ := forL_fold (set := setTup [(setN 3), (setN 4)]) (b := (sFor (ofRA (iTupR (rBin ixA (rVar 0) (rC (.int 1))))) (setTup [(setN 5), (setN 6)]) vB)) eP (fun b p => b ++ A.flatMap (v2 A p)) (fun m b δ G => VI n A none (m * 15) b δ G) A []
    [some (eU n A), some (.tup ((JL A).map eP)), some (.rf 0), none, none, none, none] [.lst []] ⟨_, _, _, _, rfl, (fun q e => by cases e), rfl, by simp; omega⟩ (fun p _ m b δ G h => v_out n hA p h)
  rw [foldl_flat (fun p => A.flatMap (v2 A p)), List.nil_append] at h2
  obtain ⟨o3', o4', o5', o6', rfl, _, rfl, hl'⟩ := h2
  have hl2 : (vL A).length ≤ 1000 := by simpa [vL] using hl'
  obtain ⟨L, hp, hs⟩ := sort_any (G := [.lst ((vL A).map eV)]) (d := .rf 0) (e := eV) (L := vL A) rfl (sortable_V _ (by omega))
  refine ⟨L, hp, by rw [hp.length_eq]; exact hl2, fnP_of ((sq_nx (asg_of (ofR_of (callP_of (ds := [eU n A]) (cons_of (var_of rfl) nil_of) (by simp [ims, eU_im]) rfl (joined_P n A hA))) (by show (1 : Nat) < 7; decide))).trans ((sq_nx (asg_of (d := .rf 0) (G1 := [.lst []]) rfl (by show (2 : Nat) < 7; decide))).trans
    ((sq_nx ((for_nx (ofRA_of (itup_of (xs := A.map eP) (bin_of (var_of rfl) c_of ((ixA_tup _ _).trans (at_1 _ _ _)))))).trans h1)).trans (ret_of (ofR_of (cal1_of (cal1_of (var_of rfl) hs) (gtup_fl _))))))) (by simp [D.im, ims_map eV_im])⟩
theorem mem_vL {A : List Pq} (hA : ∀ p ∈ A, p.1 ≠ p.2) (x m y : Int) : (x, m, y) ∈ vL A ↔ V A x m y = true := by
  unfold vL V
  simp only [List.mem_flatMap, Bool.and_eq_true, decide_eq_true_eq, Bool.not_eq_true']
  constructor
  · rintro ⟨p, hp, q, hq, h⟩
    unfold v2 at h
    split at h
    · rename_i c
      rw [List.mem_singleton, Prod.mk.injEq, Prod.mk.injEq] at h
      obtain ⟨rfl, rfl, rfl⟩ := h
      refine ⟨⟨⟨hp, ?_⟩, c.2.1⟩, ?_⟩
      · rw [c.1]
        exact hq
      · cases e : J A p.1 q.1 with
        | false => rfl
        | true => exact absurd ((mem_JL' hA c.2.1).mpr e) c.2.2
    · cases h
  · rintro ⟨⟨⟨h1, h2⟩, h3⟩, h4⟩
    refine ⟨(x, m), h1, (y, m), h2, ?_⟩
    unfold v2
    rw [if_pos ⟨rfl, h3, fun z => by have := (mem_JL' hA h3).mp z; rw [h4] at this; cases this⟩]
    exact List.mem_singleton.mpr rfl
end K44
namespace K44
open PySem PySem.Spec PyProof.Rows L2 FL
theorem are_joined_P (n : Nat) (A : List Pq) (x y : Int) : f_are_joined [eM n A [], .int x, .int y] = some (.bl (J A x y)) :=
  fnP_of (ret_of (ofR_of (orV_of (b := decide ((x, y) ∈ A)) (c := decide ((y, x) ∈ A)) (bin_of (tup_of (xs := [.int x, .int y]) (cons_of (var_of rfl) (cons_of (var_of rfl) nil_of)) (by simp)) (attr_of (C := "Web") (ns := ["many", "arrows", "ties"]) (ds := [.int n, .tup (A.map eP), .tup []]) (var_of rfl) rfl) (in_P (p := (x, y)) rfl false))
    fun _ => bin_of (tup_of (xs := [.int y, .int x]) (cons_of (var_of rfl) (cons_of (var_of rfl) nil_of)) (by simp)) (attr_of (C := "Web") (ns := ["many", "arrows", "ties"]) (ds := [.int n, .tup (A.map eP), .tup []]) (var_of rfl) rfl) (in_P (p := (y, x)) rfl false)))) rfl
def pa (A : List Pq) (v : Int) : List Int := (A.filter fun p => decide (p.2 = v)).map (·.1)
theorem mem_pa {A : List Pq} {v x : Int} : x ∈ pa A v ↔ (x, v) ∈ A := by
  unfold pa
  simp only [List.mem_map, List.mem_filter, decide_eq_true_eq]
  constructor
  · rintro ⟨⟨a, b⟩, ⟨h1, h2⟩, h3⟩
    simp only at h2 h3
    subst h2 h3
    exact h1
  · exact fun h => ⟨(x, v), ⟨h, rfl⟩, rfl⟩
theorem pa_len (A : List Pq) (v : Int) : (pa A v).length ≤ A.length := by
  unfold pa
  rw [List.length_map]
  exact List.length_filter_le _ _
theorem parents_P (n : Nat) (A : List Pq) (hA : A.length ≤ 15) (v : Int) : f_parents_of [eM n A [], .int v] = some (.tup ((pa A v).map .int)) := by
  have h : rLc (iTupR (rAttr "arrows" (rVar 0))) (setTup [(setN 2), (setN 3)]) (rB (rBin g_eq (rVar 3) (rVar 1))) (rVar 2) [2, 3] (slots 4 [eM n A [], .int v]) [] = some (.fl ((pa A v).map .int)) := by
    refine (rlc_of eP (fun p => [some (eM n A []), some (.int v), some (.int p.1), some (.int p.2)]) (fun p => decide (p.2 = v)) (fun p => .int p.1) A (itup_of (attr_of (C := "Web") (ns := ["many", "arrows", "ties"]) (ds := [.int n, .tup (A.map eP), .tup []]) (var_of rfl) rfl)) (by omega) fun p hp => ⟨rfl, b_of (bin_of (var_of rfl) (var_of rfl) (eq_ii _ _)), fun _ => var_of rfl⟩).trans ?_
    unfold pa
    rw [List.map_map]
    rfl
  exact fnP_of (ret_of (ofR_of (cal1_of h (gtup_fl _)))) (by simp [D.im, ims_int])
def w3 (A : List Pq) (v x : Int) : List Tr := ((pa A v).filter fun y => decide (x < y) && !J A x y).map fun y => (x, v, y)
abbrev wB : SS := (sExp (eMet gExtend (rVar 1) (eCons (ofR (rLc (iTupR (rVar 3)) (setN 5) (rAnd (rB (rBin g_ltA (rVar 4) (rVar 5))) (rNot (rTru (rCallP 3 f_are_joined (rCons (rVar 0) (rCons (rVar 4) (rCons (rVar 5) rNil))))))) (rTup (rCons (rVar 4) (rCons (rVar 2) (rCons (rVar 5) rNil)))) [5])) (ofRA rNil))))
def WI (n : Nat) (A : List Pq) (v : Option Int) (k : Nat) (b : List Tr) (δ : Env') (G : Hs) : Prop := ∃ o2 o3 o4 o5, δ = [some (eM n A []), some (.rf 0), o2, o3, o4, o5] ∧ (∀ x, v = some x → o2 = some (.int x) ∧ o3 = some (.tup ((pa A x).map .int))) ∧ G = [.lst (b.map eV)] ∧ b.length + k ≤ 100000
theorem w_in (n : Nat) {A : List Pq} (hA : A.length ≤ 15) (v x : Int) {k : Nat} {b : List Tr} {δ : Env'} {G : Hs} (h : WI n A (some v) (15 * (k + 1)) b δ G) : ∃ δ1, setN 4 (.int x) δ = some δ1 ∧ ∃ δ2 G2, wB δ1 G = some (.nx, δ2, G2) ∧ WI n A (some v) (15 * k) (b ++ w3 A v x) δ2 G2 := by
  obtain ⟨o2, o3, o4, o5, rfl, hv, rfl, hl⟩ := h
  obtain ⟨rfl, rfl⟩ := hv v rfl
  refine ⟨_, rfl, ?_⟩
  have pl := pa_len A v
  have hw : (w3 A v x).length ≤ 15 := by
    unfold w3
    rw [List.length_map]
    exact Nat.le_trans (List.length_filter_le _ _) (by omega)
  have em : (eM n A []).im = true := eM_im n A []
  have h : rLc (iTupR (rVar 3)) (setN 5) (rAnd (rB (rBin g_ltA (rVar 4) (rVar 5))) (rNot (rTru (rCallP 3 f_are_joined (rCons (rVar 0) (rCons (rVar 4) (rCons (rVar 5) rNil))))))) (rTup (rCons (rVar 4) (rCons (rVar 2) (rCons (rVar 5) rNil)))) [5] [some (eM n A []), some (.rf 0), some (.int v), some (.tup ((pa A v).map .int)), some (.int x), o5] [.lst (b.map eV)] = some (.fl ((w3 A v x).map eV)) := by
    refine (rlc_of D.int (fun y => [some (eM n A []), some (.rf 0), some (.int v), some (.tup ((pa A v).map .int)), some (.int x), some (.int y)]) (fun y => decide (x < y) && !J A x y) (fun y => eV (x, v, y)) (pa A v) (itup_of (var_of rfl)) (by omega) fun y hy => ⟨rfl, ?_, fun _ => tup_of (cons_of (var_of rfl) (cons_of (var_of rfl) (cons_of (var_of rfl) nil_of))) (by simp)⟩).trans ?_
    · exact and_of (b_of (bin_of (var_of rfl) (var_of rfl) (lt_ii _ _))) fun _ => not_of (tru_of (callP_of (ds := [eM n A [], .int x, .int y]) (cons_of (var_of rfl) (cons_of (var_of rfl) (cons_of (var_of rfl) nil_of))) (by simp [ims, em, D.im]) rfl (are_joined_P n A x y)) rfl)
    · unfold w3
      rw [List.map_map]
      rfl
  refine ⟨_, _, exp_of (ext_of (k := 0) (var_of rfl) rfl (econs1_of (ofR_of h)) rfl (by rw [List.length_map, List.length_map]; omega)), _, _, _, _, rfl, fun x e => by cases e; exact ⟨rfl, rfl⟩, ?_, by rw [List.length_append]; omega⟩
  rw [List.map_append]
  rfl
abbrev wB1 : SS := (sSeq (sAsg (ofR (rCallP 2 f_parents_of (rCons (rVar 0) (rCons (rVar 2) rNil)))) (setN 3))
   (sFor (ofRA (iTupR (rVar 3))) (setN 4) wB))
theorem w_out (n : Nat) {A : List Pq} (hA : A.length ≤ 15) (i : Nat) {k : Nat} {b : List Tr} {δ : Env'} {G : Hs} (h : WI n A none (225 * (k + 1)) b δ G) : ∃ δ1, setN 2 (.int (0 + (i : Int))) δ = some δ1 ∧ ∃ δ2 G2, wB1 δ1 G = some (.nx, δ2, G2) ∧ WI n A none (225 * k) (b ++ (pa A (0 + (i : Int))).flatMap (w3 A (0 + (i : Int)))) δ2 G2 := by
  obtain ⟨o2, o3, o4, o5, rfl, _, rfl, hl⟩ := h
  refine ⟨_, rfl, ?_⟩
  have pl := pa_len A (0 + (i : Int))
  have em : (eM n A []).im = true := eM_im n A []
  obtain ⟨δ2, G2, h1, h2⟩ := forL_fold (set := setN 4) (b := wB) D.int (fun b x => b ++ w3 A (0 + (i : Int)) x) (fun m b δ G => WI n A (some (0 + (i : Int))) (15 * (15 * k + m)) b δ G) (pa A (0 + (i : Int))) b
    [some (eM n A []), some (.rf 0), some (.int (0 + (i : Int))), some (.tup ((pa A (0 + (i : Int))).map .int)), o4, o5] [.lst (b.map eV)] ⟨_, _, _, _, rfl, (fun x e => by cases e; exact ⟨rfl, rfl⟩), rfl, by omega⟩ (fun x _ m b δ G h => w_in n hA _ x (by rw [Nat.add_assoc]; exact h))
  rw [foldl_flat (w3 A (0 + (i : Int)))] at h2
  obtain ⟨o2', o3', o4', o5', rfl, _, rfl, hl'⟩ := h2
  exact ⟨_, _, (sq_nx (asg_of (ofR_of (callP_of (ds := [eM n A [], .int (0 + (i : Int))]) (cons_of (var_of rfl) (cons_of (var_of rfl) nil_of)) (by simp [ims, em, D.im]) rfl (parents_P n A hA _))) (by simp))).trans ((for_nx (ofRA_of (itup_of (xs := (pa A (0 + (i : Int))).map .int) (var_of rfl)))).trans h1), _, _, _, _, rfl, (fun x e => by cases e), rfl, by omega⟩
def wL (n : Nat) (A : List Pq) : List Tr := (List.range (n : Int).toNat).flatMap fun i : Nat => (pa A (0 + (i : Int))).flatMap (w3 A (0 + (i : Int)))
theorem vees_of_P {n : Nat} (hn : n ≤ 6) {A : List Pq} (hA : A.length ≤ 15) : ∃ L : List Tr, L.Perm (wL n A) ∧ L.length ≤ 100000 ∧ f_vees_of [eM n A []] = some (.fl (L.map eV)) := by
  obtain ⟨δ2, G2, h1, h2⟩ := forL_fold (set := setN 2) (b := wB1) (fun i : Nat => D.int (0 + (i : Int))) (fun b i => b ++ (pa A (0 + (i : Int))).flatMap (w3 A (0 + (i : Int)))) (fun m b δ G => WI n A none (225 * m) b δ G) (List.range (n : Int).toNat) []
    [some (eM n A []), some (.rf 0), none, none, none, none] [.lst []] ⟨_, _, _, _, rfl, (fun x e => by cases e), rfl, by rw [List.length_range, List.length_nil]; omega⟩ (fun i _ m b δ G h => w_out n hA i h)
  rw [foldl_flat (fun i : Nat => (pa A (0 + (i : Int))).flatMap (w3 A (0 + (i : Int)))), List.nil_append] at h2
  obtain ⟨o2', o3', o4', o5', rfl, _, rfl, hl'⟩ := h2
  have hl2 : (wL n A).length ≤ 100000 := by simpa [wL] using hl'
  obtain ⟨L, hp, hs⟩ := sort_any (G := [.lst ((wL n A).map eV)]) (d := .rf 0) (e := eV) (L := wL n A) rfl (sortable_V _ (by omega))
  refine ⟨L, hp, by rw [hp.length_eq]; exact hl2, fnP_of ((sq_nx (asg_of (d := .rf 0) (G1 := [.lst []]) rfl (by show (1 : Nat) < 6; decide))).trans ((sq_nx ((for_nx (ofRA_of (rg1_of (j := n) (attr_of (C := "Web") (ns := ["many", "arrows", "ties"]) (ds := [.int n, .tup (A.map eP), .tup []]) (var_of rfl) rfl) (by omega) (by omega)))).trans h1)).trans
    (ret_of (ofR_of (cal1_of (var_of rfl) hs))))) (by simp [D.im, ims_map eV_im])⟩
theorem mem_wL {n : Nat} {A : List Pq} (hA : ∀ p ∈ A, 0 ≤ p.2 ∧ p.2 < n) (x m y : Int) : (x, m, y) ∈ wL n A ↔ V A x m y = true := by
  unfold wL V w3
  simp only [List.mem_flatMap, List.mem_range, List.mem_map, List.mem_filter, mem_pa, Bool.and_eq_true, decide_eq_true_eq, Bool.not_eq_true', Prod.mk.injEq]
  constructor
  · rintro ⟨i, hi, a, ha, c, ⟨hc, h1, h2⟩, rfl, rfl, rfl⟩
    exact ⟨⟨⟨ha, hc⟩, h1⟩, h2⟩
  · rintro ⟨⟨⟨h1, h2⟩, h3⟩, h4⟩
    have := hA _ h1
    simp only at this
    have e : (0 + ((m.toNat : Nat) : Int)) = m := by omega
    refine ⟨m.toNat, by omega, x, ?_, y, ⟨?_, h3, h4⟩, rfl, e, rfl⟩
    · rw [e]
      exact h1
    · rw [e]
      exact h2
end K44
namespace K44
open PySem PySem.Spec PyProof.Rows L2 FL
inductive W4 | v | aw | ri | ki
  deriving DecidableEq
def W4.s : W4 → Str | .v => "v" | .aw => "away" | .ri => "ring" | .ki => "kite"
theorem W4.inj (a b : W4) : decide (a.s = b.s) = decide (a = b) := by cases a <;> cases b <;> decide +kernel
theorem W4.ok (a : W4) : (D.str a.s).ok = true := by cases a <;> decide +kernel
theorem eq_ww {G : Hs} (a b : W4) : g_eq G (.str a.s) (.str b.s) = some (.bl (decide (a = b))) := by
  rw [eq_of (W4.ok a) (W4.ok b) (Nat.zero_le _) (Nat.zero_le _), eqb_str, W4.inj]
inductive Wd | v | aw | ri
  deriving DecidableEq
def Wd.w : Wd → W4 | .v => .v | .aw => .aw | .ri => .ri
inductive Stp
  | t (w : Wd) (a b c : Int)
  | k (a b c d : Int)
  deriving DecidableEq
def Stp.w : Stp → W4 | .t w _ _ _ => w.w | .k _ _ _ _ => .ki
def Stp.sp : Stp → List Int | .t _ a b c => [a, b, c] | .k a b c d => [a, b, c, d]
def eSt (s : Stp) : D := .tup (.str s.w.s :: s.sp.map .int)
def InR (n : Nat) (s : Stp) : Prop := ∀ x ∈ s.sp, 0 ≤ x ∧ x < (n : Int)
theorem eSt_im (s : Stp) : (eSt s).im = true := by simp [eSt, D.im, ims, ims_int]
theorem Stp.len (s : Stp) : s.sp.length ≤ 4 := by cases s <;> simp [Stp.sp]
def cond (A g : List Pq) : Stp → Bool
  | .t .v a b c => V A a b c
  | .t .aw a b c => decide ((a, b) ∈ g) && (J A b c && (!decide (a = c) && (!J A a c && !V A (mn a c) b (mx a c))))
  | .t .ri a b c => (decide ((a, b) ∈ g) && decide ((b, c) ∈ g)) && J A a c
  | .k a b c d => (J A a b && (J A a c && J A a d)) && ((decide (b < c) && (!J A b c && !V A b a c)) && (decide ((b, d) ∈ g) && decide ((c, d) ∈ g)))
def outs : Stp → List Pq
  | .t .v a b c => [(a, b), (c, b)]
  | .t .aw _ b c => [(b, c)]
  | .t .ri a _ c => [(a, c)]
  | .k a _ _ d => [(a, d)]
def gives (A g : List Pq) (s : Stp) : List Pq := if cond A g s = true then outs s else []
theorem cut1 (x : D) (ds : List D) : FL.cutD (x :: ds) (some 1) none = ds := by
  unfold FL.cutD
  rw [HT.sIx_none, show (1 : Int) = ((1 : Nat) : Int) from rfl, HT.sIx_nat]
  simp
theorem sp_of {δ : Env'} {G : Hs} {s : Stp} (h : δ[2]? = some (some (eSt s))) : rSlT (rVar 2) (partD (some (rC (.int 1)))) (partD none) δ G = some (.tup (s.sp.map .int)) := by
  unfold FL.rSlT
  rw [var_of h, Option.bind_some, pS_of c_of, Option.bind_some, pN_of, Option.bind_some]
  show some (D.tup (FL.cutD (.str s.w.s :: s.sp.map .int) (some 1) none)) = _
  rw [cut1]
theorem w_of {δ : Env'} {G : Hs} {s : Stp} (h : δ[2]? = some (some (eSt s))) : rBin ixA (rVar 2) (rC (.int 0)) δ G = some (.str s.w.s) := bin_of (var_of h) c_of ((ixA_tup _ _).trans (at_0 _ _))
theorem dJ {A : List Pq} (hA : ∀ p ∈ A, p.1 ≠ p.2) (x y : Int) : decide ((mn x y, mx x y) ∈ JL A) = J A x y := by
  rw [Bool.eq_iff_iff, decide_eq_true_eq]
  exact mem_JL hA x y
section
variable {n : Nat} {A : List Pq} {g : List Pq} {L : List Tr}
theorem aR' (G0 : Good n A []) : ∀ p ∈ A, p.1 ≠ p.2 := fun p hp => (G0.aR p hp).2.2.2.2
abbrev r1 : SS := (sSeq (sIf (ofRT (rAnd (rB (rBin g_eq (rBin ixA (rVar 2) (rC (.int 0))) (rC (.str "v")))) (rAnd (rB (rBin g_eq (rCal gLen (rCons (rVar 3) rNil)) (rC (.int 3)))) (rB (rBin g_in_ (rVar 3) (rVar 5))))))
   (sRet (ofR (rFl (rCons (rTup (rCons (rBin ixA (rVar 3) (rC (.int 0))) (rCons (rBin ixA (rVar 3) (rC (.int 1))) rNil))) (rCons (rTup (rCons (rBin ixA (rVar 3) (rC (.int 2))) (rCons (rBin ixA (rVar 3) (rC (.int 1))) rNil))) rNil)))))
   FL.sNil)
  (sSeq (sIf (ofRT (rAnd (rB (rBin g_eq (rBin ixA (rVar 2) (rC (.int 0))) (rC (.str "away")))) (rB (rBin g_eq (rCal gLen (rCons (rVar 3) rNil)) (rC (.int 3))))))
   (sSeq (sAsg (ofR (rVar 3)) (setTup [(setN 9), (setN 10), (setN 11)]))
   (sSeq (sAsg (ofR (rAndV (rBin g_ne (rVar 9) (rVar 11)) (rAndV (rBin g_nin (rTup (rCons (rCal gMin2 (rCons (rVar 9) (rCons (rVar 11) rNil))) (rCons (rCal gMax2 (rCons (rVar 9) (rCons (rVar 11) rNil))) rNil))) (rVar 4)) (rBin g_nin (rTup (rCons (rCal gMin2 (rCons (rVar 9) (rCons (rVar 11) rNil))) (rCons (rVar 10) (rCons (rCal gMax2 (rCons (rVar 9) (rCons (rVar 11) rNil))) rNil)))) (rVar 5))))) (setN 6))
   (sRet (ofR (rIf (rAnd (rB (rBin g_in_ (rTup (rCons (rVar 9) (rCons (rVar 10) rNil))) (rVar 1))) (rAnd (rB (rBin g_in_ (rTup (rCons (rCal gMin2 (rCons (rVar 10) (rCons (rVar 11) rNil))) (rCons (rCal gMax2 (rCons (rVar 10) (rCons (rVar 11) rNil))) rNil))) (rVar 4))) (rTru (rVar 6)))) (rFl (rCons (rTup (rCons (rVar 10) (rCons (rVar 11) rNil))) rNil)) (rFl rNil))))))
   FL.sNil)
  (sSeq (sIf (ofRT (rAnd (rB (rBin g_eq (rBin ixA (rVar 2) (rC (.int 0))) (rC (.str "ring")))) (rB (rBin g_eq (rCal gLen (rCons (rVar 3) rNil)) (rC (.int 3))))))
   (sSeq (sAsg (ofR (rVar 3)) (setTup [(setN 9), (setN 10), (setN 11)]))
   (sSeq (sAsg (ofR (rAndV (rBin g_in_ (rTup (rCons (rVar 9) (rCons (rVar 10) rNil))) (rVar 1)) (rBin g_in_ (rTup (rCons (rVar 10) (rCons (rVar 11) rNil))) (rVar 1)))) (setN 7))
   (sRet (ofR (rIf (rAnd (rTru (rVar 7)) (rB (rBin g_in_ (rTup (rCons (rCal gMin2 (rCons (rVar 9) (rCons (rVar 11) rNil))) (rCons (rCal gMax2 (rCons (rVar 9) (rCons (rVar 11) rNil))) rNil))) (rVar 4)))) (rFl (rCons (rTup (rCons (rVar 9) (rCons (rVar 11) rNil))) rNil)) (rFl rNil))))))
   FL.sNil)
  (sSeq (sIf (ofRT (rAnd (rB (rBin g_eq (rBin ixA (rVar 2) (rC (.int 0))) (rC (.str "kite")))) (rB (rBin g_eq (rCal gLen (rCons (rVar 3) rNil)) (rC (.int 4))))))
   (sSeq (sAsg (ofR (rVar 3)) (setTup [(setN 9), (setN 10), (setN 11), (setN 12)]))
   (sSeq (sAsg (ofR (rCal gAll (rCons (rLc (iTupR (rTup (rCons (rVar 10) (rCons (rVar 11) (rCons (rVar 12) rNil))))) (setN 13) cYes (rBin g_in_ (rTup (rCons (rCal gMin2 (rCons (rVar 9) (rCons (rVar 13) rNil))) (rCons (rCal gMax2 (rCons (rVar 9) (rCons (rVar 13) rNil))) rNil))) (rVar 4)) [13]) rNil))) (setN 8))
   (sSeq (sAsg (ofR (rAndV (rBin g_ltA (rVar 10) (rVar 11)) (rAndV (rBin g_nin (rTup (rCons (rVar 10) (rCons (rVar 11) rNil))) (rVar 4)) (rBin g_nin (rTup (rCons (rVar 10) (rCons (rVar 9) (rCons (rVar 11) rNil)))) (rVar 5))))) (setN 6))
   (sRet (ofR (rIf (rAnd (rTru (rVar 8)) (rAnd (rTru (rVar 6)) (rAnd (rB (rBin g_in_ (rTup (rCons (rVar 10) (rCons (rVar 12) rNil))) (rVar 1))) (rB (rBin g_in_ (rTup (rCons (rVar 11) (rCons (rVar 12) rNil))) (rVar 1)))))) (rFl (rCons (rTup (rCons (rVar 9) (rCons (rVar 12) rNil))) rNil)) (rFl rNil)))))))
   FL.sNil)
  (sRet (ofR (rFl rNil)))))))
abbrev r2 : SS := (sSeq (sIf (ofRT (rAnd (rB (rBin g_eq (rBin ixA (rVar 2) (rC (.int 0))) (rC (.str "away")))) (rB (rBin g_eq (rCal gLen (rCons (rVar 3) rNil)) (rC (.int 3))))))
   (sSeq (sAsg (ofR (rVar 3)) (setTup [(setN 9), (setN 10), (setN 11)]))
   (sSeq (sAsg (ofR (rAndV (rBin g_ne (rVar 9) (rVar 11)) (rAndV (rBin g_nin (rTup (rCons (rCal gMin2 (rCons (rVar 9) (rCons (rVar 11) rNil))) (rCons (rCal gMax2 (rCons (rVar 9) (rCons (rVar 11) rNil))) rNil))) (rVar 4)) (rBin g_nin (rTup (rCons (rCal gMin2 (rCons (rVar 9) (rCons (rVar 11) rNil))) (rCons (rVar 10) (rCons (rCal gMax2 (rCons (rVar 9) (rCons (rVar 11) rNil))) rNil)))) (rVar 5))))) (setN 6))
   (sRet (ofR (rIf (rAnd (rB (rBin g_in_ (rTup (rCons (rVar 9) (rCons (rVar 10) rNil))) (rVar 1))) (rAnd (rB (rBin g_in_ (rTup (rCons (rCal gMin2 (rCons (rVar 10) (rCons (rVar 11) rNil))) (rCons (rCal gMax2 (rCons (rVar 10) (rCons (rVar 11) rNil))) rNil))) (rVar 4))) (rTru (rVar 6)))) (rFl (rCons (rTup (rCons (rVar 10) (rCons (rVar 11) rNil))) rNil)) (rFl rNil))))))
   FL.sNil)
  (sSeq (sIf (ofRT (rAnd (rB (rBin g_eq (rBin ixA (rVar 2) (rC (.int 0))) (rC (.str "ring")))) (rB (rBin g_eq (rCal gLen (rCons (rVar 3) rNil)) (rC (.int 3))))))
   (sSeq (sAsg (ofR (rVar 3)) (setTup [(setN 9), (setN 10), (setN 11)]))
   (sSeq (sAsg (ofR (rAndV (rBin g_in_ (rTup (rCons (rVar 9) (rCons (rVar 10) rNil))) (rVar 1)) (rBin g_in_ (rTup (rCons (rVar 10) (rCons (rVar 11) rNil))) (rVar 1)))) (setN 7))
   (sRet (ofR (rIf (rAnd (rTru (rVar 7)) (rB (rBin g_in_ (rTup (rCons (rCal gMin2 (rCons (rVar 9) (rCons (rVar 11) rNil))) (rCons (rCal gMax2 (rCons (rVar 9) (rCons (rVar 11) rNil))) rNil))) (rVar 4)))) (rFl (rCons (rTup (rCons (rVar 9) (rCons (rVar 11) rNil))) rNil)) (rFl rNil))))))
   FL.sNil)
  (sSeq (sIf (ofRT (rAnd (rB (rBin g_eq (rBin ixA (rVar 2) (rC (.int 0))) (rC (.str "kite")))) (rB (rBin g_eq (rCal gLen (rCons (rVar 3) rNil)) (rC (.int 4))))))
   (sSeq (sAsg (ofR (rVar 3)) (setTup [(setN 9), (setN 10), (setN 11), (setN 12)]))
   (sSeq (sAsg (ofR (rCal gAll (rCons (rLc (iTupR (rTup (rCons (rVar 10) (rCons (rVar 11) (rCons (rVar 12) rNil))))) (setN 13) cYes (rBin g_in_ (rTup (rCons (rCal gMin2 (rCons (rVar 9) (rCons (rVar 13) rNil))) (rCons (rCal gMax2 (rCons (rVar 9) (rCons (rVar 13) rNil))) rNil))) (rVar 4)) [13]) rNil))) (setN 8))
   (sSeq (sAsg (ofR (rAndV (rBin g_ltA (rVar 10) (rVar 11)) (rAndV (rBin g_nin (rTup (rCons (rVar 10) (rCons (rVar 11) rNil))) (rVar 4)) (rBin g_nin (rTup (rCons (rVar 10) (rCons (rVar 9) (rCons (rVar 11) rNil)))) (rVar 5))))) (setN 6))
   (sRet (ofR (rIf (rAnd (rTru (rVar 8)) (rAnd (rTru (rVar 6)) (rAnd (rB (rBin g_in_ (rTup (rCons (rVar 10) (rCons (rVar 12) rNil))) (rVar 1))) (rB (rBin g_in_ (rTup (rCons (rVar 11) (rCons (rVar 12) rNil))) (rVar 1)))))) (rFl (rCons (rTup (rCons (rVar 9) (rCons (rVar 12) rNil))) rNil)) (rFl rNil)))))))
   FL.sNil)
  (sRet (ofR (rFl rNil))))))
abbrev r3 : SS := (sSeq (sIf (ofRT (rAnd (rB (rBin g_eq (rBin ixA (rVar 2) (rC (.int 0))) (rC (.str "ring")))) (rB (rBin g_eq (rCal gLen (rCons (rVar 3) rNil)) (rC (.int 3))))))
   (sSeq (sAsg (ofR (rVar 3)) (setTup [(setN 9), (setN 10), (setN 11)]))
   (sSeq (sAsg (ofR (rAndV (rBin g_in_ (rTup (rCons (rVar 9) (rCons (rVar 10) rNil))) (rVar 1)) (rBin g_in_ (rTup (rCons (rVar 10) (rCons (rVar 11) rNil))) (rVar 1)))) (setN 7))
   (sRet (ofR (rIf (rAnd (rTru (rVar 7)) (rB (rBin g_in_ (rTup (rCons (rCal gMin2 (rCons (rVar 9) (rCons (rVar 11) rNil))) (rCons (rCal gMax2 (rCons (rVar 9) (rCons (rVar 11) rNil))) rNil))) (rVar 4)))) (rFl (rCons (rTup (rCons (rVar 9) (rCons (rVar 11) rNil))) rNil)) (rFl rNil))))))
   FL.sNil)
  (sSeq (sIf (ofRT (rAnd (rB (rBin g_eq (rBin ixA (rVar 2) (rC (.int 0))) (rC (.str "kite")))) (rB (rBin g_eq (rCal gLen (rCons (rVar 3) rNil)) (rC (.int 4))))))
   (sSeq (sAsg (ofR (rVar 3)) (setTup [(setN 9), (setN 10), (setN 11), (setN 12)]))
   (sSeq (sAsg (ofR (rCal gAll (rCons (rLc (iTupR (rTup (rCons (rVar 10) (rCons (rVar 11) (rCons (rVar 12) rNil))))) (setN 13) cYes (rBin g_in_ (rTup (rCons (rCal gMin2 (rCons (rVar 9) (rCons (rVar 13) rNil))) (rCons (rCal gMax2 (rCons (rVar 9) (rCons (rVar 13) rNil))) rNil))) (rVar 4)) [13]) rNil))) (setN 8))
   (sSeq (sAsg (ofR (rAndV (rBin g_ltA (rVar 10) (rVar 11)) (rAndV (rBin g_nin (rTup (rCons (rVar 10) (rCons (rVar 11) rNil))) (rVar 4)) (rBin g_nin (rTup (rCons (rVar 10) (rCons (rVar 9) (rCons (rVar 11) rNil)))) (rVar 5))))) (setN 6))
   (sRet (ofR (rIf (rAnd (rTru (rVar 8)) (rAnd (rTru (rVar 6)) (rAnd (rB (rBin g_in_ (rTup (rCons (rVar 10) (rCons (rVar 12) rNil))) (rVar 1))) (rB (rBin g_in_ (rTup (rCons (rVar 11) (rCons (rVar 12) rNil))) (rVar 1)))))) (rFl (rCons (rTup (rCons (rVar 9) (rCons (rVar 12) rNil))) rNil)) (rFl rNil)))))))
   FL.sNil)
  (sRet (ofR (rFl rNil)))))
abbrev r4 : SS := (sSeq (sIf (ofRT (rAnd (rB (rBin g_eq (rBin ixA (rVar 2) (rC (.int 0))) (rC (.str "kite")))) (rB (rBin g_eq (rCal gLen (rCons (rVar 3) rNil)) (rC (.int 4))))))
   (sSeq (sAsg (ofR (rVar 3)) (setTup [(setN 9), (setN 10), (setN 11), (setN 12)]))
   (sSeq (sAsg (ofR (rCal gAll (rCons (rLc (iTupR (rTup (rCons (rVar 10) (rCons (rVar 11) (rCons (rVar 12) rNil))))) (setN 13) cYes (rBin g_in_ (rTup (rCons (rCal gMin2 (rCons (rVar 9) (rCons (rVar 13) rNil))) (rCons (rCal gMax2 (rCons (rVar 9) (rCons (rVar 13) rNil))) rNil))) (rVar 4)) [13]) rNil))) (setN 8))
   (sSeq (sAsg (ofR (rAndV (rBin g_ltA (rVar 10) (rVar 11)) (rAndV (rBin g_nin (rTup (rCons (rVar 10) (rCons (rVar 11) rNil))) (rVar 4)) (rBin g_nin (rTup (rCons (rVar 10) (rCons (rVar 9) (rCons (rVar 11) rNil)))) (rVar 5))))) (setN 6))
   (sRet (ofR (rIf (rAnd (rTru (rVar 8)) (rAnd (rTru (rVar 6)) (rAnd (rB (rBin g_in_ (rTup (rCons (rVar 10) (rCons (rVar 12) rNil))) (rVar 1))) (rB (rBin g_in_ (rTup (rCons (rVar 11) (rCons (rVar 12) rNil))) (rVar 1)))))) (rFl (rCons (rTup (rCons (rVar 9) (rCons (rVar 12) rNil))) rNil)) (rFl rNil)))))))
   FL.sNil)
  (sRet (ofR (rFl rNil))))
abbrev t1 : RT := (rAnd (rB (rBin g_eq (rBin ixA (rVar 2) (rC (.int 0))) (rC (.str "v")))) (rAnd (rB (rBin g_eq (rCal gLen (rCons (rVar 3) rNil)) (rC (.int 3)))) (rB (rBin g_in_ (rVar 3) (rVar 5)))))
abbrev s5 (n : Nat) (A g : List Pq) (L : List Tr) (s : Stp) : Env' := [some (eU n A), some (.fl (g.map eP)), some (eSt s), some (.tup (s.sp.map .int)), some (.tup ((JL A).map eP)), some (.tup (L.map eV)), none, none, none, none, none, none, none, none]
theorem wq {G : Hs} {δ : Env'} {s : Stp} (h : δ[2]? = some (some (eSt s))) (b : W4) {x : Str} (hx : x = b.s) : rB (rBin g_eq (rBin ixA (rVar 2) (rC (.int 0))) (rC (.str x))) δ G = some (decide (s.w = b)) := by
  subst hx
  exact b_of (bin_of (w_of h) c_of (eq_ww _ _))
theorem lq {G : Hs} {δ : Env'} {s : Stp} {m : Int} (h : δ[3]? = some (some (.tup (s.sp.map .int)))) : rB (rBin g_eq (rCal gLen (rCons (rVar 3) rNil)) (rC (.int m))) δ G = some (decide ((s.sp.length : Int) = m)) :=
  b_of (bin_of (cal1_of (var_of h) ((len_tup _).trans (by rw [List.length_map]))) c_of (eq_ii _ _))
theorem nJ {G : Hs} (G0 : Good n A []) {d : D} (hd : d = .tup ((JL A).map eP)) (x y : Int) : g_nin G (.tup [.int (mn x y), .int (mx x y)]) d = some (.bl (!J A x y)) := by
  subst hd
  exact (in_P (p := (mn x y, mx x y)) rfl true).trans (by rw [if_pos rfl, dJ (aR' G0)])
theorem iJ {G : Hs} (G0 : Good n A []) {d : D} (hd : d = .tup ((JL A).map eP)) (x y : Int) : g_in_ G (.tup [.int (mn x y), .int (mx x y)]) d = some (.bl (J A x y)) := by
  subst hd
  exact (in_P (p := (mn x y, mx x y)) rfl false).trans (by rw [if_neg (by simp), dJ (aR' G0)])
theorem mm_of {δ : Env'} {G : Hs} {fa fb : RE} {x y : Int} (ha : fa δ G = some (.int x)) (hb : fb δ G = some (.int y)) : rTup (rCons (rCal gMin2 (rCons fa (rCons fb rNil))) (rCons (rCal gMax2 (rCons fa (rCons fb rNil))) rNil)) δ G = some (.tup [.int (mn x y), .int (mx x y)]) :=
  tup_of (cons_of (cal2_of ha hb rfl) (cons_of (cal2_of ha hb rfl) nil_of)) (by simp)
theorem gives_P (G0 : Good n A []) (s : Stp) (hs : InR n s) : f__law_gives [eU n A, .fl (g.map eP), eSt s] = some (.fl ((gives A g s).map eP)) := by
  obtain ⟨L, hp, hL, hv⟩ := vees_P n G0.aL
  have dV : ∀ x m y, decide ((x, m, y) ∈ L) = V A x m y := fun x m y => by
    rw [Bool.eq_iff_iff, decide_eq_true_eq]
    exact hp.mem_iff.trans (mem_vL (aR' G0) x m y)
  have eu : (eU n A).im = true := eU_im n A
  have a1 : sAsg (eTup (eCons (ofR (rCallP 1 f__law_joined (rCons (rVar 0) rNil))) (eCons (ofR (rCallP 1 f__law_vees (rCons (rVar 0) rNil))) (ofRA rNil)))) (setTup [(setN 4), (setN 5)]) (slots 14 [eU n A, .fl (g.map eP), eSt s]) [] = some (.nx, [some (eU n A), some (.fl (g.map eP)), some (eSt s), none, some (.tup ((JL A).map eP)), some (.tup (L.map eV)), none, none, none, none, none, none, none, none], []) :=
    asgT_of (etup_of (econs_of (ofR_of (callP_of (ds := [eU n A]) (cons_of (var_of rfl) nil_of) (by simp [ims, eu]) rfl (joined_P n A G0.aL))) (econs_of (ofR_of (callP_of (ds := [eU n A]) (cons_of (var_of rfl) nil_of) (by simp [ims, eu]) rfl hv)) enil_of)) (by simp)) (by show (4 : Nat) < 14; decide) (by show (5 : Nat) < 14; decide)
  have t0 : rOr (rNot (rTru (rIsT (isTy "tuple") (rVar 2)))) (rOr (rB (rBin g_eq (rCal gLen (rCons (rVar 2) rNil)) (rC (.int 0)))) (rNot (rTru (rIsT (isTy "str") (rBin ixA (rVar 2) (rC (.int 0))))))) [some (eU n A), some (.fl (g.map eP)), some (eSt s), none, some (.tup ((JL A).map eP)), some (.tup (L.map eV)), none, none, none, none, none, none, none, none] [] = some false :=
    or_of (b := false) (c := false) (not_f (tru_of (isT_of (T := "tuple") (var_of rfl) rfl) rfl)) fun _ => or_of (b := false) (c := false) (b_of (bin_of (cal1_of (var_of rfl) (len_tup _)) c_of ((eq_ii _ _).trans (by rw [List.length_cons, decide_eq_false (by omega)])))) fun _ => not_f (tru_of (isT_of (T := "str") (w_of rfl) rfl) rfl)
  have a2 := asg_of (i := 3) (ofR_of (sp_of (δ := [some (eU n A), some (.fl (g.map eP)), some (eSt s), none, some (.tup ((JL A).map eP)), some (.tup (L.map eV)), none, none, none, none, none, none, none, none]) (G := []) (s := s) rfl)) (by show (3 : Nat) < 14; decide)
  have hall : rCal gAll (rCons (rLc (iTupR (rVar 3)) (setN 13) cYes (rAndV (rIsT (isTy "int") (rVar 13)) (rAndV (rNotV (rIsT (isTy "bool") (rVar 13))) (rChn g_le g_ltA (rC (.int 0)) (rVar 13) (rBin ixA (rVar 0) (rC (.int 0)))))) [13]) rNil) (s5 n A g L s) [] = some (.bl true) := by
    have sl := s.len
    refine (cal1_of (rlc_of D.int (fun x => [some (eU n A), some (.fl (g.map eP)), some (eSt s), some (.tup (s.sp.map .int)), some (.tup ((JL A).map eP)), some (.tup (L.map eV)), none, none, none, none, none, none, none, some (.int x)]) (fun _ => true) (fun _ => .bl true) s.sp (itup_of (var_of rfl)) (by omega) fun x hx => ⟨rfl, rfl, fun _ => ?_⟩) (?_ : gAll [] [.fl ((s.sp.filter fun _ => true).map fun _ => .bl true)] = some (.bl true)))
    · have := hs x hx
      exact andV_of (b := true) (c := true) (isT_of (T := "int") (var_of rfl) rfl) fun _ => andV_of (b := true) (c := true) (notV_of (b := false) (isT_of (T := "int") (var_of rfl) rfl)) fun _ => chn_of (b := true) (c := true) c_of (var_of rfl) ((le_ii _ _).trans (by rw [decide_eq_true this.1])) fun _ => ⟨bin_of (var_of rfl) c_of ((ixA_tup _ _).trans (at_0 _ _)), (lt_ii _ _).trans (by rw [decide_eq_true this.2])⟩
    · rw [List.filter_eq_self.mpr (fun _ _ => rfl), show (s.sp.map fun _ => D.bl true) = (s.sp.map fun _ => true).map D.bl by rw [List.map_map]; rfl, all_bl]
      congr 2
      rw [List.all_map, List.all_eq_true]
      exact fun _ _ => rfl
  have key : ∃ δ' : Env', r1 (s5 n A g L s) [] = some (.rt (.fl ((gives A g s).map eP)), δ', []) := by
    have i1 : ∀ b c : Bool, rIf (fun _ _ => some b) (fun _ _ => some (D.bl c)) (fun _ _ => none) [] [] = rIf (fun _ _ => some b) (fun _ _ => some (D.bl c)) (fun _ _ => none) [] [] := fun _ _ => rfl
    cases s with
    | t w a b c =>
      cases w with
      | v =>
        have c1 : t1 (s5 n A g L (.t .v a b c)) [] = some (V A a b c) := by
          refine (and_of (wq (s := .t .v a b c) rfl .v rfl) fun _ => and_of (lq (s := .t .v a b c) rfl) fun _ => b_of (bin_of (var_of rfl) (var_of rfl) (in_V (p := (a, b, c)) rfl false))).trans ?_
          rw [if_neg (by simp), dV]
          rfl
        cases hc : V A a b c with
        | true =>
          rw [hc] at c1
          have hg : gives A g (.t .v a b c) = [(a, b), (c, b)] := if_pos hc
          rw [hg]
          exact ⟨_, sq_rt ((if_t (ofRT_of c1)).trans (ret_of (ofR_of (fl_of (cons_of (tup_of (xs := [.int a, .int b]) (cons_of (bin_of (var_of rfl) c_of ((ixA_tup _ _).trans (at_0 _ _))) (cons_of (bin_of (var_of rfl) c_of ((ixA_tup _ _).trans (at_1 _ _ _))) nil_of)) (by simp)) (cons_of (tup_of (xs := [.int c, .int b]) (cons_of (bin_of (var_of rfl) c_of ((ixA_tup _ _).trans (at_2 _ _ _ _))) (cons_of (bin_of (var_of rfl) c_of ((ixA_tup _ _).trans (at_1 _ _ _))) nil_of)) (by simp)) nil_of)) (by simp)))))⟩
        | false =>
          rw [hc] at c1
          have hg : gives A g (.t .v a b c) = [] := if_neg (by show ¬ V A a b c = true; rw [hc]; decide)
          rw [hg]
          exact ⟨_, (sq_nx ((if_f (ofRT_of c1)).trans rfl)).trans ((sq_nx ((if_f (ofRT_of (and_of (b := false) (c := false) (wq (s := .t .v a b c) rfl .aw rfl) (fun z => by cases z)))).trans rfl)).trans ((sq_nx ((if_f (ofRT_of (and_of (b := false) (c := false) (wq (s := .t .v a b c) rfl .ri rfl) (fun z => by cases z)))).trans rfl)).trans ((sq_nx ((if_f (ofRT_of (and_of (b := false) (c := false) (wq (s := .t .v a b c) rfl .ki rfl) (fun z => by cases z)))).trans rfl)).trans (ret_of (ofR_of (fl_of nil_of (by simp)))))))⟩
      | aw =>
        have c1 : t1 (s5 n A g L (.t .aw a b c)) [] = some false := and_of (b := false) (c := false) (wq (s := .t .aw a b c) rfl .v rfl) (fun z => by cases z)
        have c2 := and_of (u := rB (rBin g_eq (rCal gLen (rCons (rVar 3) rNil)) (rC (.int 3)))) (wq (δ := s5 n A g L (.t .aw a b c)) (G := []) (s := .t .aw a b c) rfl .aw rfl) (fun _ => lq (s := .t .aw a b c) (m := 3) rfl)
        have ap : rAndV (rBin g_ne (rVar 9) (rVar 11)) (rAndV (rBin g_nin (rTup (rCons (rCal gMin2 (rCons (rVar 9) (rCons (rVar 11) rNil))) (rCons (rCal gMax2 (rCons (rVar 9) (rCons (rVar 11) rNil))) rNil))) (rVar 4)) (rBin g_nin (rTup (rCons (rCal gMin2 (rCons (rVar 9) (rCons (rVar 11) rNil))) (rCons (rVar 10) (rCons (rCal gMax2 (rCons (rVar 9) (rCons (rVar 11) rNil))) rNil)))) (rVar 5))) [some (eU n A), some (.fl (g.map eP)), some (eSt (.t .aw a b c)), some (.tup [.int a, .int b, .int c]), some (.tup ((JL A).map eP)), some (.tup (L.map eV)), none, none, none, some (.int a), some (.int b), some (.int c), none, none] [] = some (.bl (!decide (a = c) && (!J A a c && !V A (mn a c) b (mx a c)))) := by
          refine andV_of (bin_of (var_of rfl) (var_of rfl) (ne_ii _ _)) fun _ => andV_of (bin_of (mm_of (var_of rfl) (var_of rfl)) (var_of rfl) (nJ G0 rfl a c)) fun _ => bin_of (tup_of (xs := [.int (mn a c), .int b, .int (mx a c)]) (cons_of (cal2_of (var_of rfl) (var_of rfl) rfl) (cons_of (var_of rfl) (cons_of (cal2_of (var_of rfl) (var_of rfl) rfl) nil_of))) (by simp)) (var_of rfl) ((in_V (p := (mn a c, b, mx a c)) rfl true).trans ?_)
          rw [if_pos rfl, dV]
        have c3 : rAnd (rB (rBin g_in_ (rTup (rCons (rVar 9) (rCons (rVar 10) rNil))) (rVar 1))) (rAnd (rB (rBin g_in_ (rTup (rCons (rCal gMin2 (rCons (rVar 10) (rCons (rVar 11) rNil))) (rCons (rCal gMax2 (rCons (rVar 10) (rCons (rVar 11) rNil))) rNil))) (rVar 4))) (rTru (rVar 6))) [some (eU n A), some (.fl (g.map eP)), some (eSt (.t .aw a b c)), some (.tup [.int a, .int b, .int c]), some (.tup ((JL A).map eP)), some (.tup (L.map eV)), some (.bl (!decide (a = c) && (!J A a c && !V A (mn a c) b (mx a c)))), none, none, some (.int a), some (.int b), some (.int c), none, none] [] = some (cond A g (.t .aw a b c)) := by
          refine (and_of (b_of (bin_of (tup_of (xs := [.int a, .int b]) (cons_of (var_of rfl) (cons_of (var_of rfl) nil_of)) (by simp)) (var_of rfl) (in_P (p := (a, b)) rfl false))) fun _ => and_of (b_of (bin_of (mm_of (var_of rfl) (var_of rfl)) (var_of rfl) (iJ G0 rfl b c))) fun _ => tru_of (var_of rfl) rfl).trans ?_
          rfl
        have fin : ∀ u : Bool, cond A g (.t .aw a b c) = u → rIf (rAnd (rB (rBin g_in_ (rTup (rCons (rVar 9) (rCons (rVar 10) rNil))) (rVar 1))) (rAnd (rB (rBin g_in_ (rTup (rCons (rCal gMin2 (rCons (rVar 10) (rCons (rVar 11) rNil))) (rCons (rCal gMax2 (rCons (rVar 10) (rCons (rVar 11) rNil))) rNil))) (rVar 4))) (rTru (rVar 6)))) (rFl (rCons (rTup (rCons (rVar 10) (rCons (rVar 11) rNil))) rNil)) (rFl rNil) [some (eU n A), some (.fl (g.map eP)), some (eSt (.t .aw a b c)), some (.tup [.int a, .int b, .int c]), some (.tup ((JL A).map eP)), some (.tup (L.map eV)), some (.bl (!decide (a = c) && (!J A a c && !V A (mn a c) b (mx a c)))), none, none, some (.int a), some (.int b), some (.int c), none, none] [] = some (.fl ((gives A g (.t .aw a b c)).map eP)) := fun u hu => by
          rw [hu] at c3
          unfold gives
          rw [hu]
          cases u with
          | true => exact (rif_t c3).trans (fl_of (cons_of (tup_of (xs := [.int b, .int c]) (cons_of (var_of rfl) (cons_of (var_of rfl) nil_of)) (by simp)) nil_of) (by show (1 : Nat) ≤ 1000; decide))
          | false => exact (rif_f c3).trans (fl_of nil_of (Nat.zero_le _))
        exact ⟨_, (sq_nx ((if_f (ofRT_of c1)).trans rfl)).trans (sq_rt ((if_t (ofRT_of c2)).trans ((sq_nx rfl).trans ((sq_nx (asg_of (i := 6) (ofR_of ap) (by show (6 : Nat) < 14; decide))).trans (ret_of (ofR_of (fin _ rfl)))))))⟩
      | ri =>
        have c1 : t1 (s5 n A g L (.t .ri a b c)) [] = some false := and_of (b := false) (c := false) (wq (s := .t .ri a b c) rfl .v rfl) (fun z => by cases z)
        have c3 := and_of (u := rB (rBin g_eq (rCal gLen (rCons (rVar 3) rNil)) (rC (.int 3)))) (wq (δ := s5 n A g L (.t .ri a b c)) (G := []) (s := .t .ri a b c) rfl .ri rfl) (fun _ => lq (s := .t .ri a b c) (m := 3) rfl)
        have ap : rAndV (rBin g_in_ (rTup (rCons (rVar 9) (rCons (rVar 10) rNil))) (rVar 1)) (rBin g_in_ (rTup (rCons (rVar 10) (rCons (rVar 11) rNil))) (rVar 1)) [some (eU n A), some (.fl (g.map eP)), some (eSt (.t .ri a b c)), some (.tup [.int a, .int b, .int c]), some (.tup ((JL A).map eP)), some (.tup (L.map eV)), none, none, none, some (.int a), some (.int b), some (.int c), none, none] [] = some (.bl (decide ((a, b) ∈ g) && decide ((b, c) ∈ g))) :=
          andV_of (bin_of (tup_of (xs := [.int a, .int b]) (cons_of (var_of rfl) (cons_of (var_of rfl) nil_of)) (by simp)) (var_of rfl) (in_P (p := (a, b)) rfl false)) fun _ => bin_of (tup_of (xs := [.int b, .int c]) (cons_of (var_of rfl) (cons_of (var_of rfl) nil_of)) (by simp)) (var_of rfl) (in_P (p := (b, c)) rfl false)
        have c4 : rAnd (rTru (rVar 7)) (rB (rBin g_in_ (rTup (rCons (rCal gMin2 (rCons (rVar 9) (rCons (rVar 11) rNil))) (rCons (rCal gMax2 (rCons (rVar 9) (rCons (rVar 11) rNil))) rNil))) (rVar 4))) [some (eU n A), some (.fl (g.map eP)), some (eSt (.t .ri a b c)), some (.tup [.int a, .int b, .int c]), some (.tup ((JL A).map eP)), some (.tup (L.map eV)), none, some (.bl (decide ((a, b) ∈ g) && decide ((b, c) ∈ g))), none, some (.int a), some (.int b), some (.int c), none, none] [] = some (cond A g (.t .ri a b c)) :=
          and_of (tru_of (var_of rfl) rfl) fun _ => b_of (bin_of (mm_of (var_of rfl) (var_of rfl)) (var_of rfl) (iJ G0 rfl a c))
        have fin : ∀ u : Bool, cond A g (.t .ri a b c) = u → rIf (rAnd (rTru (rVar 7)) (rB (rBin g_in_ (rTup (rCons (rCal gMin2 (rCons (rVar 9) (rCons (rVar 11) rNil))) (rCons (rCal gMax2 (rCons (rVar 9) (rCons (rVar 11) rNil))) rNil))) (rVar 4)))) (rFl (rCons (rTup (rCons (rVar 9) (rCons (rVar 11) rNil))) rNil)) (rFl rNil) [some (eU n A), some (.fl (g.map eP)), some (eSt (.t .ri a b c)), some (.tup [.int a, .int b, .int c]), some (.tup ((JL A).map eP)), some (.tup (L.map eV)), none, some (.bl (decide ((a, b) ∈ g) && decide ((b, c) ∈ g))), none, some (.int a), some (.int b), some (.int c), none, none] [] = some (.fl ((gives A g (.t .ri a b c)).map eP)) := fun u hu => by
          rw [hu] at c4
          unfold gives
          rw [hu]
          cases u with
          | true => exact (rif_t c4).trans (fl_of (cons_of (tup_of (xs := [.int a, .int c]) (cons_of (var_of rfl) (cons_of (var_of rfl) nil_of)) (by simp)) nil_of) (by show (1 : Nat) ≤ 1000; decide))
          | false => exact (rif_f c4).trans (fl_of nil_of (Nat.zero_le _))
        exact ⟨_, (sq_nx ((if_f (ofRT_of c1)).trans rfl)).trans ((sq_nx ((if_f (ofRT_of (and_of (b := false) (c := false) (wq (s := .t .ri a b c) rfl .aw rfl) (fun z => by cases z)))).trans rfl)).trans (sq_rt ((if_t (ofRT_of c3)).trans ((sq_nx rfl).trans ((sq_nx (asg_of (i := 7) (ofR_of ap) (by show (7 : Nat) < 14; decide))).trans (ret_of (ofR_of (fin _ rfl))))))))⟩
    | k a b c d =>
      have c1 : t1 (s5 n A g L (.k a b c d)) [] = some false := and_of (b := false) (c := false) (wq (s := .k a b c d) rfl .v rfl) (fun z => by cases z)
      have c3 := and_of (u := rB (rBin g_eq (rCal gLen (rCons (rVar 3) rNil)) (rC (.int 4)))) (wq (δ := s5 n A g L (.k a b c d)) (G := []) (s := .k a b c d) rfl .ki rfl) (fun _ => lq (s := .k a b c d) (m := 4) rfl)
      have jv : rCal gAll (rCons (rLc (iTupR (rTup (rCons (rVar 10) (rCons (rVar 11) (rCons (rVar 12) rNil))))) (setN 13) cYes (rBin g_in_ (rTup (rCons (rCal gMin2 (rCons (rVar 9) (rCons (rVar 13) rNil))) (rCons (rCal gMax2 (rCons (rVar 9) (rCons (rVar 13) rNil))) rNil))) (rVar 4)) [13]) rNil) [some (eU n A), some (.fl (g.map eP)), some (eSt (.k a b c d)), some (.tup [.int a, .int b, .int c, .int d]), some (.tup ((JL A).map eP)), some (.tup (L.map eV)), none, none, none, some (.int a), some (.int b), some (.int c), some (.int d), none] [] = some (.bl (J A a b && (J A a c && J A a d))) := by
        refine (cal1_of (rlc_of D.int (fun x => [some (eU n A), some (.fl (g.map eP)), some (eSt (.k a b c d)), some (.tup [.int a, .int b, .int c, .int d]), some (.tup ((JL A).map eP)), some (.tup (L.map eV)), none, none, none, some (.int a), some (.int b), some (.int c), some (.int d), some (.int x)]) (fun _ => true) (fun x => .bl (J A a x)) [b, c, d] (itup_of (tup_of (cons_of (var_of rfl) (cons_of (var_of rfl) (cons_of (var_of rfl) nil_of))) (by simp))) (by simp) fun x hx => ⟨rfl, rfl, fun _ => bin_of (mm_of (var_of rfl) (var_of rfl)) (var_of rfl) (iJ G0 rfl a x)⟩) ((all_bl [J A a b, J A a c, J A a d]).trans ?_))
        simp
      have ap : rAndV (rBin g_ltA (rVar 10) (rVar 11)) (rAndV (rBin g_nin (rTup (rCons (rVar 10) (rCons (rVar 11) rNil))) (rVar 4)) (rBin g_nin (rTup (rCons (rVar 10) (rCons (rVar 9) (rCons (rVar 11) rNil)))) (rVar 5))) [some (eU n A), some (.fl (g.map eP)), some (eSt (.k a b c d)), some (.tup [.int a, .int b, .int c, .int d]), some (.tup ((JL A).map eP)), some (.tup (L.map eV)), none, none, some (.bl (J A a b && (J A a c && J A a d))), some (.int a), some (.int b), some (.int c), some (.int d), none] [] = some (.bl (decide (b < c) && (!J A b c && !V A b a c))) := by
        by_cases hb : b < c
        · refine andV_of (bin_of (var_of rfl) (var_of rfl) (lt_ii _ _)) fun _ => andV_of (bin_of (tup_of (xs := [.int b, .int c]) (cons_of (var_of rfl) (cons_of (var_of rfl) nil_of)) (by simp)) (var_of rfl) ((in_P (p := (b, c)) rfl true).trans ?_)) fun _ => bin_of (tup_of (xs := [.int b, .int a, .int c]) (cons_of (var_of rfl) (cons_of (var_of rfl) (cons_of (var_of rfl) nil_of))) (by simp)) (var_of rfl) ((in_V (p := (b, a, c)) rfl true).trans ?_)
          · rw [if_pos rfl, show decide ((b, c) ∈ JL A) = J A b c by rw [Bool.eq_iff_iff, decide_eq_true_eq]; exact mem_JL' (aR' G0) hb]
          · rw [if_pos rfl, dV]
        · rw [decide_eq_false hb]
          exact andV_of (b := false) (c := (!J A b c && !V A b a c)) (bin_of (var_of rfl) (var_of rfl) ((lt_ii _ _).trans (by rw [decide_eq_false hb]))) (fun z => by cases z)
      have c4 : rAnd (rTru (rVar 8)) (rAnd (rTru (rVar 6)) (rAnd (rB (rBin g_in_ (rTup (rCons (rVar 10) (rCons (rVar 12) rNil))) (rVar 1))) (rB (rBin g_in_ (rTup (rCons (rVar 11) (rCons (rVar 12) rNil))) (rVar 1))))) [some (eU n A), some (.fl (g.map eP)), some (eSt (.k a b c d)), some (.tup [.int a, .int b, .int c, .int d]), some (.tup ((JL A).map eP)), some (.tup (L.map eV)), some (.bl (decide (b < c) && (!J A b c && !V A b a c))), none, some (.bl (J A a b && (J A a c && J A a d))), some (.int a), some (.int b), some (.int c), some (.int d), none] [] = some (cond A g (.k a b c d)) :=
        and_of (tru_of (var_of rfl) rfl) fun _ => and_of (tru_of (var_of rfl) rfl) fun _ => and_of (b_of (bin_of (tup_of (xs := [.int b, .int d]) (cons_of (var_of rfl) (cons_of (var_of rfl) nil_of)) (by simp)) (var_of rfl) (in_P (p := (b, d)) rfl false))) fun _ => b_of (bin_of (tup_of (xs := [.int c, .int d]) (cons_of (var_of rfl) (cons_of (var_of rfl) nil_of)) (by simp)) (var_of rfl) (in_P (p := (c, d)) rfl false))
      have fin : ∀ u : Bool, cond A g (.k a b c d) = u → rIf (rAnd (rTru (rVar 8)) (rAnd (rTru (rVar 6)) (rAnd (rB (rBin g_in_ (rTup (rCons (rVar 10) (rCons (rVar 12) rNil))) (rVar 1))) (rB (rBin g_in_ (rTup (rCons (rVar 11) (rCons (rVar 12) rNil))) (rVar 1)))))) (rFl (rCons (rTup (rCons (rVar 9) (rCons (rVar 12) rNil))) rNil)) (rFl rNil) [some (eU n A), some (.fl (g.map eP)), some (eSt (.k a b c d)), some (.tup [.int a, .int b, .int c, .int d]), some (.tup ((JL A).map eP)), some (.tup (L.map eV)), some (.bl (decide (b < c) && (!J A b c && !V A b a c))), none, some (.bl (J A a b && (J A a c && J A a d))), some (.int a), some (.int b), some (.int c), some (.int d), none] [] = some (.fl ((gives A g (.k a b c d)).map eP)) := fun u hu => by
        rw [hu] at c4
        unfold gives
        rw [hu]
        cases u with
        | true => exact (rif_t c4).trans (fl_of (cons_of (tup_of (xs := [.int a, .int d]) (cons_of (var_of rfl) (cons_of (var_of rfl) nil_of)) (by simp)) nil_of) (by show (1 : Nat) ≤ 1000; decide))
        | false => exact (rif_f c4).trans (fl_of nil_of (Nat.zero_le _))
      exact ⟨_, (sq_nx ((if_f (ofRT_of c1)).trans rfl)).trans ((sq_nx ((if_f (ofRT_of (and_of (b := false) (c := false) (wq (s := .k a b c d) rfl .aw rfl) (fun z => by cases z)))).trans rfl)).trans ((sq_nx ((if_f (ofRT_of (and_of (b := false) (c := false) (wq (s := .k a b c d) rfl .ri rfl) (fun z => by cases z)))).trans rfl)).trans
        (sq_rt ((if_t (ofRT_of c3)).trans ((sq_nx rfl).trans ((sq_nx (asg_of (i := 8) (ofR_of jv) (by show (8 : Nat) < 14; decide))).trans ((sq_nx (asg_of (i := 6) (ofR_of ap) (by show (6 : Nat) < 14; decide))).trans (ret_of (ofR_of (fin _ rfl))))))))))⟩
  obtain ⟨δ', key⟩ := key
  exact fnP_of ((sq_nx a1).trans ((sq_nx ((if_f (ofRT_of t0)).trans rfl)).trans ((sq_nx a2).trans ((sq_nx ((if_f (ofRT_of (not_f (tru_of hall rfl)))).trans rfl)).trans key)))) (by simp [D.im, ims_map eP_im])
end
end K44
namespace FL
open PySem PySem.Spec PyProof.Rows L2
theorem rens_im {f : Nat → Option Nat} : ∀ {ds : List D}, ims ds = true → rens f ds = some ds
  | [], _ => rfl
  | d :: ds, h => by
    simp only [ims, Bool.and_eq_true] at h
    have e : ren f d = some d := by
      unfold ren
      rw [if_pos h.1]
    unfold rens
    rw [e, rens_im h.2]
    rfl
theorem rfs_im : ∀ {ds : List D}, ims ds = true → rfs ds = []
  | [], _ => rfl
  | d :: ds, h => by
    simp only [ims, Bool.and_eq_true] at h
    cases d <;> first | (simp only [rfs]; exact rfs_im h.2) | (have := h.1; simp [D.im] at this)
/-- a call that is given one dict, the first root -/
theorem callM_d {F : List D → Hs → Option (D × Hs)} {d1 d : D} {rest : List D} {kvs : List (D × D)} {tl : Hs} (h1 : d1.im = true) (h2 : ims rest = true) (fl : (GO.dct kvs).flat = true) (hd : d.im = true)
    (hF : F (d1 :: .rf 0 :: rest) [.dct kvs] = some (d, [.dct kvs])) : callM F (d1 :: .rf 0 :: rest) (.dct kvs :: tl) = some (d, .dct kvs :: tl) := by
  have hr : reach (.dct kvs :: tl) (d1 :: .rf 0 :: rest) = [0] := by
    unfold reach
    have e : rfs (d1 :: .rf 0 :: rest) = [0] := by
      have e0 : rfs (D.rf 0 :: rest) = [0] := by simp only [rfs, rfs_im h2]
      cases d1 <;> first | (simp only [rfs] at e0 ⊢; exact e0) | (simp [D.im] at h1)
    rw [e]
    rfl
  have e1 : ∀ f : Nat → Option Nat, f 0 = some 0 → rens f (d1 :: .rf 0 :: rest) = some (d1 :: .rf 0 :: rest) := fun f hf => by
    have a1 : ren f d1 = some d1 := by
      unfold ren
      rw [if_pos h1]
    have a2 : ren f (.rf 0) = some (.rf 0) := by
      unfold ren
      rw [if_neg (by simp [D.im])]
      show (f 0).map D.rf = _
      rw [hf]
      rfl
    simp only [rens, a1, a2, rens_im h2, Option.bind_some]
  have e2 : ∀ f : Nat → Option Nat, renOs f [.dct kvs] = some [.dct kvs] := fun f => by
    simp only [renOs, renO, fl, if_true, Option.bind_some]
  have e3 : ∀ f : Nat → Option Nat, ren f d = some d := fun f => by
    unfold ren
    rw [if_pos hd]
  unfold callM callK
  rw [hr, if_pos (by simp)]
  have p : pickG (.dct kvs :: tl) [0] = some [.dct kvs] := rfl
  rw [p, Option.bind_some, e2, Option.bind_some, e1 (fun k => List.idxOf? k [0]) rfl, Option.bind_some, hF, Option.bind_some, e2, Option.bind_some, e3, Option.bind_some, if_pos (by simp)]
  simp [putG]
end FL
namespace K44
open PySem PySem.Spec PyProof.Rows L2 FL
section
variable {n : Nat} {A : List Pq} {g : List Pq}
def eK (g : List Pq) : List (D × D) := g.map fun p => (eP p, .bl true)
theorem eK_flat (g : List Pq) : (GO.dct (eK g)).flat = true := by
  have h1 : (eK g).map (·.1) = g.map eP := by unfold eK; rw [List.map_map]; rfl
  have h2 : (eK g).map (·.2) = g.map fun _ => D.bl true := by unfold eK; rw [List.map_map]; rfl
  simp only [GO.flat, h1, h2, ims_map eP_im, ims_map (e := fun _ : Pq => D.bl true) (fun _ => rfl), Bool.and_self]
def kP (p : Pq) : NestedKey := .tup [.num p.1, .num p.2]
theorem keyD_P (p : Pq) : keyD (eP p) = some (kP p) := rfl
theorem nk_P (p : Pq) : nk (eP p) = some (kP p) := rfl
theorem kP_inj {p q : Pq} : kP p = kP q ↔ p = q := by
  obtain ⟨a, b⟩ := p
  obtain ⟨c, d⟩ := q
  simp [kP]
theorem valD_eK (g : List Pq) (p : Pq) : (valD (eK g) (kP p)).isSome = decide (p ∈ g) := by
  unfold valD
  rw [Option.isSome_map]
  induction g with
  | nil => rfl
  | cons q g ih =>
    have e : decide (nk (eP q) = some (kP p)) = decide (q = p) := by
      rw [nk_P, Bool.eq_iff_iff, decide_eq_true_eq, decide_eq_true_eq]
      exact ⟨fun h => kP_inj.mp (Option.some.inj h), fun h => by rw [h]⟩
    show (List.find? _ ((eP q, D.bl true) :: eK g)).isSome = _
    rw [List.find?_cons]
    simp only [e]
    by_cases hq : q = p
    · subst hq
      simp
    · rw [decide_eq_false hq]
      simp only
      rw [ih]
      simp [Ne.symm hq]
theorem inD_P {G : Hs} {k : Nat} (hG : G[k]? = some (.dct (eK g))) (neg : Bool) (p : Pq) : inDct neg G (eP p) (.rf k) = some (.bl (neg != decide (p ∈ g))) := by
  unfold inDct dctG
  simp only [hG, Option.bind_some, keyD_P, valD_eK]
theorem gmany (A : List Pq) : ∀ {δ : Env'} {G : Hs} {i : Nat}, δ[i]? = some (some (eM n A [])) → rAttr "arrows" (rVar i) δ G = some (.tup (A.map eP)) := fun h => attr_of (C := "Web") (ns := ["many", "arrows", "ties"]) (ds := [.int n, .tup (A.map eP), .tup []]) (var_of h) rfl
theorem jq {δ : Env'} {G : Hs} {fw fa fb : RE} {x y : Int} (hw : fw δ G = some (eM n A [])) (ha : fa δ G = some (.int x)) (hb : fb δ G = some (.int y)) : rCallP 3 f_are_joined (rCons fw (rCons fa (rCons fb rNil))) δ G = some (.bl (J A x y)) :=
  callP_of (ds := [eM n A [], .int x, .int y]) (cons_of hw (cons_of ha (cons_of hb nil_of))) (by have := eM_im n A []; simp [ims, this, D.im]) rfl (are_joined_P n A x y)
/-- the program's meetings asked -/
theorem vq (G0 : Good n A []) {δ : Env'} {G : Hs} {fw ft : RE} {t : Tr} (neg : Bool) (hw : fw δ G = some (eM n A [])) (ht : ft δ G = some (eV t)) : rBin (fIn neg) ft (rCallP 1 f_vees_of (rCons fw rNil)) δ G = some (.bl (if neg = true then !V A t.1 t.2.1 t.2.2 else V A t.1 t.2.1 t.2.2)) := by
  obtain ⟨L, hp, hL, hv⟩ := vees_of_P (n := n) G0.n2 G0.aL
  have dV : decide (t ∈ L) = V A t.1 t.2.1 t.2.2 := by
    rw [Bool.eq_iff_iff, decide_eq_true_eq]
    exact hp.mem_iff.trans (mem_wL (fun p hp => ⟨(G0.aR p hp).2.2.1, (G0.aR p hp).2.2.2.1⟩) t.1 t.2.1 t.2.2)
  refine bin_of ht (callP_of (ds := [eM n A []]) (cons_of hw nil_of) (by have := eM_im n A []; simp [ims, this]) rfl hv) ((in_V (p := t) rfl neg).trans ?_)
  rw [dV]
def awy (A : List Pq) (a b c : Int) : Bool := !decide (a = c) && (!J A a c && !V A (mn a c) b (mx a c))
theorem is_away_P (G0 : Good n A []) (a b c : Int) : f_is_away [eM n A [], .int a, .int b, .int c] = some (.bl (awy A a b c)) := by
  have t : rOr (rB (rBin g_eq (rVar 1) (rVar 3))) (rTru (rCallP 3 f_are_joined (rCons (rVar 0) (rCons (rVar 1) (rCons (rVar 3) rNil))))) (slots 4 [eM n A [], .int a, .int b, .int c]) [] = some (decide (a = c) || J A a c) :=
    or_of (b_of (bin_of (var_of rfl) (var_of rfl) (eq_ii _ _))) fun _ => tru_of (jq (var_of rfl) (var_of rfl) (var_of rfl)) rfl
  cases hc : (decide (a = c) || J A a c) with
  | true =>
    rw [hc] at t
    have e : awy A a b c = false := by
      unfold awy
      rw [Bool.or_eq_true] at hc
      rcases hc with hc | hc <;> rw [hc] <;> simp
    rw [e]
    exact fnP_of (sq_rt ((if_t (ofRT_of t)).trans (ret_of (ofR_of c_of)))) rfl
  | false =>
    rw [hc] at t
    have e : awy A a b c = !V A (mn a c) b (mx a c) := by
      unfold awy
      rw [Bool.or_eq_false_iff] at hc
      rw [hc.1, hc.2]
      simp
    rw [e]
    exact fnP_of ((sq_nx ((if_f (ofRT_of t)).trans rfl)).trans (ret_of (ofR_of ((vq G0 (t := (mn a c, b, mx a c)) true (var_of rfl) (tup_of (xs := [.int (mn a c), .int b, .int (mx a c)]) (cons_of (cal2_of (var_of rfl) (var_of rfl) rfl) (cons_of (var_of rfl) (cons_of (cal2_of (var_of rfl) (var_of rfl) rfl) nil_of))) (by simp))).trans (by rw [if_pos rfl]))))) rfl
def kt (A g : List Pq) (a b c d : Int) : Bool := !(!decide ((b, d) ∈ g) || (!decide ((c, d) ∈ g) || J A b c)) && (!V A b a c && (J A a b && (J A a c && (!decide (a = b) && !decide (a = c)))))
theorem is_kite_P (G0 : Good n A []) (a b c d : Int) : f_is_kite [eM n A [], .rf 0, .int a, .int b, .int c, .int d] [.dct (eK g)] = some (.bl (kt A g a b c d), [.dct (eK g)]) := by
  have t1 : rOr (rB (rBin g_ninD (rTup (rCons (rVar 3) (rCons (rVar 5) rNil))) (rVar 1))) (rOr (rB (rBin g_ninD (rTup (rCons (rVar 4) (rCons (rVar 5) rNil))) (rVar 1))) (rTru (rCallP 3 f_are_joined (rCons (rVar 0) (rCons (rVar 3) (rCons (rVar 4) rNil)))))) (slots 6 [eM n A [], .rf 0, .int a, .int b, .int c, .int d]) [.dct (eK g)] = some (!decide ((b, d) ∈ g) || (!decide ((c, d) ∈ g) || J A b c)) :=
    or_of (b_of (bin_of (tup_of (xs := [.int b, .int d]) (cons_of (var_of rfl) (cons_of (var_of rfl) nil_of)) (by simp)) (var_of rfl) ((inD_P (k := 0) (g := g) rfl true (b, d)).trans (by simp)))) fun _ => or_of (b_of (bin_of (tup_of (xs := [.int c, .int d]) (cons_of (var_of rfl) (cons_of (var_of rfl) nil_of)) (by simp)) (var_of rfl) ((inD_P (k := 0) (g := g) rfl true (c, d)).trans (by simp)))) fun _ => tru_of (jq (var_of rfl) (var_of rfl) (var_of rfl)) rfl
  have t2 : rB (rBin g_in_ (rTup (rCons (rVar 3) (rCons (rVar 2) (rCons (rVar 4) rNil)))) (rCallP 1 f_vees_of (rCons (rVar 0) rNil))) (slots 6 [eM n A [], .rf 0, .int a, .int b, .int c, .int d]) [.dct (eK g)] = some (V A b a c) :=
    b_of ((vq G0 (t := (b, a, c)) false (var_of rfl) (tup_of (xs := [.int b, .int a, .int c]) (cons_of (var_of rfl) (cons_of (var_of rfl) (cons_of (var_of rfl) nil_of))) (by simp))).trans (by rw [if_neg (by simp)]))
  have t3 : rAndV (rCallP 3 f_are_joined (rCons (rVar 0) (rCons (rVar 2) (rCons (rVar 3) rNil)))) (rAndV (rCallP 3 f_are_joined (rCons (rVar 0) (rCons (rVar 2) (rCons (rVar 4) rNil)))) (rAndV (rBin g_ne (rVar 2) (rVar 3)) (rBin g_ne (rVar 2) (rVar 4)))) (slots 6 [eM n A [], .rf 0, .int a, .int b, .int c, .int d]) [.dct (eK g)] = some (.bl (J A a b && (J A a c && (!decide (a = b) && !decide (a = c))))) :=
    andV_of (jq (var_of rfl) (var_of rfl) (var_of rfl)) fun _ => andV_of (jq (var_of rfl) (var_of rfl) (var_of rfl)) fun _ => andV_of (bin_of (var_of rfl) (var_of rfl) (ne_ii _ _)) fun _ => bin_of (var_of rfl) (var_of rfl) (ne_ii _ _)
  unfold f_is_kite fnM
  cases h1 : (!decide ((b, d) ∈ g) || (!decide ((c, d) ∈ g) || J A b c)) with
  | true =>
    rw [h1] at t1
    have e : kt A g a b c d = false := by unfold kt; rw [h1]; rfl
    have hb : b_is_kite (slots 6 [eM n A [], .rf 0, .int a, .int b, .int c, .int d]) [.dct (eK g)] = some (.rt (.bl false), _, _) := sq_rt ((if_t (ofRT_of t1)).trans (ret_of (ofR_of c_of)))
    rw [hb, e]
    rfl
  | false =>
    rw [h1] at t1
    cases h2 : V A b a c with
    | true =>
      rw [h2] at t2
      have e : kt A g a b c d = false := by unfold kt; rw [h2]; simp
      have hb : b_is_kite (slots 6 [eM n A [], .rf 0, .int a, .int b, .int c, .int d]) [.dct (eK g)] = some (.rt (.bl false), _, _) := (sq_nx ((if_f (ofRT_of t1)).trans rfl)).trans (sq_rt ((if_t (ofRT_of t2)).trans (ret_of (ofR_of c_of))))
      rw [hb, e]
      rfl
    | false =>
      rw [h2] at t2
      have e : kt A g a b c d = (J A a b && (J A a c && (!decide (a = b) && !decide (a = c)))) := by unfold kt; rw [h1, h2]; rfl
      have hb : b_is_kite (slots 6 [eM n A [], .rf 0, .int a, .int b, .int c, .int d]) [.dct (eK g)] = some (.rt (.bl (J A a b && (J A a c && (!decide (a = b) && !decide (a = c))))), _, _) := (sq_nx ((if_f (ofRT_of t1)).trans rfl)).trans ((sq_nx ((if_f (ofRT_of t2)).trans rfl)).trans (ret_of (ofR_of t3)))
      rw [hb, e]
      rfl
end
end K44
namespace K44
open PySem PySem.Spec PyProof.Rows L2 FL
section
variable {n : Nat} {A : List Pq} {g : List Pq}
abbrev q1 : SS := (sSeq (sIf (ofRT (rB (rBin g_eq (rVar 4) (rC (.str "v")))))
   (sRet (ofR (rIf (rB (rBin g_in_ (rSlT (rVar 2) (partD (some (rC (.int 1)))) (partD none)) (rCallP 1 f_vees_of (rCons (rVar 0) rNil)))) (rFl (rCons (rTup (rCons (rVar 5) (rCons (rBin ixA (rVar 2) (rC (.int 2))) rNil))) (rCons (rTup (rCons (rBin ixA (rVar 2) (rC (.int 3))) (rCons (rBin ixA (rVar 2) (rC (.int 2))) rNil))) rNil))) (rC .non))))
   FL.sNil)
  (sSeq (sAsg (ofR (rIf (rB (rBin g_eq (rVar 4) (rC (.str "away")))) (rTup (rCons (rBin ixA (rVar 2) (rC (.int 2))) (rCons (rBin ixA (rVar 2) (rC (.int 3))) rNil))) (rTup (rCons (rVar 5) (rCons (rBin ixA (rVar 2) (rNeg (rC (.int 1)))) rNil))))) (setN 3))
  (sSeq (sIf (ofRT (rOr (rB (rBin g_eq (rBin ixA (rVar 3) (rC (.int 0))) (rBin ixA (rVar 3) (rC (.int 1))))) (rNot (rTru (rCallP 3 f_are_joined (rCons (rVar 0) (rCons (rBin ixA (rVar 3) (rC (.int 0))) (rCons (rBin ixA (rVar 3) (rC (.int 1))) rNil))))))))
   (sRet (ofR (rC .non)))
   FL.sNil)
  (sSeq (sIf (ofRT (rB (rBin g_eq (rVar 4) (rC (.str "away")))))
   (sAsg (ofR (rAndV (rBin g_inD (rTup (rCons (rVar 5) (rCons (rBin ixA (rVar 2) (rC (.int 2))) rNil))) (rVar 1)) (rCallP 4 f_is_away (rCons (rVar 0) (rCons (rVar 5) (rCons (rBin ixA (rVar 2) (rC (.int 2))) (rCons (rBin ixA (rVar 2) (rC (.int 3))) rNil))))))) (setN 6))
   (sIf (ofRT (rB (rBin g_eq (rVar 4) (rC (.str "ring")))))
    (sAsg (ofR (rAndV (rBin g_inD (rTup (rCons (rVar 5) (rCons (rBin ixA (rVar 2) (rC (.int 2))) rNil))) (rVar 1)) (rBin g_inD (rTup (rCons (rBin ixA (rVar 2) (rC (.int 2))) (rCons (rBin ixA (rVar 2) (rC (.int 3))) rNil))) (rVar 1)))) (setN 6))
    (sAsg (eAndV (ofR (rBin g_ltA (rBin ixA (rVar 2) (rC (.int 2))) (rBin ixA (rVar 2) (rC (.int 3))))) (eCallM 6 f_is_kite (eCons (ofR (rVar 0)) (eCons (ofR (rVar 1)) (eCons (ofR (rVar 5)) (eCons (ofR (rBin ixA (rVar 2) (rC (.int 2)))) (eCons (ofR (rBin ixA (rVar 2) (rC (.int 3)))) (eCons (ofR (rBin ixA (rVar 2) (rC (.int 4)))) (ofRA rNil))))))))) (setN 6))))
  (sRet (ofR (rIf (rTru (rVar 6)) (rFl (rCons (rVar 3) rNil)) (rC .non))))))))
abbrev q2 : SS := (sSeq (sAsg (ofR (rIf (rB (rBin g_eq (rVar 4) (rC (.str "away")))) (rTup (rCons (rBin ixA (rVar 2) (rC (.int 2))) (rCons (rBin ixA (rVar 2) (rC (.int 3))) rNil))) (rTup (rCons (rVar 5) (rCons (rBin ixA (rVar 2) (rNeg (rC (.int 1)))) rNil))))) (setN 3))
  (sSeq (sIf (ofRT (rOr (rB (rBin g_eq (rBin ixA (rVar 3) (rC (.int 0))) (rBin ixA (rVar 3) (rC (.int 1))))) (rNot (rTru (rCallP 3 f_are_joined (rCons (rVar 0) (rCons (rBin ixA (rVar 3) (rC (.int 0))) (rCons (rBin ixA (rVar 3) (rC (.int 1))) rNil))))))))
   (sRet (ofR (rC .non)))
   FL.sNil)
  (sSeq (sIf (ofRT (rB (rBin g_eq (rVar 4) (rC (.str "away")))))
   (sAsg (ofR (rAndV (rBin g_inD (rTup (rCons (rVar 5) (rCons (rBin ixA (rVar 2) (rC (.int 2))) rNil))) (rVar 1)) (rCallP 4 f_is_away (rCons (rVar 0) (rCons (rVar 5) (rCons (rBin ixA (rVar 2) (rC (.int 2))) (rCons (rBin ixA (rVar 2) (rC (.int 3))) rNil))))))) (setN 6))
   (sIf (ofRT (rB (rBin g_eq (rVar 4) (rC (.str "ring")))))
    (sAsg (ofR (rAndV (rBin g_inD (rTup (rCons (rVar 5) (rCons (rBin ixA (rVar 2) (rC (.int 2))) rNil))) (rVar 1)) (rBin g_inD (rTup (rCons (rBin ixA (rVar 2) (rC (.int 2))) (rCons (rBin ixA (rVar 2) (rC (.int 3))) rNil))) (rVar 1)))) (setN 6))
    (sAsg (eAndV (ofR (rBin g_ltA (rBin ixA (rVar 2) (rC (.int 2))) (rBin ixA (rVar 2) (rC (.int 3))))) (eCallM 6 f_is_kite (eCons (ofR (rVar 0)) (eCons (ofR (rVar 1)) (eCons (ofR (rVar 5)) (eCons (ofR (rBin ixA (rVar 2) (rC (.int 2)))) (eCons (ofR (rBin ixA (rVar 2) (rC (.int 3)))) (eCons (ofR (rBin ixA (rVar 2) (rC (.int 4)))) (ofRA rNil))))))))) (setN 6))))
  (sRet (ofR (rIf (rTru (rVar 6)) (rFl (rCons (rVar 3) rNil)) (rC .non)))))))
def gR (A g : List Pq) (s : Stp) : D := if cond A g s = true then .fl ((outs s).map eP) else .non
theorem gR_im (A g : List Pq) (s : Stp) : (gR A g s).im = true := by
  unfold gR
  split
  · simp [D.im, ims_map eP_im]
  · rfl
abbrev e6 (n : Nat) (A : List Pq) (s : Stp) (x : Int) : Env' := [some (eM n A []), some (.rf 0), some (eSt s), none, some (.str s.w.s), some (.int x), none, none]
theorem tabW (w : W4) : tabHas t_LENGTHS w.s = true := by cases w <;> decide +kernel
theorem tabG (s : Stp) : tabGet t_LENGTHS s.w.s = some ((s.sp.length : Int) + 1) := by
  cases s with
  | t w a b c =>
    cases w
    · show tabGet t_LENGTHS W4.v.s = some 4
      decide +kernel
    · show tabGet t_LENGTHS W4.aw.s = some 4
      decide +kernel
    · show tabGet t_LENGTHS W4.ri.s = some 4
      decide +kernel
  | k a b c d => show tabGet t_LENGTHS W4.ki.s = some 5; decide +kernel
theorem ruleq {G : Hs} {δ : Env'} {w : W4} (h : δ[4]? = some (some (.str w.s))) (b : W4) {x : Str} (hx : x = b.s) : rB (rBin g_eq (rVar 4) (rC (.str x))) δ G = some (decide (w = b)) := by
  subst hx
  exact b_of (bin_of (var_of h) c_of (eq_ww _ _))
theorem st_ix {G : Hs} {δ : Env'} {s : Stp} (h : δ[2]? = some (some (eSt s))) {i : Nat} {x : Int} (hx : s.sp[i]? = some x) {j : Int} (hj : j = (i : Int) + 1) : rBin ixA (rVar 2) (rC (.int j)) δ G = some (.int x) := by
  subst hj
  refine bin_of (var_of h) c_of ((ixA_tup _ _).trans ?_)
  rw [show ((i : Int) + 1) = ((i + 1 : Nat) : Int) by omega, at_nat, List.getElem?_cons_succ, List.getElem?_map, hx]
  rfl
theorem st_last {G : Hs} {δ : Env'} {s : Stp} (h : δ[2]? = some (some (eSt s))) {x : Int} (hx : s.sp.getLast? = some x) : rBin ixA (rVar 2) (rNeg (rC (.int 1))) δ G = some (.int x) := by
  refine bin_of (var_of h) rfl ((ixA_tup _ _).trans ?_)
  show L2.atI (D.str s.w.s :: s.sp.map .int) (-1) = _
  rw [at_m1]
  cases s with
  | t w a b c =>
    have : c = x := by simpa [Stp.sp] using hx
    subst this
    rfl
  | k a b c d =>
    have : d = x := by simpa [Stp.sp] using hx
    subst this
    rfl
theorem eq00 {δ : Env'} {G : Hs} {x y : Int} (G0 : Good n A []) (h0 : δ[0]? = some (some (eM n A []))) (h3 : δ[3]? = some (some (eP (x, y)))) : rOr (rB (rBin g_eq (rBin ixA (rVar 3) (rC (.int 0))) (rBin ixA (rVar 3) (rC (.int 1))))) (rNot (rTru (rCallP 3 f_are_joined (rCons (rVar 0) (rCons (rBin ixA (rVar 3) (rC (.int 0))) (rCons (rBin ixA (rVar 3) (rC (.int 1))) rNil)))))) δ G = some (!J A x y) := by
  have i0 : rBin ixA (rVar 3) (rC (.int 0)) δ G = some (.int x) := bin_of (var_of h3) c_of ((ixA_tup _ _).trans (at_0 _ _))
  have i1 : rBin ixA (rVar 3) (rC (.int 1)) δ G = some (.int y) := bin_of (var_of h3) c_of ((ixA_tup _ _).trans (at_1 _ _ _))
  refine (or_of (b_of (bin_of i0 i1 (eq_ii _ _))) fun _ => not_of (tru_of (jq (var_of h0) i0 i1) rfl)).trans ?_
  by_cases hxy : x = y
  · subst hxy
    rw [J_irr (aR' G0)]
    simp
  · rw [decide_eq_false hxy, Bool.false_or]
theorem fin_rR {δ : Env'} {G : Hs} {u : Bool} {d : D} (h6 : δ[6]? = some (some (.bl u))) (h3 : δ[3]? = some (some d)) : rIf (rTru (rVar 6)) (rFl (rCons (rVar 3) rNil)) (rC .non) δ G = some (if u = true then .fl [d] else .non) := by
  cases u with
  | true => exact (rif_t (tru_of (var_of h6) rfl)).trans (fl_of (cons_of (var_of h3) nil_of) (by show (1 : Nat) ≤ 1000; decide))
  | false => exact (rif_f (tru_of (var_of h6) rfl)).trans c_of
theorem tailQ (G0 : Good n A []) (s : Stp) (x y z : Int) (u : Bool) (hw : s.w ≠ .v) (hg : gR A g s = if (J A y z && u) = true then .fl [eP (y, z)] else .non)
    (ha : rIf (rB (rBin g_eq (rVar 4) (rC (.str "away")))) (rTup (rCons (rBin ixA (rVar 2) (rC (.int 2))) (rCons (rBin ixA (rVar 2) (rC (.int 3))) rNil))) (rTup (rCons (rVar 5) (rCons (rBin ixA (rVar 2) (rNeg (rC (.int 1)))) rNil))) (e6 n A s x) [.dct (eK g)] = some (eP (y, z)))
    (hu : ∃ δ', (sIf (ofRT (rB (rBin g_eq (rVar 4) (rC (.str "away")))))
   (sAsg (ofR (rAndV (rBin g_inD (rTup (rCons (rVar 5) (rCons (rBin ixA (rVar 2) (rC (.int 2))) rNil))) (rVar 1)) (rCallP 4 f_is_away (rCons (rVar 0) (rCons (rVar 5) (rCons (rBin ixA (rVar 2) (rC (.int 2))) (rCons (rBin ixA (rVar 2) (rC (.int 3))) rNil))))))) (setN 6))
   (sIf (ofRT (rB (rBin g_eq (rVar 4) (rC (.str "ring")))))
    (sAsg (ofR (rAndV (rBin g_inD (rTup (rCons (rVar 5) (rCons (rBin ixA (rVar 2) (rC (.int 2))) rNil))) (rVar 1)) (rBin g_inD (rTup (rCons (rBin ixA (rVar 2) (rC (.int 2))) (rCons (rBin ixA (rVar 2) (rC (.int 3))) rNil))) (rVar 1)))) (setN 6))
    (sAsg (eAndV (ofR (rBin g_ltA (rBin ixA (rVar 2) (rC (.int 2))) (rBin ixA (rVar 2) (rC (.int 3))))) (eCallM 6 f_is_kite (eCons (ofR (rVar 0)) (eCons (ofR (rVar 1)) (eCons (ofR (rVar 5)) (eCons (ofR (rBin ixA (rVar 2) (rC (.int 2)))) (eCons (ofR (rBin ixA (rVar 2) (rC (.int 3)))) (eCons (ofR (rBin ixA (rVar 2) (rC (.int 4)))) (ofRA rNil))))))))) (setN 6)))) [some (eM n A []), some (.rf 0), some (eSt s), some (eP (y, z)), some (.str s.w.s), some (.int x), none, none] [.dct (eK g)] = some (.nx, δ', [.dct (eK g)]) ∧ δ'[6]? = some (some (.bl u)) ∧ δ'[3]? = some (some (eP (y, z)))) :
    ∃ δ', q1 (e6 n A s x) [.dct (eK g)] = some (.rt (gR A g s), δ', [.dct (eK g)]) := by
  have c1 : rB (rBin g_eq (rVar 4) (rC (.str "v"))) (e6 n A s x) [.dct (eK g)] = some false := (ruleq (w := s.w) rfl .v rfl).trans (by rw [decide_eq_false hw])
  have a3 := asg_of (i := 3) (ofR_of ha) (by show (3 : Nat) < 8; decide)
  have c2 := eq00 (G := [.dct (eK g)]) (δ := [some (eM n A []), some (.rf 0), some (eSt s), some (eP (y, z)), some (.str s.w.s), some (.int x), none, none]) (x := y) (y := z) G0 rfl rfl
  cases hj : J A y z with
  | false =>
    rw [hj] at c2 hg
    rw [hg]
    exact ⟨_, (sq_nx ((if_f (ofRT_of c1)).trans rfl)).trans ((sq_nx a3).trans (sq_rt ((if_t (ofRT_of c2)).trans (ret_of (ofR_of c_of)))))⟩
  | true =>
    rw [hj] at c2 hg
    rw [hg]
    obtain ⟨δ', h1, h2, h3⟩ := hu
    exact ⟨_, (sq_nx ((if_f (ofRT_of c1)).trans rfl)).trans ((sq_nx a3).trans ((sq_nx ((if_f (ofRT_of c2)).trans rfl)).trans ((sq_nx h1).trans (ret_of (ofR_of (fin_rR h2 h3))))))⟩
theorem given_P (G0 : Good n A []) (s : Stp) (hs : InR n s) : f_given_by [eM n A [], .rf 0, eSt s] [.dct (eK g)] = some (gR A g s, [.dct (eK g)]) := by
  have em : (eM n A []).im = true := eM_im n A []
  have t0 : rOr (rNot (rTru (rIsT (isTy "tuple") (rVar 2)))) (rOr (rB (rBin g_eq (rCal gLen (rCons (rVar 2) rNil)) (rC (.int 0)))) (rOr (rNot (rTru (rIsT (isTy "str") (rBin ixA (rVar 2) (rC (.int 0)))))) (rB (rInT true t_LENGTHS (rBin ixA (rVar 2) (rC (.int 0))))))) (slots 8 [eM n A [], .rf 0, eSt s]) [.dct (eK g)] = some false := by
    refine or_of (b := false) (c := false) (not_f (tru_of (isT_of (T := "tuple") (var_of rfl) rfl) rfl)) fun _ => or_of (b := false) (c := false) (b_of (bin_of (cal1_of (var_of rfl) (len_tup _)) c_of ((eq_ii _ _).trans (by rw [List.length_cons, decide_eq_false (by omega)])))) fun _ => or_of (b := false) (c := false) (not_f (tru_of (isT_of (T := "str") (w_of rfl) rfl) rfl)) fun _ => b_of ?_
    unfold rInT
    rw [w_of (s := s) rfl]
    show some (D.bl (true != tabHas t_LENGTHS s.w.s)) = _
    rw [tabW]
    rfl
  have sl := s.len
  have hv : rLc (iTupR (rSlT (rVar 2) (partD (some (rC (.int 1)))) (partD none))) (setN 7) (rNot (rTru (rCallP 2 f_is_variable (rCons (rVar 0) (rCons (rVar 7) rNil))))) (rVar 7) [7] (slots 8 [eM n A [], .rf 0, eSt s]) [.dct (eK g)] = some (.fl []) := by
    refine (rlc_of D.int (fun x => [some (eM n A []), some (.rf 0), some (eSt s), none, none, none, none, some (.int x)]) (fun _ => false) (fun x => .int x) s.sp (itup_of (sp_of rfl)) (by omega) fun x hx => ⟨rfl, ?_, fun z => by cases z⟩).trans ?_
    · have := hs x hx
      refine not_f (tru_of (d := .bl true) (callP_of (ds := [eM n A [], .int x]) (cons_of (var_of rfl) (cons_of (var_of rfl) nil_of)) (by simp [ims, em, D.im]) rfl ((is_variable_v x).trans ?_)) rfl)
      rw [decide_eq_true this.1, decide_eq_true this.2]
      rfl
    · rw [List.filter_eq_nil_iff.mpr (by simp)]
      rfl
  have t1 : rOr (rB (rBin g_ne (rCal gLen (rCons (rVar 2) rNil)) (rIxT t_LENGTHS (rBin ixA (rVar 2) (rC (.int 0)))))) (rTru (rLc (iTupR (rSlT (rVar 2) (partD (some (rC (.int 1)))) (partD none))) (setN 7) (rNot (rTru (rCallP 2 f_is_variable (rCons (rVar 0) (rCons (rVar 7) rNil))))) (rVar 7) [7])) (slots 8 [eM n A [], .rf 0, eSt s]) [.dct (eK g)] = some false := by
    refine or_of (b := false) (c := false) (b_of (bin_of (y := .int ((s.sp.length : Int) + 1)) (cal1_of (var_of rfl) (len_tup _)) ?_ ((ne_ii _ _).trans (by rw [List.length_cons, List.length_map, decide_eq_true (by omega)]; rfl)))) fun _ => tru_of hv rfl
    unfold FL.rIxT
    rw [w_of (s := s) rfl]
    show (tabGet t_LENGTHS s.w.s).map D.int = _
    rw [tabG]
    rfl
  have key : ∃ (x : Int) (δ' : Env'), s.sp[0]? = some x ∧ q1 (e6 n A s x) [.dct (eK g)] = some (.rt (gR A g s), δ', [.dct (eK g)]) := by
    cases s with
    | t w a b c =>
      refine ⟨a, ?_⟩
      cases w with
      | v =>
        have c1 : rB (rBin g_eq (rVar 4) (rC (.str "v"))) (e6 n A (.t .v a b c) a) [.dct (eK g)] = some true := ruleq (w := .v) rfl .v rfl
        have c2 : rB (rBin g_in_ (rSlT (rVar 2) (partD (some (rC (.int 1)))) (partD none)) (rCallP 1 f_vees_of (rCons (rVar 0) rNil))) (e6 n A (.t .v a b c) a) [.dct (eK g)] = some (V A a b c) :=
          b_of ((vq G0 (t := (a, b, c)) false (var_of rfl) (sp_of (s := .t .v a b c) rfl)).trans (by rw [if_neg (by simp)]))
        have c3 : rIf (rB (rBin g_in_ (rSlT (rVar 2) (partD (some (rC (.int 1)))) (partD none)) (rCallP 1 f_vees_of (rCons (rVar 0) rNil)))) (rFl (rCons (rTup (rCons (rVar 5) (rCons (rBin ixA (rVar 2) (rC (.int 2))) rNil))) (rCons (rTup (rCons (rBin ixA (rVar 2) (rC (.int 3))) (rCons (rBin ixA (rVar 2) (rC (.int 2))) rNil))) rNil))) (rC .non) (e6 n A (.t .v a b c) a) [.dct (eK g)] = some (gR A g (.t .v a b c)) := by
          cases hc : V A a b c with
          | true =>
            rw [hc] at c2
            have hg : gR A g (.t .v a b c) = .fl ([(a, b), (c, b)].map eP) := if_pos hc
            rw [hg]
            exact (rif_t c2).trans (fl_of (cons_of (tup_of (xs := [.int a, .int b]) (cons_of (var_of rfl) (cons_of (st_ix (s := .t .v a b c) (i := 1) rfl rfl rfl) nil_of)) (by simp)) (cons_of (tup_of (xs := [.int c, .int b]) (cons_of (st_ix (s := .t .v a b c) (i := 2) rfl rfl rfl) (cons_of (st_ix (s := .t .v a b c) (i := 1) rfl rfl rfl) nil_of)) (by simp)) nil_of)) (by show (2 : Nat) ≤ 1000; decide))
          | false =>
            rw [hc] at c2
            have hg : gR A g (.t .v a b c) = .non := if_neg (by show ¬ V A a b c = true; rw [hc]; decide)
            rw [hg]
            exact (rif_f c2).trans c_of
        exact ⟨_, rfl, sq_rt ((if_t (ofRT_of c1)).trans (ret_of (ofR_of c3)))⟩
      | aw =>
        obtain ⟨δ', h⟩ := tailQ (g := g) G0 (.t .aw a b c) a b c (decide ((a, b) ∈ g) && awy A a b c) (by show W4.aw ≠ .v; decide) (by
            unfold gR awy
            show (if (decide ((a, b) ∈ g) && (J A b c && (!decide (a = c) && (!J A a c && !V A (mn a c) b (mx a c))))) = true then _ else _) = _
            rw [show (J A b c && (decide ((a, b) ∈ g) && (!decide (a = c) && (!J A a c && !V A (mn a c) b (mx a c))))) = (decide ((a, b) ∈ g) && (J A b c && (!decide (a = c) && (!J A a c && !V A (mn a c) b (mx a c))))) by cases J A b c <;> cases decide ((a, b) ∈ g) <;> rfl]
            rfl)
          ((rif_t (ruleq (w := .aw) rfl .aw rfl)).trans (tup_of (xs := [.int b, .int c]) (cons_of (st_ix (s := .t .aw a b c) (i := 1) rfl rfl rfl) (cons_of (st_ix (s := .t .aw a b c) (i := 2) rfl rfl rfl) nil_of)) (by simp)))
          ⟨_, (if_t (ofRT_of (ruleq (w := .aw) rfl .aw rfl))).trans (asg_of (i := 6) (ofR_of (andV_of (b := decide ((a, b) ∈ g)) (c := awy A a b c) (bin_of (tup_of (xs := [.int a, .int b]) (cons_of (var_of rfl) (cons_of (st_ix (s := .t .aw a b c) (i := 1) rfl rfl rfl) nil_of)) (by simp)) (var_of rfl) ((inD_P (k := 0) (g := g) rfl false (a, b)).trans (by simp))) fun _ => callP_of (ds := [eM n A [], .int a, .int b, .int c]) (cons_of (var_of rfl) (cons_of (var_of rfl) (cons_of (st_ix (s := .t .aw a b c) (i := 1) rfl rfl rfl) (cons_of (st_ix (s := .t .aw a b c) (i := 2) rfl rfl rfl) nil_of)))) (by simp [ims, em, D.im]) rfl (is_away_P G0 a b c))) (by show (6 : Nat) < 8; decide)), rfl, rfl⟩
        exact ⟨δ', rfl, h⟩
      | ri =>
        obtain ⟨δ', h⟩ := tailQ (g := g) G0 (.t .ri a b c) a a c (decide ((a, b) ∈ g) && decide ((b, c) ∈ g)) (by show W4.ri ≠ .v; decide) (by
            unfold gR
            show (if ((decide ((a, b) ∈ g) && decide ((b, c) ∈ g)) && J A a c) = true then _ else _) = _
            rw [Bool.and_comm (J A a c)]
            rfl)
          ((rif_f (ruleq (w := .ri) rfl .aw rfl)).trans (tup_of (xs := [.int a, .int c]) (cons_of (var_of rfl) (cons_of (st_last (s := .t .ri a b c) rfl rfl) nil_of)) (by simp)))
          ⟨_, (if_f (ofRT_of (ruleq (w := .ri) rfl .aw rfl))).trans ((if_t (ofRT_of (ruleq (w := .ri) rfl .ri rfl))).trans (asg_of (i := 6) (ofR_of (andV_of (b := decide ((a, b) ∈ g)) (c := decide ((b, c) ∈ g)) (bin_of (tup_of (xs := [.int a, .int b]) (cons_of (var_of rfl) (cons_of (st_ix (s := .t .ri a b c) (i := 1) rfl rfl rfl) nil_of)) (by simp)) (var_of rfl) ((inD_P (k := 0) (g := g) rfl false (a, b)).trans (by simp))) fun _ => bin_of (tup_of (xs := [.int b, .int c]) (cons_of (st_ix (s := .t .ri a b c) (i := 1) rfl rfl rfl) (cons_of (st_ix (s := .t .ri a b c) (i := 2) rfl rfl rfl) nil_of)) (by simp)) (var_of rfl) ((inD_P (k := 0) (g := g) rfl false (b, c)).trans (by simp)))) (by show (6 : Nat) < 8; decide))), rfl, rfl⟩
        exact ⟨δ', rfl, h⟩
    | k a b c d =>
      refine ⟨a, ?_⟩
      have hkite : eCallM 6 f_is_kite (eCons (ofR (rVar 0)) (eCons (ofR (rVar 1)) (eCons (ofR (rVar 5)) (eCons (ofR (rBin ixA (rVar 2) (rC (.int 2)))) (eCons (ofR (rBin ixA (rVar 2) (rC (.int 3)))) (eCons (ofR (rBin ixA (rVar 2) (rC (.int 4)))) (ofRA rNil))))))) [some (eM n A []), some (.rf 0), some (eSt (.k a b c d)), some (eP (a, d)), some (.str W4.ki.s), some (.int a), none, none] [.dct (eK g)] = some (.bl (kt A g a b c d), [.dct (eK g)]) := by
        unfold eCallM
        have hs : eCons (ofR (rVar 0)) (eCons (ofR (rVar 1)) (eCons (ofR (rVar 5)) (eCons (ofR (rBin ixA (rVar 2) (rC (.int 2)))) (eCons (ofR (rBin ixA (rVar 2) (rC (.int 3)))) (eCons (ofR (rBin ixA (rVar 2) (rC (.int 4)))) (ofRA rNil)))))) [some (eM n A []), some (.rf 0), some (eSt (.k a b c d)), some (eP (a, d)), some (.str W4.ki.s), some (.int a), none, none] [.dct (eK g)] = some ([eM n A [], .rf 0, .int a, .int b, .int c, .int d], [.dct (eK g)]) :=
          econs_of (ofR_of (var_of rfl)) (econs_of (ofR_of (var_of rfl)) (econs_of (ofR_of (var_of rfl)) (econs_of (ofR_of (st_ix (s := .k a b c d) (i := 1) rfl rfl rfl)) (econs_of (ofR_of (st_ix (s := .k a b c d) (i := 2) rfl rfl rfl)) (econs_of (ofR_of (st_ix (s := .k a b c d) (i := 3) rfl rfl rfl)) enil_of)))))
        rw [hs, Option.bind_some]
        exact (if_pos rfl).trans (callM_d em (by simp [ims, D.im]) (eK_flat g) rfl (is_kite_P G0 a b c d))
      have hand : eAndV (ofR (rBin g_ltA (rBin ixA (rVar 2) (rC (.int 2))) (rBin ixA (rVar 2) (rC (.int 3))))) (eCallM 6 f_is_kite (eCons (ofR (rVar 0)) (eCons (ofR (rVar 1)) (eCons (ofR (rVar 5)) (eCons (ofR (rBin ixA (rVar 2) (rC (.int 2)))) (eCons (ofR (rBin ixA (rVar 2) (rC (.int 3)))) (eCons (ofR (rBin ixA (rVar 2) (rC (.int 4)))) (ofRA rNil)))))))) [some (eM n A []), some (.rf 0), some (eSt (.k a b c d)), some (eP (a, d)), some (.str W4.ki.s), some (.int a), none, none] [.dct (eK g)] = some (.bl (decide (b < c) && kt A g a b c d), [.dct (eK g)]) := by
        unfold eAndV
        have hlt : ofR (rBin g_ltA (rBin ixA (rVar 2) (rC (.int 2))) (rBin ixA (rVar 2) (rC (.int 3)))) [some (eM n A []), some (.rf 0), some (eSt (.k a b c d)), some (eP (a, d)), some (.str W4.ki.s), some (.int a), none, none] [.dct (eK g)] = some (.bl (decide (b < c)), [.dct (eK g)]) := ofR_of (bin_of (st_ix (s := .k a b c d) (i := 1) rfl rfl rfl) (st_ix (s := .k a b c d) (i := 2) rfl rfl rfl) (lt_ii _ _))
        rw [hlt, Option.bind_some]
        show ((some (decide (b < c))).bind _) = _
        rw [Option.bind_some]
        by_cases hb : b < c
        · rw [if_pos (by simp [hb]), hkite, decide_eq_true hb, Bool.true_and]
        · rw [if_neg (by simp [hb]), decide_eq_false hb, Bool.false_and]
      obtain ⟨δ', h⟩ := tailQ (g := g) G0 (.k a b c d) a a d (decide (b < c) && kt A g a b c d) (by show W4.ki ≠ .v; decide) (by
            unfold gR
            have e : cond A g (.k a b c d) = (J A a d && (decide (b < c) && kt A g a b c d)) := by
              show ((J A a b && (J A a c && J A a d)) && ((decide (b < c) && (!J A b c && !V A b a c)) && (decide ((b, d) ∈ g) && decide ((c, d) ∈ g)))) = _
              unfold kt
              by_cases h1 : a = b
              · subst h1
                rw [J_irr (aR' G0)]
                simp
              · by_cases h2 : a = c
                · subst h2
                  rw [J_irr (aR' G0)]
                  simp
                · rw [decide_eq_false h1, decide_eq_false h2]
                  cases J A a b <;> cases J A a c <;> cases J A a d <;> cases decide (b < c) <;> cases J A b c <;> cases V A b a c <;> cases decide ((b, d) ∈ g) <;> cases decide ((c, d) ∈ g) <;> rfl
            rw [e]
            rfl)
          ((rif_f (ruleq (w := .ki) rfl .aw rfl)).trans (tup_of (xs := [.int a, .int d]) (cons_of (var_of rfl) (cons_of (st_last (s := .k a b c d) rfl rfl) nil_of)) (by simp)))
          ⟨_, (if_f (ofRT_of (ruleq (w := .ki) rfl .aw rfl))).trans ((if_f (ofRT_of (ruleq (w := .ki) rfl .ri rfl))).trans (asg_of (i := 6) hand (by show (6 : Nat) < 8; decide))), rfl, rfl⟩
      exact ⟨δ', rfl, h⟩
  obtain ⟨x, δ', hx, key⟩ := key
  have a2 : sPar 4 5 (eCons (ofR (rBin ixA (rVar 2) (rC (.int 0)))) (eCons (ofR (rBin ixA (rVar 2) (rC (.int 1)))) (ofRA rNil))) (slots 8 [eM n A [], .rf 0, eSt s]) [.dct (eK g)] = some (.nx, e6 n A s x, [.dct (eK g)]) :=
    par_of (econs_of (ofR_of (w_of rfl)) (econs_of (ofR_of (st_ix (i := 0) rfl hx rfl)) enil_of)) ⟨by show (4 : Nat) < 8; decide, by show (5 : Nat) < 8; decide⟩
  have hb : b_given_by (slots 8 [eM n A [], .rf 0, eSt s]) [.dct (eK g)] = some (.rt (gR A g s), δ', [.dct (eK g)]) :=
    (sq_nx ((if_f (ofRT_of t0)).trans rfl)).trans ((sq_nx ((if_f (ofRT_of t1)).trans rfl)).trans ((sq_nx a2).trans key))
  unfold f_given_by fnM
  rw [hb]
  rfl
end
end K44
namespace FL
open PySem PySem.Spec PyProof.Rows L2
theorem forL_nx {set : Sets} {b : SS} {d : D} {ds : List D} {δ δ1 δ2 : Env'} {G G2 : Hs} (h : set d δ = some δ1) (hb : b δ1 G = some (.nx, δ2, G2)) : forL set b (d :: ds) δ G = forL set b ds δ2 G2 := by
  rw [forL, h, Option.bind_some, hb]
  all_goals rfl
theorem forL_rt {set : Sets} {b : SS} {d r : D} {ds : List D} {δ δ1 δ2 : Env'} {G G2 : Hs} (h : set d δ = some δ1) (hb : b δ1 G = some (.rt r, δ2, G2)) : forL set b (d :: ds) δ G = some (.rt r, δ2, G2) := by
  rw [forL, h, Option.bind_some, hb]
  all_goals rfl
end FL
namespace K44
open PySem PySem.Spec PyProof.Rows L2 FL
section
variable {n : Nat} {A : List Pq}
def runL (A : List Pq) : List Pq → List Stp → Option (List Pq)
  | g, [] => some g
  | g, s :: row => if cond A g s = true then runL A (g ++ outs s) row else none
def RS (A : List Pq) (arrow : Pq) (row : List Stp) : Bool := match runL A [] row with
  | some g => decide (arrow ∈ g)
  | none => false
theorem cond_congr {g g' : List Pq} (h : ∀ p, p ∈ g ↔ p ∈ g') (s : Stp) : cond A g s = cond A g' s := by
  have e : ∀ p, decide (p ∈ g) = decide (p ∈ g') := fun p => decide_eq_decide.mpr (h p)
  cases s with
  | t w a b c => cases w <;> simp only [cond, e]
  | k a b c d => simp only [cond, e]
theorem outs_ne (s : Stp) : outs s ≠ [] := by
  cases s with
  | t w a b c => cases w <;> simp [outs]
  | k a b c d => simp [outs]
theorem outs_len (s : Stp) : (outs s).length ≤ 2 := by
  cases s with
  | t w a b c => cases w <;> simp [outs]
  | k a b c d => simp [outs]
theorem fl_ok (g : List Pq) : (D.fl (g.map eP)).ok = true := by
  show oks (g.map eP) = true
  exact oks_map eP_ok g
theorem fl_dep (g : List Pq) : (D.fl (g.map eP)).dep ≤ 60 := by
  have := deps_map (e := eP) (n := 1) (fun _ => Nat.le_refl _) g
  show deps (g.map eP) + 1 ≤ 60
  omega
theorem eq_nil {G : Hs} (g : List Pq) : g_eq G (.fl (g.map eP)) (.fl []) = some (.bl (decide (g = []))) := by
  rw [eq_of (fl_ok g) (by rfl) (fl_dep g) (by show (1 : Nat) ≤ 60; decide)]
  congr 2
  cases g with
  | nil => rfl
  | cons p g => rfl
theorem cat_P {G : Hs} (a b : List Pq) (h : a.length + b.length ≤ 100000) : g_addA G (.fl (a.map eP)) (.fl (b.map eP)) = some (.fl ((a ++ b).map eP)) := by
  rw [cat_lst (a := a.map eP) (b := b.map eP) rfl rfl rfl rfl (by rw [List.length_map, List.length_map]; omega), List.map_append]
/-! the law's run -/
abbrev lb : SS := (sSeq (sAsg (ofR (rCallP 3 f__law_gives (rCons (rVar 0) (rCons (rVar 3) (rCons (rVar 4) rNil))))) (setN 5))
   (sSeq (sIf (ofRT (rB (rBin g_eq (rVar 5) (rFl rNil))))
    (sRet (ofR (rC (.bl false))))
    FL.sNil)
   (sAsg (ofR (rBin g_addA (rVar 3) (rVar 5))) (setN 3))))
theorem gq (G0 : Good n A []) {g : List Pq} {s : Stp} (hs : InR n s) {δ : Env'} {G : Hs} {fw fg fs : RE} (hw : fw δ G = some (eU n A)) (hg : fg δ G = some (.fl (g.map eP))) (h : fs δ G = some (eSt s)) : rCallP 3 f__law_gives (rCons fw (rCons fg (rCons fs rNil))) δ G = some (.fl ((gives A g s).map eP)) :=
  callP_of (ds := [eU n A, .fl (g.map eP), eSt s]) (cons_of hw (cons_of hg (cons_of h nil_of))) (by simp [ims, eU_im, eSt_im, D.im, ims_map eP_im]) rfl (gives_P G0 s hs)
theorem lr_go (G0 : Good n A []) {w1 w2 : D} : ∀ (row : List Stp) (g : List Pq) (o4 o5 : Option D), (∀ s ∈ row, InR n s) → g.length + 2 * row.length ≤ 50000 →
    ∃ δ', forL (setN 4) lb (row.map eSt) [some (eU n A), some w1, some w2, some (.fl (g.map eP)), o4, o5] [] = (match runL A g row with | some _ => some (.nx, δ', []) | none => some (.rt (.bl false), δ', [])) ∧
      ∀ g', runL A g row = some g' → ∃ o4' o5', δ' = [some (eU n A), some w1, some w2, some (.fl (g'.map eP)), o4', o5']
  | [], g, o4, o5, _, _ => ⟨_, rfl, fun g' e => by cases e; exact ⟨_, _, rfl⟩⟩
  | s :: row, g, o4, o5, hs, hl => by
    have a1 := asg_of (i := 5) (ofR_of (gq (δ := [some (eU n A), some w1, some w2, some (.fl (g.map eP)), some (eSt s), o5]) (G := []) (fw := rVar 0) (fg := rVar 3) (fs := rVar 4) G0 (hs s List.mem_cons_self) (var_of rfl) (var_of rfl) (var_of rfl))) (by show (5 : Nat) < 6; decide)
    have t1 : rB (rBin g_eq (rVar 5) (rFl rNil)) [some (eU n A), some w1, some w2, some (.fl (g.map eP)), some (eSt s), some (.fl ((gives A g s).map eP))] [] = some (decide (gives A g s = [])) := b_of (bin_of (var_of rfl) (fl_of nil_of (Nat.zero_le _)) (eq_nil _))
    have ol := outs_len s
    simp only [List.length_cons] at hl
    cases hc : cond A g s with
    | true =>
      have hg : gives A g s = outs s := if_pos hc
      rw [hg] at a1 t1
      rw [decide_eq_false (outs_ne s)] at t1
      have hb : lb [some (eU n A), some w1, some w2, some (.fl (g.map eP)), some (eSt s), o5] [] = some (.nx, [some (eU n A), some w1, some w2, some (.fl ((g ++ outs s).map eP)), some (eSt s), some (.fl ((outs s).map eP))], []) :=
        (sq_nx a1).trans ((sq_nx ((if_f (ofRT_of t1)).trans rfl)).trans (asg_of (i := 3) (ofR_of (bin_of (var_of rfl) (var_of rfl) (cat_P g (outs s) (by omega)))) (by show (3 : Nat) < 6; decide)))
      have hr : runL A g (s :: row) = runL A (g ++ outs s) row := if_pos hc
      rw [List.map_cons, hr]
      obtain ⟨δ', h1, h2⟩ := lr_go G0 (w1 := w1) (w2 := w2) row (g ++ outs s) (some (eSt s)) (some (.fl ((outs s).map eP))) (fun x hx => hs x (List.mem_cons_of_mem _ hx)) (by rw [List.length_append]; omega)
      exact ⟨δ', (forL_nx (δ1 := [some (eU n A), some w1, some w2, some (.fl (g.map eP)), some (eSt s), o5]) rfl hb).trans h1, h2⟩
    | false =>
      have hg : gives A g s = [] := if_neg (by rw [hc]; decide)
      rw [hg] at a1 t1
      have hr : runL A g (s :: row) = none := if_neg (by rw [hc]; decide)
      rw [List.map_cons, hr]
      exact ⟨_, forL_rt (δ1 := [some (eU n A), some w1, some w2, some (.fl (g.map eP)), some (eSt s), o5]) rfl ((sq_nx a1).trans (sq_rt ((if_t (ofRT_of t1)).trans (ret_of (ofR_of c_of))))), fun g' e => by cases e⟩
theorem law_reas_P (G0 : Good n A []) (arrow : Pq) (row : List Stp) (hs : ∀ s ∈ row, InR n s) (hl : row.length ≤ 20000) : f__law_are_reasons [eU n A, eP arrow, .tup (row.map eSt)] = some (.bl (RS A arrow row)) := by
  have t0 : rNot (rTru (rIsT (isTy "tuple") (rVar 2))) (slots 6 [eU n A, eP arrow, .tup (row.map eSt)]) [] = some false := not_f (tru_of (isT_of (T := "tuple") (var_of rfl) rfl) rfl)
  obtain ⟨δ', h1, h2⟩ := lr_go G0 (w1 := eP arrow) (w2 := .tup (row.map eSt)) row [] none none hs (by simp; omega)
  have pre : ∀ r, (sSeq (sFor (ofRA (iTupR (rVar 2))) (setN 4) lb) (sRet (ofR (rBin g_in_ (rVar 1) (rVar 3))))) [some (eU n A), some (eP arrow), some (.tup (row.map eSt)), some (.fl []), none, none] [] = r → b__law_are_reasons (slots 6 [eU n A, eP arrow, .tup (row.map eSt)]) [] = r := fun r h =>
    (sq_nx ((if_f (ofRT_of t0)).trans rfl)).trans ((sq_nx (asg_of (δ := slots 6 [eU n A, eP arrow, .tup (row.map eSt)]) (G := []) (i := 3) (ofR_of (fl_of nil_of (Nat.zero_le _))) (by show (3 : Nat) < 6; decide))).trans h)
  have hf : sFor (ofRA (iTupR (rVar 2))) (setN 4) lb [some (eU n A), some (eP arrow), some (.tup (row.map eSt)), some (.fl []), none, none] [] = _ := (for_nx (ofRA_of (itup_of (xs := row.map eSt) (var_of rfl)))).trans h1
  unfold RS
  cases hr : runL A [] row with
  | none =>
    rw [hr] at hf
    exact fnP_of (pre _ (sq_rt hf)) rfl
  | some g =>
    rw [hr] at hf
    obtain ⟨o4', o5', rfl⟩ := h2 g hr
    exact fnP_of (pre _ ((sq_nx hf).trans (ret_of (ofR_of (bin_of (var_of rfl) (var_of rfl) ((in_P (p := arrow) rfl false).trans (by rw [if_neg (by simp)]))))))) rfl
/-! the program's run -/
def addP (g : List Pq) (p : Pq) : List Pq := if p ∈ g then g else g ++ [p]
theorem mem_addP {g : List Pq} {p q : Pq} : q ∈ addP g p ↔ q ∈ g ∨ q = p := by
  unfold addP
  split
  · rename_i h
    exact ⟨.inl, fun z => z.elim id fun e => e ▸ h⟩
  · simp
theorem addP_len (g : List Pq) (p : Pq) : (addP g p).length ≤ g.length + 1 := by
  unfold addP
  split <;> simp
theorem putD_eK (g : List Pq) (p : Pq) : putD (eK g) (eP p) (.bl true) = eK (addP g p) := by
  have ha : ((eK g).any fun q => decide (nk q.1 = nk (eP p))) = decide (p ∈ g) := by
    unfold eK
    rw [List.any_map, Bool.eq_iff_iff, List.any_eq_true, decide_eq_true_eq]
    constructor
    · rintro ⟨q, hq, h⟩
      have h' : nk (eP q) = nk (eP p) := of_decide_eq_true h
      rw [nk_P, nk_P, Option.some.injEq, kP_inj] at h'
      exact h' ▸ hq
    · exact fun h => ⟨p, h, decide_eq_true rfl⟩
  unfold putD addP
  rw [ha]
  by_cases hp : p ∈ g
  · rw [if_pos (by simp [hp]), if_pos hp]
    unfold eK
    rw [List.map_map]
    refine List.map_congr_left fun q _ => ?_
    show (if nk (eP q) = nk (eP p) then (eP q, D.bl true) else (eP q, D.bl true)) = _
    split <;> rfl
  · rw [if_neg (by simp [hp]), if_neg hp]
    unfold eK
    rw [List.map_append]
    rfl
theorem merge_eK : ∀ (os g : List Pq), mergeU (eK g) (eK os) = eK (os.foldl addP g)
  | [], g => rfl
  | p :: os, g => by
    show mergeU (putD (eK g) (eP p) (.bl true)) (eK os) = _
    rw [putD_eK, merge_eK os]
    rfl
theorem mem_foldP {q : Pq} : ∀ {os g : List Pq}, q ∈ os.foldl addP g ↔ q ∈ g ∨ q ∈ os
  | [], g => by simp
  | p :: os, g => by
    rw [List.foldl_cons, mem_foldP, mem_addP, List.mem_cons, or_assoc]
theorem foldP_len : ∀ (os g : List Pq), (os.foldl addP g).length ≤ g.length + os.length
  | [], g => Nat.le_refl _
  | p :: os, g => by
    have h1 := foldP_len os (addP g p)
    have h2 := addP_len g p
    rw [List.foldl_cons, List.length_cons]
    omega
theorem dn_run {δ : Env'} {G : Hs} (h6 : 6 < δ.length) : ∀ (os acc : List Pq), dnR (setN 6) (rVar 6) (rC (.bl true)) (os.map eP) δ G (eK acc) = some (eK (os.foldl addP acc))
  | [], acc => rfl
  | p :: os, acc => by
    have e1 : setN 6 (eP p) δ = some (δ.set 6 (some (eP p))) := by
      unfold setN
      rw [if_pos h6]
    have e2 : rVar 6 (δ.set 6 (some (eP p))) G = some (eP p) := var_of (by rw [List.getElem?_set_self h6])
    rw [List.map_cons, dnR, e1, Option.bind_some, e2, Option.bind_some, keyD_P, Option.bind_some, c_of, Option.bind_some, putD_eK, dn_run h6 os]
    rfl
theorem apart2 : ∀ a b c : Fin 6, a ≠ c → apartK (eK [((a.val : Int), (b.val : Int)), ((c.val : Int), (b.val : Int))]) = true := by decide +kernel
theorem apart1 (p : Pq) : apartK (eK [p]) = true := by
  unfold apartK
  have h : (hD (eP p)).isSome = true := rfl
  simp [eK, h]
theorem outs_apart {g : List Pq} {s : Stp} (hs : InR n s) (hn : n ≤ 6) (hc : cond A g s = true) : apartK (eK (outs s)) = true ∧ (outs s).foldl addP [] = outs s := by
  cases s with
  | t w a b c =>
    cases w with
    | v =>
      have hV : V A a b c = true := hc
      unfold V at hV
      simp only [Bool.and_eq_true, decide_eq_true_eq] at hV
      have lt := hV.1.2
      have ra := hs a (by simp [Stp.sp])
      have rb := hs b (by simp [Stp.sp])
      have rc := hs c (by simp [Stp.sp])
      constructor
      · have := apart2 ⟨a.toNat, by omega⟩ ⟨b.toNat, by omega⟩ ⟨c.toNat, by omega⟩ (fun e => by have := congrArg Fin.val e; simp only at this; omega)
        simp only [Int.toNat_of_nonneg ra.1, Int.toNat_of_nonneg rb.1, Int.toNat_of_nonneg rc.1] at this
        exact this
      · show addP (addP [] (a, b)) (c, b) = _
        have e1 : addP [] (a, b) = [(a, b)] := rfl
        rw [e1]
        unfold addP
        rw [if_neg (by simp only [List.mem_singleton, Prod.mk.injEq]; omega)]
        rfl
    | aw => exact ⟨apart1 _, rfl⟩
    | ri => exact ⟨apart1 _, rfl⟩
  | k a b c d => exact ⟨apart1 _, rfl⟩
abbrev pb : SS := (sSeq (sAsg (eCallM 3 f_given_by (eCons (ofR (rVar 0)) (eCons (ofR (rVar 3)) (eCons (ofR (rVar 4)) (ofRA rNil))))) (setN 5))
   (sSeq (sIf (ofRT (rB (rBin g_isA (rVar 5) (rC .non))))
    (sRet (ofR (rC (.bl false))))
    FL.sNil)
   (sExp (eUpd (rVar 3) (eDcN (iLstR (rVar 5)) (setN 6) (rVar 6) (rC (.bl true)) [6])))))
theorem gb_of (G0 : Good n A []) {g : List Pq} {s : Stp} (hs : InR n s) {w1 w2 : D} {o5 o6 : Option D} {tl : Hs} : eCallM 3 f_given_by (eCons (ofR (rVar 0)) (eCons (ofR (rVar 3)) (eCons (ofR (rVar 4)) (ofRA rNil)))) [some (eM n A []), some w1, some w2, some (.rf 0), some (eSt s), o5, o6] (.dct (eK g) :: tl) = some (gR A g s, .dct (eK g) :: tl) := by
  unfold eCallM
  have h : eCons (ofR (rVar 0)) (eCons (ofR (rVar 3)) (eCons (ofR (rVar 4)) (ofRA rNil))) [some (eM n A []), some w1, some w2, some (.rf 0), some (eSt s), o5, o6] (.dct (eK g) :: tl) = some ([eM n A [], .rf 0, eSt s], .dct (eK g) :: tl) := econs_of (ofR_of (var_of rfl)) (econs_of (ofR_of (var_of rfl)) (econs_of (ofR_of (var_of rfl)) enil_of))
  rw [h, Option.bind_some]
  exact (if_pos rfl).trans (callM_d (eM_im n A []) (by simp [ims, eSt_im]) (eK_flat g) (gR_im A g s) (given_P G0 s hs))
theorem upd_of {g os : List Pq} {δ : Env'} {tl : Hs} (h3 : δ[3]? = some (some (.rf 0))) (h5 : δ[5]? = some (some (.fl (os.map eP)))) (h6 : 6 < δ.length) (hf : os.foldl addP [] = os) (ha : apartK (eK os) = true) (hl : g.length + os.length ≤ 100000) (ho : os.length ≤ 1000) :
    eUpd (rVar 3) (eDcN (iLstR (rVar 5)) (setN 6) (rVar 6) (rC (.bl true)) [6]) δ (.dct (eK g) :: tl) = some (.non, .dct (eK (os.foldl addP g)) :: (tl ++ [.dct (eK os)])) := by
  have e1 : eDcN (iLstR (rVar 5)) (setN 6) (rVar 6) (rC (.bl true)) [6] δ (.dct (eK g) :: tl) = some (.rf (tl.length + 1), .dct (eK g) :: (tl ++ [.dct (eK os)])) := by
    unfold eDcN
    rw [ilst_of (xs := os.map eP) (var_of h5) rfl, Option.bind_some, if_pos (by rw [List.length_map]; omega)]
    have hd := dn_run (δ := wipeD δ [6]) (G := .dct (eK g) :: tl) (by simp [wipeD]; omega) os []
    rw [show (eK []) = [] from rfl] at hd
    rw [hd, hf]
    rfl
  unfold eUpd
  rw [var_of h3, Option.bind_some]
  have d0 : ∀ tl', dctG (.dct (eK g) :: tl') (.rf 0) = some (eK g) := fun _ => rfl
  rw [d0, Option.bind_some, e1, Option.bind_some]
  have d1 : dctG (.dct (eK g) :: (tl ++ [.dct (eK os)])) (.rf (tl.length + 1)) = some (eK os) := by
    unfold dctG
    simp
  show (if 0 = tl.length + 1 then none else (dctG _ (.rf 0)).bind _) = _
  rw [if_neg (by omega), d0, Option.bind_some, d1, Option.bind_some]
  have u : updG (eK g) (eK os) = some (mergeU (eK g) (eK os)) := by
    unfold updG
    rw [if_pos]
    rw [ha, Bool.or_true, Bool.true_and, decide_eq_true_eq]
    unfold eK
    rw [List.length_map, List.length_map]
    omega
  rw [u, Option.bind_some, merge_eK]
  rfl
theorem pr_go (G0 : Good n A []) {w1 w2 : D} : ∀ (row : List Stp) (g g' : List Pq) (o4 o5 o6 : Option D) (tl : Hs), (∀ p, p ∈ g ↔ p ∈ g') → (∀ s ∈ row, InR n s) → g'.length + 2 * row.length ≤ 50000 →
    ∃ δ' G', forL (setN 4) pb (row.map eSt) [some (eM n A []), some w1, some w2, some (.rf 0), o4, o5, o6] (.dct (eK g') :: tl) = (match runL A g row with | some _ => some (.nx, δ', G') | none => some (.rt (.bl false), δ', G')) ∧
      ∀ h, runL A g row = some h → ∃ o4' o5' o6' h' tl', δ' = [some (eM n A []), some w1, some w2, some (.rf 0), o4', o5', o6'] ∧ G' = .dct (eK h') :: tl' ∧ ∀ p, p ∈ h ↔ p ∈ h'
  | [], g, g', o4, o5, o6, tl, he, _, _ => ⟨_, _, rfl, fun h e => by cases e; exact ⟨_, _, _, _, _, rfl, rfl, he⟩⟩
  | s :: row, g, g', o4, o5, o6, tl, he, hs, hl => by
    have hsr := hs s List.mem_cons_self
    have a1 := asg_of (i := 5) (gb_of (g := g') (s := s) (w1 := w1) (w2 := w2) (o5 := o5) (o6 := o6) (tl := tl) G0 hsr) (by show (5 : Nat) < 7; decide)
    have ol := outs_len s
    simp only [List.length_cons] at hl
    have cc := cond_congr (A := A) he s
    cases hc : cond A g s with
    | true =>
      rw [hc] at cc
      have hg : gR A g' s = .fl ((outs s).map eP) := if_pos cc.symm
      rw [hg] at a1
      obtain ⟨ap, fo⟩ := outs_apart hsr G0.n2 hc
      have t1 : rB (rBin g_isA (rVar 5) (rC .non)) [some (eM n A []), some w1, some w2, some (.rf 0), some (eSt s), some (.fl ((outs s).map eP)), o6] (.dct (eK g') :: tl) = some false := b_of (bin_of (var_of rfl) c_of rfl)
      have hb : pb [some (eM n A []), some w1, some w2, some (.rf 0), some (eSt s), o5, o6] (.dct (eK g') :: tl) = some (.nx, [some (eM n A []), some w1, some w2, some (.rf 0), some (eSt s), some (.fl ((outs s).map eP)), o6], .dct (eK ((outs s).foldl addP g')) :: (tl ++ [.dct (eK (outs s))])) :=
        (sq_nx a1).trans ((sq_nx ((if_f (ofRT_of t1)).trans rfl)).trans (exp_of (upd_of (g := g') (os := outs s) rfl rfl (by show (6 : Nat) < 7; decide) fo ap (by omega) (by omega))))
      have hr : runL A g (s :: row) = runL A (g ++ outs s) row := if_pos hc
      rw [List.map_cons, hr]
      have fl := foldP_len (outs s) g'
      obtain ⟨δ', G', h1, h2⟩ := pr_go G0 (w1 := w1) (w2 := w2) row (g ++ outs s) ((outs s).foldl addP g') (some (eSt s)) (some (.fl ((outs s).map eP))) o6 (tl ++ [.dct (eK (outs s))]) (fun p => by rw [List.mem_append, mem_foldP, he p]) (fun x hx => hs x (List.mem_cons_of_mem _ hx)) (by omega)
      exact ⟨δ', G', (forL_nx (δ1 := [some (eM n A []), some w1, some w2, some (.rf 0), some (eSt s), o5, o6]) rfl hb).trans h1, h2⟩
    | false =>
      rw [hc] at cc
      have hg : gR A g' s = .non := if_neg (by rw [← cc]; decide)
      rw [hg] at a1
      have t1 : rB (rBin g_isA (rVar 5) (rC .non)) [some (eM n A []), some w1, some w2, some (.rf 0), some (eSt s), some .non, o6] (.dct (eK g') :: tl) = some true := b_of (bin_of (var_of rfl) c_of rfl)
      have hr : runL A g (s :: row) = none := if_neg (by rw [hc]; decide)
      rw [List.map_cons, hr]
      exact ⟨_, _, forL_rt (δ1 := [some (eM n A []), some w1, some w2, some (.rf 0), some (eSt s), o5, o6]) rfl ((sq_nx a1).trans (sq_rt ((if_t (ofRT_of t1)).trans (ret_of (ofR_of c_of))))), fun g' e => by cases e⟩
theorem reas_P (G0 : Good n A []) (arrow : Pq) (row : List Stp) (hs : ∀ s ∈ row, InR n s) (hl : row.length ≤ 20000) : f_are_reasons [eM n A [], eP arrow, .tup (row.map eSt)] = some (.bl (RS A arrow row)) := by
  have t0 : rNot (rTru (rIsT (isTy "tuple") (rVar 2))) (slots 7 [eM n A [], eP arrow, .tup (row.map eSt)]) [] = some false := not_f (tru_of (isT_of (T := "tuple") (var_of rfl) rfl) rfl)
  obtain ⟨δ', G', h1, h2⟩ := pr_go G0 (w1 := eP arrow) (w2 := .tup (row.map eSt)) row [] [] none none none [] (fun p => Iff.rfl) hs (by simp; omega)
  have pre : ∀ r, (sSeq (sFor (ofRA (iTupR (rVar 2))) (setN 4) pb) (sRet (ofR (rBin g_inD (rVar 1) (rVar 3))))) [some (eM n A []), some (eP arrow), some (.tup (row.map eSt)), some (.rf 0), none, none, none] [.dct (eK [])] = r → b_are_reasons (slots 7 [eM n A [], eP arrow, .tup (row.map eSt)]) [] = r := fun r h =>
    (sq_nx ((if_f (ofRT_of t0)).trans rfl)).trans ((sq_nx (asg_of (δ := slots 7 [eM n A [], eP arrow, .tup (row.map eSt)]) (G := []) (i := 3) (f := eDct0) (d := .rf 0) (G1 := [.dct []]) rfl (by show (3 : Nat) < 7; decide))).trans h)
  have hf : sFor (ofRA (iTupR (rVar 2))) (setN 4) pb [some (eM n A []), some (eP arrow), some (.tup (row.map eSt)), some (.rf 0), none, none, none] [.dct (eK [])] = _ := (for_nx (ofRA_of (itup_of (xs := row.map eSt) (var_of rfl)))).trans h1
  unfold RS
  cases hr : runL A [] row with
  | none =>
    rw [hr] at hf
    exact fnP_of (pre _ (sq_rt hf)) rfl
  | some g =>
    rw [hr] at hf
    obtain ⟨o4', o5', o6', h', tl', rfl, rfl, he⟩ := h2 g hr
    refine fnP_of (pre _ ((sq_nx hf).trans (ret_of (ofR_of (bin_of (var_of rfl) (var_of rfl) ((inD_P (k := 0) (g := h') rfl false arrow).trans ?_)))))) rfl
    rw [show decide (arrow ∈ h') = decide (arrow ∈ g) from decide_eq_decide.mpr (he arrow).symm]
    simp
theorem loose_P (G0 : Good n A []) (arrow : Pq) (ha : arrow ∈ A) (row : List Stp) (hs : ∀ s ∈ row, InR n s) (hl : row.length ≤ 20000) : f_is_loose [eM n A [], eP arrow, .tup [.str "forced", .tup (row.map eSt)]] = some (.bl (RS A arrow row)) := by
  have em : (eM n A []).im = true := eM_im n A []
  have r := G0.aR arrow ha
  have ck : f_check_arrow [eM n A [], eP arrow] = some .non := by
    have t1 : rOr (rNot (rTru (rIsT (isTy "tuple") (rVar 1)))) (rB (rBin g_nin (rVar 1) (rAttr "arrows" (rVar 0)))) (slots 2 [eM n A [], eP arrow]) [] = some false :=
      or_of (b := false) (c := false) (not_f (tru_of (isT_of (T := "tuple") (var_of rfl) rfl) rfl)) fun _ => b_of (bin_of (var_of rfl) (gmany A rfl) ((in_P (p := arrow) rfl true).trans (by simp [ha])))
    have vq : ∀ (v : Int), 0 ≤ v ∧ v < (n : Int) → ∀ {δ : Env'} {G : Hs} {f : RE}, δ[0]? = some (some (eM n A [])) → f δ G = some (.int v) → rNot (rTru (rCallP 2 f_is_variable (rCons (rVar 0) (rCons f rNil)))) δ G = some false := fun v hv δ G f h0 hf =>
      not_f (tru_of (d := .bl true) (callP_of (ds := [eM n A [], .int v]) (cons_of (var_of h0) (cons_of hf nil_of)) (by simp [ims, em, D.im]) rfl ((is_variable_v v).trans (by rw [decide_eq_true hv.1, decide_eq_true hv.2]; rfl))) rfl)
    have t2 : rOr (rNot (rTru (rCallP 2 f_is_variable (rCons (rVar 0) (rCons (rBin ixA (rVar 1) (rC (.int 0))) rNil))))) (rNot (rTru (rCallP 2 f_is_variable (rCons (rVar 0) (rCons (rBin ixA (rVar 1) (rC (.int 1))) rNil))))) (slots 2 [eM n A [], eP arrow]) [] = some false :=
      or_of (b := false) (c := false) (vq arrow.1 ⟨r.1, r.2.1⟩ rfl (bin_of (var_of rfl) c_of ((ixA_tup _ _).trans (at_0 _ _)))) fun _ => vq arrow.2 ⟨r.2.2.1, r.2.2.2.1⟩ rfl (bin_of (var_of rfl) c_of ((ixA_tup _ _).trans (at_1 _ _ _)))
    have hb : b_check_arrow (slots 2 [eM n A [], eP arrow]) [] = some (.nx, _, []) :=
      (sq_nx (exp_of (ofR_of (callP_of (ds := [eM n A []]) (d := .non) (cons_of (var_of rfl) nil_of) (by simp [ims, em]) rfl rfl)))).trans ((sq_nx ((if_f (ofRT_of t1)).trans rfl)).trans ((if_f (ofRT_of t2)).trans rfl))
    unfold f_check_arrow fnP
    rw [hb]
    rfl
  have t1 : rOr (rNot (rTru (rIsT (isTy "tuple") (rVar 2)))) (rOr (rB (rBin g_ne (rCal gLen (rCons (rVar 2) rNil)) (rC (.int 2)))) (rNot (rTru (rIsT (isTy "str") (rBin ixA (rVar 2) (rC (.int 0))))))) (slots 3 [eM n A [], eP arrow, .tup [.str "forced", .tup (row.map eSt)]]) [] = some false :=
    or_of (b := false) (c := false) (not_f (tru_of (isT_of (T := "tuple") (var_of rfl) rfl) rfl)) fun _ => or_of (b := false) (c := false) (b_of (bin_of (cal1_of (var_of rfl) (len_tup _)) c_of (ne_ii _ _))) fun _ => not_f (tru_of (isT_of (T := "str") (bin_of (var_of rfl) c_of ((ixA_tup _ _).trans (at_0 _ _))) rfl) rfl)
  have t2 : rB (rBin g_eq (rBin ixA (rVar 2) (rC (.int 0))) (rC (.str "forced"))) (slots 3 [eM n A [], eP arrow, .tup [.str "forced", .tup (row.map eSt)]]) [] = some true := by
    refine b_of (bin_of (bin_of (var_of rfl) c_of ((ixA_tup _ _).trans (at_0 _ _))) c_of ?_)
    rw [eq_of (by decide +kernel) (by decide +kernel) (Nat.zero_le _) (Nat.zero_le _), eqb_str, decide_eq_true rfl]
  have hrow : ims (row.map eSt) = true := ims_map eSt_im row
  exact fnP_of ((sq_nx (exp_of (ofR_of (callP_of (ds := [eM n A [], eP arrow]) (d := .non) (cons_of (var_of rfl) (cons_of (var_of rfl) nil_of)) (by simp [ims, em, eP_im]) rfl ck)))).trans ((sq_nx ((if_f (ofRT_of t1)).trans rfl)).trans (sq_rt ((if_t (ofRT_of t2)).trans
    (ret_of (ofR_of (callP_of (ds := [eM n A [], eP arrow, .tup (row.map eSt)]) (cons_of (var_of rfl) (cons_of (var_of rfl) (cons_of (bin_of (var_of rfl) c_of ((ixA_tup _ _).trans (at_1 _ _ _))) nil_of))) (by simp [ims, em, eP_im, D.im, hrow]) rfl (reas_P G0 arrow row hs hl)))))))) rfl
end
end K44
namespace FL
open PySem PySem.Spec PyProof.Rows L2
/-- range(i, -1, -1) -/
theorem rgd_of {δ : Env'} {G : Hs} {fa fb fc : RE} {m : Nat} (ha : fa δ G = some (.int ((m : Int) - 1))) (hb : fb δ G = some (.int (-1))) (hc : fc δ G = some (.int (-1))) (hm : m ≤ 100000) :
    iRgR rng3 (rCons fa (rCons fb (rCons fc rNil))) δ G = some ((List.range m).map fun k : Nat => .int ((m : Int) - 1 + (k : Int) * (-1))) := by
  have hz : Builtin.Range.rangeSize ((m : Int) - 1) (-1) (-1) = (m : Int) := by
    unfold Builtin.Range.rangeSize
    simp only [show ¬ ((-1 : Int) > 0) from by decide, if_false, show (-(-1 : Int)) = 1 from rfl, Int.ediv_one]
    split <;> omega
  have hs : Builtin.Range.small ((m : Int) - 1) (-1) (-1) = true := by
    unfold Builtin.Range.small Builtin.Range.rangeSize
    simp only [Builtin.Range.rangeFitsLong, Bool.and_eq_true, Bool.or_eq_true, decide_eq_true_eq, beq_iff_eq, show ¬ ((-1 : Int) > 0) from by decide, if_false, show (-(-1 : Int)) = 1 from rfl, Int.ediv_one]
    split <;> omega
  simp only [iRgR, rCons, rNil, ha, hb, hc, Option.bind_some, rng3]
  rw [if_pos ⟨by decide, by decide, hs, by rw [hz]; omega⟩, hz, Int.toNat_natCast]
  rfl
end FL
namespace K44
open PySem PySem.Spec PyProof.Rows L2 FL
section
variable {n : Nat}
def AI (n : Nat) (va vb : Option Int) (k : Nat) (_ : Unit) (δ : Env') (G : Hs) : Prop := ∃ (L : List Stp) (o2 o3 o4 o5 : Option D), δ = [some (.int n), some (.rf 0), o2, o3, o4, o5] ∧ G = [.lst (L.map eSt)] ∧ (∀ s ∈ L, InR n s) ∧ L.length + k ≤ 100000 ∧ (∀ a, va = some a → o2 = some (.int a) ∧ 0 ≤ a ∧ a < n) ∧ ∀ b, vb = some b → o3 = some (.int b) ∧ 0 ≤ b ∧ b < n
abbrev cB : SS := (sSeq (sExp (eMet gExtend (rVar 1) (eCons (ofR (rFl (rCons (rTup (rCons (rC (.str "away")) (rCons (rVar 2) (rCons (rVar 3) (rCons (rVar 4) rNil))))) (rCons (rTup (rCons (rC (.str "ring")) (rCons (rVar 2) (rCons (rVar 3) (rCons (rVar 4) rNil))))) rNil)))) (ofRA rNil))))
     (sExp (eMet gExtend (rVar 1) (eCons (ofR (rLc (iRgR rng1 (rCons (rVar 0) rNil)) (setN 5) (rB (rBin g_ltA (rVar 3) (rVar 4))) (rTup (rCons (rC (.str "kite")) (rCons (rVar 2) (rCons (rVar 3) (rCons (rVar 4) (rCons (rVar 5) rNil)))))) [5])) (ofRA rNil)))))
abbrev bB : SS := (sFor (ofRA (iRgR rng1 (rCons (rVar 0) rNil))) (setN 4) cB)
abbrev aB : SS := (sFor (ofRA (iRgR rng1 (rCons (rVar 0) rNil))) (setN 3) bB)
theorem c_step (hn : n ≤ 6) (a b : Int) {i : Nat} (hi : i < n) {k : Nat} {u : Unit} {δ : Env'} {G : Hs} (h : AI n (some a) (some b) (8 * (k + 1)) u δ G) : ∃ δ1, setN 4 (.int (0 + (i : Int))) δ = some δ1 ∧ ∃ δ2 G2, cB δ1 G = some (.nx, δ2, G2) ∧ AI n (some a) (some b) (8 * k) () δ2 G2 := by
  obtain ⟨L, o2, o3, o4, o5, rfl, rfl, hL, hl, ha, hb⟩ := h
  obtain ⟨rfl, ra⟩ := ha a rfl
  obtain ⟨rfl, rb⟩ := hb b rfl
  refine ⟨_, rfl, ?_⟩
  have rc : 0 ≤ 0 + (i : Int) ∧ 0 + (i : Int) < n := by omega
  generalize hc : (0 + (i : Int)) = c at rc ⊢
  have e1 : sExp (eMet gExtend (rVar 1) (eCons (ofR (rFl (rCons (rTup (rCons (rC (.str "away")) (rCons (rVar 2) (rCons (rVar 3) (rCons (rVar 4) rNil))))) (rCons (rTup (rCons (rC (.str "ring")) (rCons (rVar 2) (rCons (rVar 3) (rCons (rVar 4) rNil))))) rNil)))) (ofRA rNil))) [some (.int n), some (.rf 0), some (.int a), some (.int b), some (.int c), o5] [.lst (L.map eSt)] = some (.nx, [some (.int n), some (.rf 0), some (.int a), some (.int b), some (.int c), o5], [.lst ((L ++ [Stp.t .aw a b c, Stp.t .ri a b c]).map eSt)]) := by
    refine (exp_of (ext_of (k := 0) (zs := [eSt (.t .aw a b c), eSt (.t .ri a b c)]) (var_of rfl) rfl (econs1_of (ofR_of (fl_of (cons_of (tup_of (cons_of c_of (cons_of (var_of rfl) (cons_of (var_of rfl) (cons_of (var_of rfl) nil_of)))) (by show (4 : Nat) ≤ 1000; decide)) (cons_of (tup_of (cons_of c_of (cons_of (var_of rfl) (cons_of (var_of rfl) (cons_of (var_of rfl) nil_of)))) (by show (4 : Nat) ≤ 1000; decide)) nil_of)) (by show (2 : Nat) ≤ 1000; decide)))) rfl (by rw [List.length_map]; simp only [List.length_cons, List.length_nil]; omega))).trans ?_
    rw [List.map_append]
    rfl
  have e2 : rLc (iRgR rng1 (rCons (rVar 0) rNil)) (setN 5) (rB (rBin g_ltA (rVar 3) (rVar 4))) (rTup (rCons (rC (.str "kite")) (rCons (rVar 2) (rCons (rVar 3) (rCons (rVar 4) (rCons (rVar 5) rNil)))))) [5] [some (.int n), some (.rf 0), some (.int a), some (.int b), some (.int c), o5] [.lst ((L ++ [Stp.t .aw a b c, Stp.t .ri a b c]).map eSt)] = some (.fl ((((List.range (n : Int).toNat).filter fun _ => decide (b < c)).map fun d : Nat => Stp.k a b c (0 + (d : Int))).map eSt)) := by
    refine (rlc_of (fun d : Nat => D.int (0 + (d : Int))) (fun d => [some (.int n), some (.rf 0), some (.int a), some (.int b), some (.int c), some (.int (0 + (d : Int)))]) (fun _ => decide (b < c)) (fun d => eSt (.k a b c (0 + (d : Int)))) (List.range (n : Int).toNat) (rg1_of (j := n) (var_of rfl) (by omega) (by omega)) (by rw [List.length_range]; omega) fun d hd => ⟨rfl, b_of (bin_of (var_of rfl) (var_of rfl) (lt_ii _ _)), fun _ => tup_of (cons_of c_of (cons_of (var_of rfl) (cons_of (var_of rfl) (cons_of (var_of rfl) (cons_of (var_of rfl) nil_of))))) (by show (5 : Nat) ≤ 1000; decide)⟩).trans ?_
    rw [List.map_map]
    rfl
  have fl : ((List.range (n : Int).toNat).filter fun _ => decide (b < c)).length ≤ 6 := Nat.le_trans (List.length_filter_le _ _) (by rw [List.length_range]; omega)
  refine ⟨_, _, (sq_nx e1).trans (exp_of (ext_of (k := 0) (var_of rfl) rfl (econs1_of (ofR_of e2)) rfl (by simp only [List.length_map, List.length_append, List.length_cons, List.length_nil]; omega))), (L ++ [Stp.t .aw a b c, Stp.t .ri a b c]) ++ ((List.range (n : Int).toNat).filter fun _ => decide (b < c)).map fun d : Nat => Stp.k a b c (0 + (d : Int)), _, _, _, _, rfl, ?_, fun s hs => ?_, ?_, fun a' e => by cases e; exact ⟨rfl, ra⟩, fun b' e => by cases e; exact ⟨rfl, rb⟩⟩
  · rw [List.map_append (l₁ := L ++ _)]
    rfl
  · rcases List.mem_append.mp hs with hs | hs
    · rcases List.mem_append.mp hs with hs | hs
      · exact hL s hs
      · simp only [List.mem_cons, List.mem_nil_iff, or_false] at hs
        rcases hs with rfl | rfl <;> · intro x hx; simp only [Stp.sp, List.mem_cons, List.mem_nil_iff, or_false] at hx; omega
    · obtain ⟨d, hd, rfl⟩ := List.mem_map.mp hs
      have := List.mem_range.mp (List.mem_filter.mp hd).1
      intro x hx
      simp only [Stp.sp, List.mem_cons, List.mem_nil_iff, or_false] at hx
      omega
  · simp only [List.length_append, List.length_cons, List.length_nil, List.length_map]
    omega
theorem b_step (hn : n ≤ 6) (a : Int) {i : Nat} (hi : i < n) {k : Nat} {u : Unit} {δ : Env'} {G : Hs} (h : AI n (some a) none (48 * (k + 1)) u δ G) : ∃ δ1, setN 3 (.int (0 + (i : Int))) δ = some δ1 ∧ ∃ δ2 G2, bB δ1 G = some (.nx, δ2, G2) ∧ AI n (some a) none (48 * k) () δ2 G2 := by
  obtain ⟨L, o2, o3, o4, o5, rfl, rfl, hL, hl, ha, _⟩ := h
  obtain ⟨rfl, ra⟩ := ha a rfl
  refine ⟨_, rfl, ?_⟩
  obtain ⟨δ2, G2, h1, L', o2', o3', o4', o5', rfl, rfl, hL', hl', ha', hb'⟩ := forL_fold (set := setN 4) (b := cB) (fun i : Nat => D.int (0 + (i : Int))) (fun _ _ => ()) (fun m u δ G => AI n (some a) (some (0 + (i : Int))) (8 * (6 * k + m)) u δ G) (List.range (n : Int).toNat) () [some (.int n), some (.rf 0), some (.int a), some (.int (0 + (i : Int))), o4, o5] [.lst (L.map eSt)]
    ⟨L, _, _, _, _, rfl, rfl, hL, by rw [List.length_range]; omega, fun a' e => by cases e; exact ⟨rfl, ra⟩, fun b' e => by cases e; exact ⟨rfl, by omega⟩⟩ (fun j hj m u δ G h => c_step hn a (0 + (i : Int)) (by have := List.mem_range.mp hj; omega) (by rw [Nat.add_assoc]; exact h))
  obtain ⟨rfl, _⟩ := ha' a rfl
  exact ⟨_, _, (for_nx (ofRA_of (rg1_of (j := n) (var_of rfl) (by omega) (by omega)))).trans h1, L', _, _, _, _, rfl, rfl, hL', by omega, fun a' e => by cases e; exact ⟨rfl, ra⟩, fun b' e => by cases e⟩
theorem a_step (hn : n ≤ 6) {i : Nat} (hi : i < n) {k : Nat} {u : Unit} {δ : Env'} {G : Hs} (h : AI n none none (288 * (k + 1)) u δ G) : ∃ δ1, setN 2 (.int (0 + (i : Int))) δ = some δ1 ∧ ∃ δ2 G2, aB δ1 G = some (.nx, δ2, G2) ∧ AI n none none (288 * k) () δ2 G2 := by
  obtain ⟨L, o2, o3, o4, o5, rfl, rfl, hL, hl, _, _⟩ := h
  refine ⟨_, rfl, ?_⟩
  obtain ⟨δ2, G2, h1, L', o2', o3', o4', o5', rfl, rfl, hL', hl', ha', hb'⟩ := forL_fold (set := setN 3) (b := bB) (fun i : Nat => D.int (0 + (i : Int))) (fun _ _ => ()) (fun m u δ G => AI n (some (0 + (i : Int))) none (48 * (6 * k + m)) u δ G) (List.range (n : Int).toNat) () [some (.int n), some (.rf 0), some (.int (0 + (i : Int))), o3, o4, o5] [.lst (L.map eSt)]
    ⟨L, _, _, _, _, rfl, rfl, hL, by rw [List.length_range]; omega, fun a' e => by cases e; exact ⟨rfl, by omega⟩, fun b' e => by cases e⟩ (fun j hj m u δ G h => b_step hn (0 + (i : Int)) (by have := List.mem_range.mp hj; omega) (by rw [Nat.add_assoc]; exact h))
  exact ⟨_, _, (for_nx (ofRA_of (rg1_of (j := n) (var_of rfl) (by omega) (by omega)))).trans h1, L', _, _, _, _, rfl, rfl, hL', by omega, (fun a' e => by cases e), (fun b' e => by cases e)⟩
theorem all_steps_P (hn : n ≤ 6) : ∃ L : List Stp, f__law_all_steps [.int n] = some (.fl (L.map eSt)) ∧ (∀ s ∈ L, InR n s) ∧ L.length ≤ 100000 := by
  obtain ⟨δ2, G2, h1, L', o2', o3', o4', o5', rfl, rfl, hL', hl', _, _⟩ := forL_fold (set := setN 2) (b := aB) (fun i : Nat => D.int (0 + (i : Int))) (fun _ _ => ()) (fun m u δ G => AI n none none (288 * m) u δ G) (List.range (n : Int).toNat) () [some (.int n), some (.rf 0), none, none, none, none] [.lst []]
    ⟨[], _, _, _, _, rfl, rfl, (fun s h => by cases h), by rw [List.length_range, List.length_nil]; omega, (fun a' e => by cases e), (fun b' e => by cases e)⟩ (fun j hj m u δ G h => a_step hn (by have := List.mem_range.mp hj; omega) h)
  exact ⟨L', fnP_fl (k := 0) ((sq_nx (asg_of (d := .rf 0) (G1 := [.lst []]) rfl (by show (1 : Nat) < 6; decide))).trans ((sq_nx ((for_nx (ofRA_of (rg1_of (j := n) (var_of rfl) (by omega) (by omega)))).trans h1)).trans (ret_of (ofR_of (var_of rfl))))) rfl (ims_map eSt_im _), hL', by omega⟩
end
end K44
namespace K44
open PySem PySem.Spec PyProof.Rows L2 FL
section
variable {A : List Pq} {arrow : Pq}
theorem runL_app : ∀ (P Q : List Stp) (g : List Pq), runL A g (P ++ Q) = (runL A g P).bind fun h => runL A h Q
  | [], Q, g => rfl
  | s :: P, Q, g => by
    show (if cond A g s = true then runL A (g ++ outs s) (P ++ Q) else none) = (if cond A g s = true then runL A (g ++ outs s) P else none).bind fun h => runL A h Q
    by_cases hc : cond A g s = true
    · rw [if_pos hc, if_pos hc]
      exact runL_app P Q _
    · rw [if_neg hc, if_neg hc]
      rfl
theorem cond_mono {g g' : List Pq} (h : ∀ p ∈ g, p ∈ g') {s : Stp} (hc : cond A g s = true) : cond A g' s = true := by
  have e : ∀ p, decide (p ∈ g) = true → decide (p ∈ g') = true := fun p hp => decide_eq_true (h p (of_decide_eq_true hp))
  cases s with
  | t w a b c =>
    cases w with
    | v => exact hc
    | aw =>
      simp only [cond, Bool.and_eq_true] at hc ⊢
      exact ⟨e _ hc.1, hc.2⟩
    | ri =>
      simp only [cond, Bool.and_eq_true] at hc ⊢
      exact ⟨⟨e _ hc.1.1, e _ hc.1.2⟩, hc.2⟩
  | k a b c d =>
    simp only [cond, Bool.and_eq_true] at hc ⊢
    exact ⟨hc.1, hc.2.1, e _ hc.2.2.1, e _ hc.2.2.2⟩
theorem runL_mono : ∀ (Q : List Stp) (g g' h : List Pq), (∀ p ∈ g, p ∈ g') → runL A g Q = some h → ∃ h', runL A g' Q = some h' ∧ ∀ p ∈ h, p ∈ h'
  | [], g, g', h, hg, e => by
    cases e
    exact ⟨g', rfl, hg⟩
  | s :: Q, g, g', h, hg, e => by
    unfold runL at e
    split at e
    case isFalse => cases e
    rename_i hc
    obtain ⟨h', h1, h2⟩ := runL_mono Q (g ++ outs s) (g' ++ outs s) h (fun p hp => by
      rcases List.mem_append.mp hp with hp | hp
      · exact List.mem_append_left _ (hg p hp)
      · exact List.mem_append_right _ hp) e
    exact ⟨h', by unfold runL; rw [if_pos (cond_mono hg hc)]; exact h1, h2⟩
theorem RS_iff {row : List Stp} : RS A arrow row = true ↔ ∃ g, runL A [] row = some g ∧ arrow ∈ g := by
  unfold RS
  cases e : runL A [] row with
  | none => simp
  | some g => simp
/-- a step that may stand there does no harm -/
theorem RS_ins {P T Q : List Stp} {s : Stp} (h1 : RS A arrow (P ++ Q) = true) (h2 : RS A arrow (P ++ s :: T) = true) : RS A arrow (P ++ s :: Q) = true := by
  obtain ⟨g, e1, m1⟩ := RS_iff.mp h1
  obtain ⟨g2, e2, _⟩ := RS_iff.mp h2
  rw [runL_app] at e1 e2
  obtain ⟨h, eh, e1⟩ := Option.bind_eq_some_iff.mp e1
  rw [eh, Option.bind_some] at e2
  unfold runL at e2
  split at e2
  case isFalse => cases e2
  rename_i hc
  obtain ⟨g', e3, m3⟩ := runL_mono Q h (h ++ outs s) g (fun p hp => List.mem_append_left _ hp) e1
  refine RS_iff.mpr ⟨g', ?_, m3 _ m1⟩
  rw [runL_app, eh, Option.bind_some]
  unfold runL
  rw [if_pos hc]
  exact e3
def del (k : Nat) (row : List Stp) : List Stp := row.take k ++ row.drop (k + 1)
theorem del_app (P T : List Stp) (j : Nat) : del (P.length + j) (P ++ T) = P ++ del j T := by
  unfold del
  rw [List.take_append, List.drop_append, List.take_of_length_le (by omega), List.drop_eq_nil_of_le (by omega), List.nil_append, List.append_assoc, show P.length + j - P.length = j by omega, show P.length + j + 1 - P.length = j + 1 by omega]
theorem del_at (P T : List Stp) (s : Stp) : del P.length (P ++ s :: T) = P ++ T := by
  have := del_app P (s :: T) 0
  rw [Nat.add_zero] at this
  rw [this]
  rfl
theorem del_succ (s : Stp) (T : List Stp) (j : Nat) : del (j + 1) (s :: T) = s :: del j T := rfl
theorem del_len {row : List Stp} {k : Nat} (h : k < row.length) : (del k row).length = row.length - 1 := by
  unfold del
  rw [List.length_append, List.length_take, List.length_drop]
  omega
theorem del_mem {row : List Stp} {k : Nat} {s : Stp} (h : s ∈ del k row) : s ∈ row := by
  unfold del at h
  rcases List.mem_append.mp h with h | h
  · exact List.mem_of_mem_take h
  · exact List.mem_of_mem_drop h
theorem split_at {row : List Stp} {k : Nat} (h : k < row.length) : ∃ (P T : List Stp) (s : Stp), row = P ++ s :: T ∧ P.length = k := by
  refine ⟨row.take k, row.drop (k + 1), row[k], ?_, ?_⟩
  · rw [← List.drop_eq_getElem_cons h, List.take_append_drop]
  · rw [List.length_take]
    omega
def gr (A : List Pq) (arrow : Pq) : Nat → List Stp → List Stp
  | 0, row => row
  | k + 1, row => gr A arrow k (if RS A arrow (del k row) = true then del k row else row)
theorem gr_ok : ∀ (k : Nat) (row : List Stp), RS A arrow row = true → k ≤ row.length → (∀ i, k ≤ i → i < row.length → RS A arrow (del i row) = false) →
    RS A arrow (gr A arrow k row) = true ∧ (∀ i, i < (gr A arrow k row).length → RS A arrow (del i (gr A arrow k row)) = false) ∧ (∀ s ∈ gr A arrow k row, s ∈ row) ∧ (gr A arrow k row).length ≤ row.length
  | 0, row, h, _, hi => ⟨h, fun i hl => hi i (Nat.zero_le _) hl, fun s hs => hs, Nat.le_refl _⟩
  | k + 1, row, h, hk, hi => by
    have hlt : k < row.length := hk
    unfold gr
    by_cases hd : RS A arrow (del k row) = true
    · rw [if_pos hd]
      have hdl := del_len hlt
      obtain ⟨h1, h2, h3, h4⟩ := gr_ok k (del k row) hd (by omega) (fun i hik hil => by
        obtain ⟨P, T, s, rfl, hP⟩ := split_at hlt
        subst hP
        rw [del_at] at hd hil ⊢
        obtain ⟨j, rfl⟩ : ∃ j, i = P.length + j := ⟨i - P.length, by omega⟩
        rw [del_app]
        cases e : RS A arrow (P ++ del j T) with
        | false => rfl
        | true =>
          have h5 := hi (P.length + (j + 1)) (by omega) (by rw [List.length_append] at hil; simp only [List.length_append, List.length_cons]; omega)
          rw [del_app, del_succ] at h5
          have h6 := RS_ins e h
          rw [h5] at h6
          cases h6)
      exact ⟨h1, h2, fun s hs => del_mem (h3 s hs), by omega⟩
    · rw [if_neg hd]
      obtain ⟨h1, h2, h3, h4⟩ := gr_ok k row h (by omega) (fun i hik hil => by
        rcases Nat.lt_or_ge k i with hki | hki
        · exact hi i hki hil
        · have : i = k := by omega
          subst this
          cases e : RS A arrow (del i row) with
          | false => rfl
          | true => exact absurd e hd)
      exact ⟨h1, h2, h3, h4⟩
theorem gr_snoc (l : List Stp) : ∀ (k : Nat) (row : List Stp), gr A arrow k row = (((List.range k).map fun i => k - 1 - i).foldl (fun r i => if RS A arrow (del i r) = true then del i r else r) row)
  | 0, row => rfl
  | k + 1, row => by
    unfold gr
    rw [gr_snoc l k, List.range_succ_eq_map, List.map_cons, List.foldl_cons, List.map_map]
    show _ = List.foldl _ (if RS A arrow (del k row) = true then del k row else row) _
    congr 1
    refine List.map_congr_left fun i _ => ?_
    show k - 1 - i = k + 1 - 1 - (i + 1)
    omega
end
end K44
namespace K44
open PySem PySem.Spec PyProof.Rows L2 FL
section
variable {n : Nat} {A : List Pq} {arrow : Pq}
theorem cut_take (ds : List D) (k : Nat) : FL.cutD ds none (some (k : Int)) = ds.take k := by
  unfold FL.cutD
  rw [HT.sIx_none, HT.sIx_nat, List.drop_zero, Nat.sub_zero]
  by_cases h : k ≤ ds.length
  · rw [Nat.min_eq_left h]
  · rw [Nat.min_eq_right (by omega), List.take_of_length_le (Nat.le_refl _), List.take_of_length_le (by omega)]
theorem cut_drop (ds : List D) (k : Nat) : FL.cutD ds (some (k : Int)) none = ds.drop k := by
  unfold FL.cutD
  rw [HT.sIx_none, HT.sIx_nat]
  by_cases h : k ≤ ds.length
  · rw [Nat.min_eq_left h, List.take_of_length_le (by rw [List.length_drop]; omega)]
  · rw [Nat.min_eq_right (by omega), List.drop_eq_nil_of_le (Nat.le_refl _), List.drop_eq_nil_of_le (by omega)]
    simp
theorem cat_S {G : Hs} (a b : List Stp) (h : a.length + b.length ≤ 100000) : g_addA G (.fl (a.map eSt)) (.fl (b.map eSt)) = some (.fl ((a ++ b).map eSt)) := by
  rw [cat_lst (a := a.map eSt) (b := b.map eSt) rfl rfl rfl rfl (by rw [List.length_map, List.length_map]; omega), List.map_append]
theorem asg3_of {f : EE} {δ : Env'} {G G1 : Hs} {d e g : D} {i j k : Nat} (h : f δ G = some (.tup [d, e, g], G1)) (hi : i < δ.length) (hj : j < δ.length) (hk : k < δ.length) : sAsg f (setTup [(setN i), (setN j), (setN k)]) δ G = some (.nx, ((δ.set i (some d)).set j (some e)).set k (some g), G1) := by
  unfold sAsg
  rw [h, Option.bind_some]
  show ((setTs [(setN i), (setN j), (setN k)] [d, e, g] δ).bind _) = _
  have e1 : setN i d δ = some (δ.set i (some d)) := by
    unfold setN
    rw [if_pos hi]
  have e2 : setN j e (δ.set i (some d)) = some ((δ.set i (some d)).set j (some e)) := by
    unfold setN
    rw [if_pos (by rw [List.length_set]; exact hj)]
  have e3 : setN k g ((δ.set i (some d)).set j (some e)) = some (((δ.set i (some d)).set j (some e)).set k (some g)) := by
    unfold setN
    rw [if_pos (by rw [List.length_set, List.length_set]; exact hk)]
  simp [setTs, e1, e2, e3]
def vst (t : Tr) : Stp := .t .v t.1 t.2.1 t.2.2
def vrow (L : List Tr) : List Stp := L.map vst
theorem v_add {G : Hs} (t : Tr) : g_addA G (.tup [.str "v"]) (eV t) = some (eSt (vst t)) := cat_tup (a := [.str "v"]) (b := [.int t.1, .int t.2.1, .int t.2.2]) (by simp)
def WO : D := .tup [.str "away", .str "ring", .str "kite"]
def wIn (s : Stp) : Bool := inB (.str s.w.s) [.str "away", .str "ring", .str "kite"]
theorem wIn_P {G : Hs} (s : Stp) : g_in_ G (.str s.w.s) WO = some (.bl (wIn s)) := by
  show fIn false G (.str s.w.s) WO = _
  rw [in_of (ds := [.str "away", .str "ring", .str "kite"]) rfl (W4.ok _) (by decide +kernel) (Nat.zero_le _) (by show (0 : Nat) ≤ 59; decide)]
  rw [if_neg (by simp)]
  rfl
/-- the pairs -/
def UP (n : Nat) : List Pq := (upto n).flatMap fun a => (upto n).map fun b => (a, b)
theorem mem_UP {p : Pq} : p ∈ UP n ↔ (0 ≤ p.1 ∧ p.1 < n) ∧ 0 ≤ p.2 ∧ p.2 < n := by
  obtain ⟨a, b⟩ := p
  unfold UP
  simp only [List.mem_flatMap, List.mem_map, mem_upto, Prod.mk.injEq]
  constructor
  · rintro ⟨x, hx, y, hy, rfl, rfl⟩
    exact ⟨hx, hy⟩
  · rintro ⟨h1, h2⟩
    exact ⟨a, h1, b, h2, rfl, rfl⟩
def mu (n : Nat) (g : List Pq) : Nat := ((UP n).filter fun p => !decide (p ∈ g)).length
theorem filt_le {α : Type} {p q : α → Bool} (h : ∀ x, p x = true → q x = true) : ∀ l : List α, (l.filter p).length ≤ (l.filter q).length
  | [] => Nat.le_refl _
  | x :: l => by
    have ih := filt_le h l
    rw [List.filter_cons, List.filter_cons]
    cases hp : p x with
    | true =>
      rw [if_pos rfl, if_pos (h x hp), List.length_cons, List.length_cons]
      omega
    | false =>
      rw [if_neg (by simp)]
      split
      · rw [List.length_cons]
        omega
      · exact ih
theorem filt_lt {α : Type} {p q : α → Bool} (h : ∀ x, p x = true → q x = true) {y : α} (hq : q y = true) (hp : p y = false) : ∀ l : List α, y ∈ l → (l.filter p).length < (l.filter q).length
  | x :: l, hy => by
    rw [List.filter_cons, List.filter_cons]
    rcases List.mem_cons.mp hy with rfl | hy
    · have ih := filt_le h l
      rw [hp, hq, if_neg (by simp), if_pos rfl, List.length_cons]
      omega
    · have ih := filt_lt h hq hp l hy
      cases hx : p x with
      | true =>
        rw [if_pos rfl, if_pos (h x hx), List.length_cons, List.length_cons]
        omega
      | false =>
        rw [if_neg (by simp)]
        split
        · rw [List.length_cons]
          omega
        · exact ih
theorem mu_lt {g : List Pq} {m : List Pq} {p : Pq} (hp : p ∈ m) (hg : p ∉ g) (hu : p ∈ UP n) : mu n (g ++ m) < mu n g := by
  refine filt_lt (fun x hx => ?_) (y := p) ?_ ?_ _ hu
  · simp only [Bool.not_eq_true', decide_eq_false_iff_not, List.mem_append, not_or] at hx ⊢
    exact hx.1
  · simp [hg]
  · simp [hp]
theorem mu_le (hn : n ≤ 6) (g : List Pq) : mu n g ≤ 36 := by
  unfold mu
  refine Nat.le_trans (List.length_filter_le _ _) ?_
  have : ∀ m < 7, (UP m).length ≤ 36 := by decide
  exact this n (by omega)
theorem outs_UP {s : Stp} (hs : InR n s) : ∀ p ∈ outs s, p ∈ UP n := by
  intro p hp
  rw [mem_UP]
  cases s with
  | t w a b c =>
    have ra := hs a (by simp [Stp.sp])
    have rb := hs b (by simp [Stp.sp])
    have rc := hs c (by simp [Stp.sp])
    cases w with
    | v =>
      simp only [outs, List.mem_cons, List.mem_nil_iff, or_false] at hp
      rcases hp with rfl | rfl
      · exact ⟨ra, rb⟩
      · exact ⟨rc, rb⟩
    | aw =>
      simp only [outs, List.mem_cons, List.mem_nil_iff, or_false] at hp
      subst hp
      exact ⟨rb, rc⟩
    | ri =>
      simp only [outs, List.mem_cons, List.mem_nil_iff, or_false] at hp
      subst hp
      exact ⟨ra, rc⟩
  | k a b c d =>
    have ra := hs a (by simp [Stp.sp])
    have rd := hs d (by simp [Stp.sp])
    simp only [outs, List.mem_cons, List.mem_nil_iff, or_false] at hp
    subst hp
    exact ⟨ra, rd⟩
/-- what stands behind each turn -/
structure RI (n : Nat) (A : List Pq) (g1 : List Pq) (row : List Stp) (given : List Pq) : Prop where
  run : ∃ g, runL A [] row = some g ∧ ∀ p, p ∈ g ↔ p ∈ given
  inr : ∀ s ∈ row, InR n s
  len : row.length + mu n given ≤ 1036
  gl : given.length ≤ 2 * row.length
  base : ∀ p ∈ g1, p ∈ given
def moreL (A given : List Pq) (s : Stp) : List Pq := (gives A given s).filter fun p => !decide (p ∈ given)
theorem RI.add {g1 : List Pq} {row : List Stp} {given : List Pq} (h : RI n A g1 row given) {s : Stp} (hs : InR n s) (hm : moreL A given s ≠ []) : RI n A g1 (row ++ [s]) (given ++ moreL A given s) ∧ mu n (given ++ moreL A given s) < mu n given := by
  obtain ⟨p, hp⟩ := List.exists_mem_of_ne_nil _ hm
  have hp' := List.mem_filter.mp hp
  have hc : cond A given s = true := by
    cases e : cond A given s with
    | true => rfl
    | false =>
      have : gives A given s = [] := if_neg (by rw [e]; decide)
      rw [this] at hp'
      cases hp'.1
  have hg : gives A given s = outs s := if_pos hc
  have hpu : p ∈ UP n := outs_UP hs p (hg ▸ hp'.1)
  have hlt := mu_lt (n := n) (g := given) (m := moreL A given s) hp (by have := hp'.2; simpa using this) hpu
  have ml : (moreL A given s).length ≤ 2 := by
    unfold moreL
    rw [hg]
    exact Nat.le_trans (List.length_filter_le _ _) (outs_len s)
  refine ⟨⟨?_, fun x hx => ?_, ?_, ?_, fun q hq => List.mem_append_left _ (h.base q hq)⟩, hlt⟩
  · obtain ⟨g, e1, e2⟩ := h.run
    refine ⟨g ++ outs s, ?_, fun q => ?_⟩
    · rw [runL_app, e1, Option.bind_some]
      show (if cond A g s = true then some (g ++ outs s) else none) = _
      rw [if_pos (by rw [cond_congr e2]; exact hc)]
    · unfold moreL
      rw [List.mem_append, List.mem_append, List.mem_filter, hg, e2 q]
      by_cases hq : q ∈ given <;> simp [hq]
  · rcases List.mem_append.mp hx with hx | hx
    · exact h.inr x hx
    · rw [List.mem_singleton] at hx
      exact hx ▸ hs
  · have := h.len
    rw [List.length_append, List.length_singleton]
    omega
  · have := h.gl
    rw [List.length_append, List.length_append, List.length_singleton]
    omega
abbrev EV (n : Nat) (A : List Pq) (arrow : Pq) (o3 : Option D) (S : List Stp) (o5 : Option D) (row : List Stp) (given : List Pq) (new : Bool) (o9 o10 o11 o12 : Option D) : Env' :=
  [some (eU n A), some (eP arrow), some WO, o3, some (.fl (S.map eSt)), o5, some (.fl (row.map eSt)), some (.fl (given.map eP)), some (.bl new), o9, o10, o11, o12]
abbrev fB : SS := (sSeq (sAsg (ofR (rLc (iLstR (rCallP 3 f__law_gives (rCons (rVar 0) (rCons (rVar 7) (rCons (rVar 3) rNil))))) (setN 12) (rB (rBin g_nin (rVar 12) (rVar 7))) (rVar 12) [12])) (setN 10))
    (sIf (ofRT (rB (rBin g_ne (rVar 10) (rFl rNil))))
     (sAsg (ofR (rTup (rCons (rBin g_addA (rVar 6) (rFl (rCons (rVar 3) rNil))) (rCons (rBin g_addA (rVar 7) (rVar 10)) (rCons (rC (.bl true)) rNil))))) (setTup [(setN 6), (setN 7), (setN 8)]))
     FL.sNil))
def FI (n : Nat) (A : List Pq) (arrow : Pq) (S : List Stp) (g1 : List Pq) (m0 : Nat) (_ : Nat) (_ : Unit) (δ : Env') (G : Hs) : Prop :=
  ∃ row given new o3 o5 o9 o10 o11 o12, δ = EV n A arrow o3 S o5 row given new o9 o10 o11 o12 ∧ G = [] ∧ RI n A g1 row given ∧ (new = true → mu n given < m0)
theorem ne_nil {G : Hs} (g : List Pq) : g_ne G (.fl (g.map eP)) (.fl []) = some (.bl (!decide (g = []))) := by
  rw [ne_of' (fl_ok g) (by rfl) (fl_dep g) (by show (1 : Nat) ≤ 60; decide)]
  congr 2
  cases g with
  | nil => rfl
  | cons p g => rfl
theorem f_step (G0 : Good n A []) {S : List Stp} {g1 : List Pq} {m0 : Nat} {s : Stp} (hs : InR n s) (hm0 : ∀ row given, RI n A g1 row given → True) {k : Nat} {u : Unit} {δ : Env'} {G : Hs}
    (h : (∃ row given new o3 o5 o9 o10 o11 o12, δ = EV n A arrow o3 S o5 row given new o9 o10 o11 o12 ∧ G = [] ∧ RI n A g1 row given ∧ mu n given ≤ m0 ∧ (new = true → mu n given < m0))) :
    ∃ δ1, setN 3 (eSt s) δ = some δ1 ∧ ∃ δ2 G2, fB δ1 G = some (.nx, δ2, G2) ∧ (∃ row given new o3 o5 o9 o10 o11 o12, δ2 = EV n A arrow o3 S o5 row given new o9 o10 o11 o12 ∧ G2 = [] ∧ RI n A g1 row given ∧ mu n given ≤ m0 ∧ (new = true → mu n given < m0)) := by
  obtain ⟨row, given, new, o3, o5, o9, o10, o11, o12, rfl, rfl, ri, hm, hnew⟩ := h
  refine ⟨_, rfl, ?_⟩
  have gl := ri.gl
  have rl := ri.len
  have mlen : (gives A given s).length ≤ 2 := by
    unfold gives
    split
    · exact outs_len s
    · exact Nat.zero_le _
  have e1 : rLc (iLstR (rCallP 3 f__law_gives (rCons (rVar 0) (rCons (rVar 7) (rCons (rVar 3) rNil))))) (setN 12) (rB (rBin g_nin (rVar 12) (rVar 7))) (rVar 12) [12] (EV n A arrow (some (eSt s)) S o5 row given new o9 o10 o11 o12) [] = some (.fl ((moreL A given s).map eP)) := by
    refine (rlc_of eP (fun p => EV n A arrow (some (eSt s)) S o5 row given new o9 o10 o11 (some (eP p))) (fun p => !decide (p ∈ given)) eP (gives A given s) (ilst_of (gq G0 hs (var_of rfl) (var_of rfl) (var_of rfl)) rfl) (by omega) fun p hp => ⟨rfl, b_of (bin_of (var_of rfl) (var_of rfl) ((in_P (p := p) rfl true).trans (by rw [if_pos rfl]))), fun _ => var_of rfl⟩).trans ?_
    rfl
  have a1 := asg_of (i := 10) (ofR_of e1) (by show (10 : Nat) < 13; decide)
  have t1 : rB (rBin g_ne (rVar 10) (rFl rNil)) (EV n A arrow (some (eSt s)) S o5 row given new o9 (some (.fl ((moreL A given s).map eP))) o11 o12) [] = some (!decide (moreL A given s = [])) := b_of (bin_of (var_of rfl) (fl_of nil_of (Nat.zero_le _)) (ne_nil _))
  by_cases hmr : moreL A given s = []
  · rw [decide_eq_true hmr] at t1
    exact ⟨_, _, (sq_nx a1).trans ((if_f (ofRT_of t1)).trans rfl), row, given, new, _, _, _, _, _, _, rfl, rfl, ri, hm, hnew⟩
  · rw [decide_eq_false hmr] at t1
    obtain ⟨ri2, hlt⟩ := ri.add hs hmr
    have ml : (moreL A given s).length ≤ 2 := Nat.le_trans (List.length_filter_le _ _) mlen
    refine ⟨_, _, (sq_nx a1).trans ((if_t (ofRT_of t1)).trans (asg3_of (ofR_of (tup_of (cons_of (bin_of (var_of rfl) (fl_of (cons_of (var_of rfl) nil_of) (by show (1 : Nat) ≤ 1000; decide)) (cat_S row [s] (by rw [List.length_singleton]; omega))) (cons_of (bin_of (var_of rfl) (var_of rfl) (cat_P given (moreL A given s) (by omega))) (cons_of c_of nil_of))) (by simp))) (by show (6 : Nat) < 13; decide) (by show (7 : Nat) < 13; decide) (by show (8 : Nat) < 13; decide))), row ++ [s], given ++ moreL A given s, true, _, _, _, _, _, _, rfl, rfl, ri2, by omega, fun _ => by omega⟩
abbrev wT : RT := (rAnd (rTru (rVar 8)) (rB (rBin g_nin (rVar 1) (rVar 7))))
abbrev wBd : SS := (sSeq (sAsg (ofR (rC (.bl false))) (setN 8))
   (sFor (iFlE (ofR (rVar 4))) (setN 3) fB))
theorem wh_go (G0 : Good n A []) {S : List Stp} (hS : ∀ s ∈ S, InR n s) {g1 : List Pq} : ∀ (m : Nat) (row : List Stp) (given : List Pq) (new : Bool) (o3 o5 o9 o10 o11 o12 : Option D), RI n A g1 row given → (new = true → mu n given < m) →
    ∃ row' given' new' o3' o5' o9' o10' o11' o12', whileS (ofRT wT) wBd (EV n A arrow o3 S o5 row given new o9 o10 o11 o12) [] = some (.nx, EV n A arrow o3' S o5' row' given' new' o9' o10' o11' o12', []) ∧ RI n A g1 row' given' := by
  intro m
  induction m with
  | zero =>
    intro row given new o3 o5 o9 o10 o11 o12 ri hnew
    have hf : new = false := by
      cases new with
      | false => rfl
      | true => exact absurd (hnew rfl) (Nat.not_lt_zero _)
    subst hf
    have t : wT (EV n A arrow o3 S o5 row given false o9 o10 o11 o12) [] = some false := and_of (b := false) (c := false) (tru_of (var_of rfl) rfl) (fun z => by cases z)
    exact ⟨row, given, false, o3, o5, o9, o10, o11, o12, (by rw [whileS_eq, ofRT_of t]; rfl), ri⟩
  | succ m ih =>
    intro row given new o3 o5 o9 o10 o11 o12 ri hnew
    have t : wT (EV n A arrow o3 S o5 row given new o9 o10 o11 o12) [] = some (new && !decide (arrow ∈ given)) := and_of (tru_of (var_of rfl) rfl) fun _ => b_of (bin_of (var_of rfl) (var_of rfl) ((in_P (p := arrow) rfl true).trans (by rw [if_pos rfl])))
    cases hc : (new && !decide (arrow ∈ given)) with
    | false =>
      rw [hc] at t
      exact ⟨row, given, new, o3, o5, o9, o10, o11, o12, (by rw [whileS_eq, ofRT_of t]; rfl), ri⟩
    | true =>
      rw [hc] at t
      have hn : new = true := (Bool.and_eq_true_iff.mp hc).1
      have hlt := hnew hn
      obtain ⟨δ2, G2, h1, row', given', new', o3', o5', o9', o10', o11', o12', rfl, rfl, ri', hle, hnew'⟩ := forL_fold (set := setN 3) (b := fB) eSt (fun (_ : Unit) _ => ()) (fun _ _ δ G => ∃ row given new o3 o5 o9 o10 o11 o12, δ = EV n A arrow o3 S o5 row given new o9 o10 o11 o12 ∧ G = [] ∧ RI n A g1 row given ∧ mu n given ≤ m ∧ (new = true → mu n given < m)) S ()
        (EV n A arrow o3 S o5 row given false o9 o10 o11 o12) [] ⟨row, given, false, o3, o5, o9, o10, o11, o12, rfl, rfl, ri, by omega, fun z => by cases z⟩ (fun s hs k u δ G h => f_step (k := 0) (u := ()) G0 (hS s hs) (fun _ _ _ => trivial) h)
      have hb : wBd (EV n A arrow o3 S o5 row given new o9 o10 o11 o12) [] = some (.nx, EV n A arrow o3' S o5' row' given' new' o9' o10' o11' o12', []) :=
        (sq_nx (asg_of (i := 8) (ofR_of c_of) (by show (8 : Nat) < 13; decide))).trans ((forf_nx (var_of rfl)).trans h1)
      obtain ⟨row2, given2, new2, p3, p5, p9, p10, p11, p12, h2, ri2⟩ := ih row' given' new' o3' o5' o9' o10' o11' o12' ri' hnew'
      exact ⟨row2, given2, new2, p3, p5, p9, p10, p11, p12, (while_nx (ofRT_of t) hb).trans h2, ri2⟩
end
end K44
namespace K44
open PySem PySem.Spec PyProof.Rows L2 FL
section
variable {n : Nat} {A : List Pq} {arrow : Pq}
theorem runL_all : ∀ (row : List Stp) (g : List Pq), (∀ s ∈ row, ∀ g, cond A g s = true) → runL A g row = some (row.foldl (fun g s => g ++ gives A g s) g)
  | [], g, _ => rfl
  | s :: row, g, h => by
    have hc := h s List.mem_cons_self
    have e : gives A g s = outs s := if_pos (hc g)
    rw [List.foldl_cons, e, ← runL_all row (g ++ outs s) fun x hx => h x (List.mem_cons_of_mem _ hx)]
    exact if_pos (hc g)
theorem fold_len : ∀ (row : List Stp) (g : List Pq), (row.foldl (fun g s => g ++ gives A g s) g).length ≤ g.length + 2 * row.length
  | [], g => Nat.le_refl _
  | s :: row, g => by
    have h1 := fold_len row (g ++ gives A g s)
    have h2 : (gives A g s).length ≤ 2 := by
      unfold gives
      split
      · exact outs_len s
      · exact Nat.zero_le _
    rw [List.foldl_cons, List.length_cons]
    rw [List.length_append] at h1
    omega
abbrev E2 (n : Nat) (A : List Pq) (arrow : Pq) (o3 o4 o5 : Option D) (row : List Stp) (given : List Pq) : Env' :=
  [some (eU n A), some (eP arrow), some WO, o3, o4, o5, some (.fl (row.map eSt)), some (.fl (given.map eP)), some (.bl true), none, none, none, none]
abbrev gB : SS := (sAsg (ofR (rBin g_addA (rVar 7) (rCallP 3 f__law_gives (rCons (rVar 0) (rCons (rVar 7) (rCons (rVar 3) rNil)))))) (setN 7))
abbrev hB : SS := (sSeq (sAsg (ofR (rBin g_addA (rSlL (rVar 6) (partD none) (partD (some (rVar 5)))) (rSlL (rVar 6) (partD (some (rBin g_addA (rVar 5) (rC (.int 1))))) (partD none)))) (setN 9))
   (sAsg (ofR (rIf (rTru (rCallP 3 f__law_are_reasons (rCons (rVar 0) (rCons (rVar 1) (rCons (rCal gTuple (rCons (rVar 9) rNil)) rNil))))) (rVar 9) (rVar 6))) (setN 6)))
theorem slL_of {δ : Env'} {G : Hs} {fa : RE} {fl fh : Env' → Hs → Option (Option Int)} {ds : List D} {lo hi : Option Int} (h : fa δ G = some (.fl ds)) (hl : fl δ G = some lo) (hh : fh δ G = some hi) : FL.rSlL fa fl fh δ G = some (.fl (FL.cutD ds lo hi)) := by
  unfold FL.rSlL
  rw [h, Option.bind_some, hl, Option.bind_some, hh, Option.bind_some]
  rfl
theorem h_step (G0 : Good n A []) {S : List Stp} {given : List Pq} {new : Bool} {o3 o5 o9 o10 o11 o12 : Option D} {r : List Stp} (hr : ∀ s ∈ r, InR n s) (hl : r.length ≤ 2000) (i : Nat) {v : Int} (hv : v = i) :
    ∃ δ1, setN 5 (.int v) (EV n A arrow o3 S o5 r given new o9 o10 o11 o12) = some δ1 ∧ ∃ o5' o9', hB δ1 [] = some (.nx, EV n A arrow o3 S o5' (if RS A arrow (del i r) = true then del i r else r) given new o9' o10 o11 o12, []) := by
  subst hv
  refine ⟨_, rfl, ?_⟩
  have dl : (del i r).length ≤ 2000 := by
    unfold del
    rw [List.length_append, List.length_take, List.length_drop]
    omega
  have e1 : rBin g_addA (rSlL (rVar 6) (partD none) (partD (some (rVar 5)))) (rSlL (rVar 6) (partD (some (rBin g_addA (rVar 5) (rC (.int 1))))) (partD none)) (EV n A arrow o3 S (some (.int (i : Int))) r given new o9 o10 o11 o12) [] = some (.fl ((del i r).map eSt)) := by
    have s1 := slL_of (δ := EV n A arrow o3 S (some (.int (i : Int))) r given new o9 o10 o11 o12) (G := []) (fa := rVar 6) (ds := r.map eSt) (var_of rfl) pN_of (pS_of (f := rVar 5) (i := (i : Int)) (var_of rfl))
    have s2 := slL_of (δ := EV n A arrow o3 S (some (.int (i : Int))) r given new o9 o10 o11 o12) (G := []) (fa := rVar 6) (ds := r.map eSt) (var_of rfl) (pS_of (f := rBin g_addA (rVar 5) (rC (.int 1))) (bin_of (var_of rfl) c_of (add_ii (i : Int) 1))) pN_of
    rw [cut_take, ← List.map_take] at s1
    rw [show ((i : Int) + 1) = ((i + 1 : Nat) : Int) by omega, cut_drop, ← List.map_drop] at s2
    refine bin_of s1 s2 (cat_S (r.take i) (r.drop (i + 1)) ?_)
    rw [List.length_take, List.length_drop]
    omega
  have a1 := asg_of (i := 9) (ofR_of e1) (by show (9 : Nat) < 13; decide)
  have t : rTru (rCallP 3 f__law_are_reasons (rCons (rVar 0) (rCons (rVar 1) (rCons (rCal gTuple (rCons (rVar 9) rNil)) rNil)))) (EV n A arrow o3 S (some (.int (i : Int))) r given new (some (.fl ((del i r).map eSt))) o10 o11 o12) [] = some (RS A arrow (del i r)) :=
    tru_of (callP_of (ds := [eU n A, eP arrow, .tup ((del i r).map eSt)]) (cons_of (var_of rfl) (cons_of (var_of rfl) (cons_of (cal1_of (var_of rfl) (gtup_fl _)) nil_of))) (by simp [ims, eU_im, eP_im, D.im, ims_map eSt_im]) rfl (law_reas_P G0 arrow (del i r) (fun s hs => hr s (del_mem hs)) (by omega))) rfl
  cases hc : RS A arrow (del i r) with
  | true =>
    rw [hc] at t
    rw [if_pos rfl]
    exact ⟨_, _, (sq_nx a1).trans (asg_of (i := 6) (ofR_of ((rif_t t).trans (var_of rfl))) (by show (6 : Nat) < 13; decide))⟩
  | false =>
    rw [hc] at t
    rw [if_neg (by simp)]
    exact ⟨_, _, (sq_nx a1).trans (asg_of (i := 6) (ofR_of ((rif_f t).trans (var_of rfl))) (by show (6 : Nat) < 13; decide))⟩
theorem h_go (G0 : Good n A []) {S : List Stp} {given : List Pq} {new : Bool} {o3 o10 o11 o12 : Option D} (m : Nat) : ∀ (ks : List Nat) (r : List Stp) (o5 o9 : Option D), (∀ k ∈ ks, k < m) → (∀ s ∈ r, InR n s) → r.length ≤ 2000 →
    ∃ o5' o9', forL (setN 5) hB (ks.map fun k : Nat => .int ((m : Int) - 1 + (k : Int) * (-1))) (EV n A arrow o3 S o5 r given new o9 o10 o11 o12) [] = some (.nx, EV n A arrow o3 S o5' ((ks.map fun i => m - 1 - i).foldl (fun r i => if RS A arrow (del i r) = true then del i r else r) r) given new o9' o10 o11 o12, [])
  | [], r, o5, o9, _, _, _ => ⟨o5, o9, rfl⟩
  | k :: ks, r, o5, o9, hk, hr, hl => by
    have h0 := hk k List.mem_cons_self
    obtain ⟨δ1, e1, o5', o9', e2⟩ := h_step (arrow := arrow) (S := S) (given := given) (new := new) (o3 := o3) (o5 := o5) (o9 := o9) (o10 := o10) (o11 := o11) (o12 := o12) G0 hr hl (m - 1 - k) (v := (m : Int) - 1 + (k : Int) * (-1)) (by omega)
    have hr' : ∀ s ∈ (if RS A arrow (del (m - 1 - k) r) = true then del (m - 1 - k) r else r), InR n s := fun s hs => by
      split at hs
      · exact hr s (del_mem hs)
      · exact hr s hs
    have hl' : (if RS A arrow (del (m - 1 - k) r) = true then del (m - 1 - k) r else r).length ≤ 2000 := by
      split
      · unfold del
        rw [List.length_append, List.length_take, List.length_drop]
        omega
      · exact hl
    obtain ⟨p5, p9, e3⟩ := h_go G0 m ks _ o5' o9' (fun x hx => hk x (List.mem_cons_of_mem _ hx)) hr' hl'
    exact ⟨p5, p9, by rw [List.map_cons]; exact (forL_nx e1 e2).trans e3⟩
theorem reasons_P (G0 : Good n A []) (arrow : Pq) {L : List Tr} (hv : f__law_vees [eU n A] = some (.tup (L.map eV))) (hp : L.Perm (vL A)) (hL : L.length ≤ 1000) :
    (f__law_reasons [eU n A, eP arrow, WO] = some .non ∧ RS A arrow (vrow L) = false) ∨
    ∃ row : List Stp, f__law_reasons [eU n A, eP arrow, WO] = some (.tup (row.map eSt)) ∧ (∀ s ∈ row, InR n s) ∧ row.length ≤ 2000 ∧ RS A arrow row = true ∧ ∀ i, i < row.length → RS A arrow (del i row) = false := by
  have hV : ∀ t ∈ L, V A t.1 t.2.1 t.2.2 = true := fun t ht => (mem_vL (aR' G0) t.1 t.2.1 t.2.2).mp (hp.mem_iff.mp ht)
  have vR : ∀ s ∈ vrow L, InR n s := fun s hs => by
    obtain ⟨t, ht, rfl⟩ := List.mem_map.mp hs
    have h := hV t ht
    unfold V at h
    simp only [Bool.and_eq_true, decide_eq_true_eq] at h
    have r1 := G0.aR _ h.1.1.1
    have r2 := G0.aR _ h.1.1.2
    intro x hx
    simp only [vst, Stp.sp, List.mem_cons, List.mem_nil_iff, or_false] at hx
    rcases hx with rfl | rfl | rfl
    · exact ⟨r1.1, r1.2.1⟩
    · exact ⟨r1.2.2.1, r1.2.2.2.1⟩
    · exact ⟨r2.1, r2.2.1⟩
  have vC : ∀ s ∈ vrow L, ∀ g, cond A g s = true := fun s hs g => by
    obtain ⟨t, ht, rfl⟩ := List.mem_map.mp hs
    exact hV t ht
  have vl : (vrow L).length ≤ 1000 := by unfold vrow; rw [List.length_map]; exact hL
  have r0 := runL_all (vrow L) [] vC
  have gl0 := fold_len (A := A) (vrow L) []
  generalize hg1 : (vrow L).foldl (fun g s => g ++ gives A g s) [] = g1 at r0 gl0
  obtain ⟨AS, hAS, hASr, hASl⟩ := all_steps_P (n := n) G0.n2
  have eu : (eU n A).im = true := eU_im n A
  -- the row of meetings
  have c1 : rLc (iTupR (rCallP 1 f__law_vees (rCons (rVar 0) rNil))) (setN 11) cYes (rBin g_addA (rTup (rCons (rC (.str "v")) rNil)) (rVar 11)) [11] (slots 13 [eU n A, eP arrow, WO]) [] = some (.fl ((vrow L).map eSt)) := by
    refine (rlc_of eV (fun t => [some (eU n A), some (eP arrow), some WO, none, none, none, none, none, none, none, none, some (eV t), none]) (fun _ => true) (fun t => eSt (vst t)) L (itup_of (callP_of (ds := [eU n A]) (cons_of (var_of rfl) nil_of) (by simp [ims, eu]) rfl hv)) (by omega) fun t ht => ⟨rfl, rfl, fun _ => bin_of (tup_of (cons_of c_of nil_of) (by simp)) (var_of rfl) (v_add t)⟩).trans ?_
    rw [List.filter_eq_self.mpr (fun _ _ => rfl)]
    unfold vrow
    rw [List.map_map]
    rfl
  have a1 : sAsg (ofR (rTup (rCons (rLc (iTupR (rCallP 1 f__law_vees (rCons (rVar 0) rNil))) (setN 11) cYes (rBin g_addA (rTup (rCons (rC (.str "v")) rNil)) (rVar 11)) [11]) (rCons (rFl rNil) (rCons (rC (.bl true)) rNil))))) (setTup [(setN 6), (setN 7), (setN 8)]) (slots 13 [eU n A, eP arrow, WO]) [] = some (.nx, E2 n A arrow none none none (vrow L) [], []) :=
    asg3_of (ofR_of (tup_of (cons_of c1 (cons_of (fl_of nil_of (Nat.zero_le _)) (cons_of c_of nil_of))) (by simp))) (by show (6 : Nat) < 13; decide) (by show (7 : Nat) < 13; decide) (by show (8 : Nat) < 13; decide)
  obtain ⟨δ2, G2, f1, ⟨o3', rfl, rfl, _⟩⟩ := forL_fold (set := setN 3) (b := gB) eSt (fun g s => g ++ gives A g s) (fun k g δ G => ∃ o3, δ = E2 n A arrow o3 none none (vrow L) g ∧ G = [] ∧ g.length + 2 * k ≤ 5000) (vrow L) [] (E2 n A arrow none none none (vrow L) []) []
    ⟨_, rfl, rfl, by simp; omega⟩ (fun s hs k g δ G ⟨o3, hδ, hG, hgl⟩ => by
      subst hδ hG
      have ml : (gives A g s).length ≤ 2 := by
        unfold gives
        split
        · exact outs_len s
        · exact Nat.zero_le _
      exact ⟨_, rfl, _, _, asg_of (i := 7) (ofR_of (bin_of (var_of rfl) (gq G0 (vR s hs) (var_of rfl) (var_of rfl) (var_of rfl)) (cat_P g (gives A g s) (by omega)))) (by show (7 : Nat) < 13; decide), _, rfl, rfl, by rw [List.length_append]; omega⟩)
  rw [hg1] at f1
  have a2 : sFor (iFlE (ofR (rVar 6))) (setN 3) gB (E2 n A arrow none none none (vrow L) []) [] = some (.nx, E2 n A arrow o3' none none (vrow L) g1, []) := (forf_nx (var_of rfl)).trans f1
  have c3 : rLc (iLstR (rCallP 1 f__law_all_steps (rCons (rBin ixA (rVar 0) (rC (.int 0))) rNil))) (setN 3) (rB (rBin g_in_ (rBin ixA (rVar 3) (rC (.int 0))) (rVar 2))) (rVar 3) [3] (E2 n A arrow o3' none none (vrow L) g1) [] = some (.fl ((AS.filter wIn).map eSt)) :=
    rlc_of eSt (fun s => E2 n A arrow (some (eSt s)) none none (vrow L) g1) wIn eSt AS (ilst_of (callP_of (ds := [.int n]) (cons_of (bin_of (var_of rfl) c_of ((ixA_tup _ _).trans (at_0 _ _))) nil_of) rfl rfl hAS) rfl) (by omega) fun s hs => ⟨rfl, b_of (bin_of (bin_of (var_of rfl) c_of ((ixA_tup _ _).trans (at_0 _ _))) (var_of rfl) (wIn_P s)), fun _ => var_of rfl⟩
  have a3 := asg_of (i := 4) (ofR_of c3) (by show (4 : Nat) < 13; decide)
  have hS : ∀ s ∈ AS.filter wIn, InR n s := fun s hs => hASr s (List.mem_filter.mp hs).1
  have ri0 : RI n A g1 (vrow L) g1 := ⟨⟨g1, r0, fun p => Iff.rfl⟩, vR, by have := mu_le (n := n) G0.n2 g1; omega, by simpa using gl0, fun p hp => hp⟩
  obtain ⟨row, given, new, p3, p5, p9, p10, p11, p12, a4, ri⟩ := wh_go (arrow := arrow) G0 hS (g1 := g1) (mu n g1 + 1) (vrow L) g1 true o3' none none none none none ri0 (fun _ => Nat.lt_succ_self _)
  have t5 : rB (rBin g_nin (rVar 1) (rVar 7)) (EV n A arrow p3 (AS.filter wIn) p5 row given new p9 p10 p11 p12) [] = some (!decide (arrow ∈ given)) := b_of (bin_of (var_of rfl) (var_of rfl) ((in_P (p := arrow) rfl true).trans (by rw [if_pos rfl])))
  by_cases hin : arrow ∈ given
  · right
    rw [decide_eq_true hin] at t5
    have hRS : RS A arrow row = true := by
      obtain ⟨g, e1, e2⟩ := ri.run
      exact RS_iff.mpr ⟨g, e1, (e2 arrow).mpr hin⟩
    have rl := ri.len
    obtain ⟨q5, q9, a6⟩ := h_go (arrow := arrow) (S := AS.filter wIn) (given := given) (new := new) (o3 := p3) (o10 := p10) (o11 := p11) (o12 := p12) G0 row.length (List.range row.length) row p5 p9 (fun k hk => List.mem_range.mp hk) ri.inr (by omega)
    rw [← gr_snoc [] row.length row] at a6
    obtain ⟨k1, k2, k3, k4⟩ := gr_ok (A := A) (arrow := arrow) row.length row hRS (Nat.le_refl _) (fun i h1 h2 => absurd h2 (by omega))
    refine ⟨gr A arrow row.length row, ?_, fun s hs => ri.inr s (k3 s hs), by omega, k1, k2⟩
    have a7 : sFor (ofRA (iRgR rng3 (rCons (rBin g_sub (rCal gLen (rCons (rVar 6) rNil)) (rC (.int 1))) (rCons (rNeg (rC (.int 1))) (rCons (rNeg (rC (.int 1))) rNil))))) (setN 5) hB (EV n A arrow p3 (AS.filter wIn) p5 row given new p9 p10 p11 p12) [] = some (.nx, EV n A arrow p3 (AS.filter wIn) q5 (gr A arrow row.length row) given new q9 p10 p11 p12, []) :=
      (for_nx (ofRA_of (rgd_of (m := row.length) (bin_of (cal1_of (var_of rfl) ((len_fl _).trans (by rw [List.length_map]))) c_of (sub_ii _ _)) rfl rfl (by omega)))).trans a6
    exact fnP_of ((sq_nx a1).trans ((sq_nx a2).trans ((sq_nx a3).trans ((sq_nx a4).trans ((sq_nx ((if_f (ofRT_of t5)).trans rfl)).trans ((sq_nx a7).trans (ret_of (ofR_of (cal1_of (var_of rfl) (gtup_fl _)))))))))) (by simp [D.im, ims_map eSt_im])
  · left
    rw [decide_eq_false hin] at t5
    refine ⟨fnP_of ((sq_nx a1).trans ((sq_nx a2).trans ((sq_nx a3).trans ((sq_nx a4).trans (sq_rt ((if_t (ofRT_of t5)).trans (ret_of (ofR_of c_of)))))))) rfl, ?_⟩
    unfold RS
    rw [r0]
    exact decide_eq_false fun z => hin (ri.base _ z)
end
end K44
namespace FL
open PySem PySem.Spec PyProof.Rows L2
theorem lcE_grow {α β : Type} {set : Sets} {elt : EE} {δ : Env'} (e : α → D) (eo : β → D) (P : β → Prop) : ∀ (xs : List α) (dr : List Int) (tl : Hs),
    (∀ x ∈ xs, ∃ δ1, set (e x) δ = some δ1 ∧ ∀ (dr : List Int) (tl : Hs), ∃ (y : β) (dr' : List Int) (tl' : Hs), P y ∧ elt δ1 (.lst (dr.map .int) :: tl) = some (eo y, .lst (dr'.map .int) :: tl')) →
    ∃ (ys : List β) (dr' : List Int) (tl' : Hs), lcE set cYesE elt (xs.map e) δ (.lst (dr.map .int) :: tl) = some (ys.map eo, .lst (dr'.map .int) :: tl') ∧ (∀ y ∈ ys, P y) ∧ ys.length = xs.length
  | [], dr, tl, _ => ⟨[], dr, tl, rfl, (fun _ h => by cases h), rfl⟩
  | x :: xs, dr, tl, h => by
    obtain ⟨δ1, h1, h2⟩ := h x List.mem_cons_self
    obtain ⟨y, dr1, tl1, hy, h3⟩ := h2 dr tl
    obtain ⟨ys, dr', tl', h4, h5, h6⟩ := lcE_grow e eo P xs dr1 tl1 fun z hz => h z (List.mem_cons_of_mem _ hz)
    refine ⟨y :: ys, dr', tl', ?_, fun z hz => ?_, by rw [List.length_cons, h6, List.length_cons]⟩
    · have hc : cYesE δ1 (.lst (dr.map .int) :: tl) = some (true, .lst (dr.map .int) :: tl) := rfl
      rw [List.map_cons, lcE, h1, Option.bind_some, hc, Option.bind_some, if_pos rfl, h3, Option.bind_some, h4]
      rfl
    · rcases List.mem_cons.mp hz with rfl | hz
      · exact hy
      · exact h5 z hz
theorem lcE_pure {α β : Type} {set : Sets} {elt : EE} {δ : Env'} {G : Hs} (e : α → D) (eo : β → D) (P : β → Prop) : ∀ (xs : List α),
    (∀ x ∈ xs, ∃ δ1, set (e x) δ = some δ1 ∧ ∃ y : β, P y ∧ elt δ1 G = some (eo y, G)) → ∃ ys : List β, lcE set cYesE elt (xs.map e) δ G = some (ys.map eo, G) ∧ (∀ y ∈ ys, P y) ∧ ys.length = xs.length
  | [], _ => ⟨[], rfl, (fun _ h => by cases h), rfl⟩
  | x :: xs, h => by
    obtain ⟨δ1, h1, y, hy, h3⟩ := h x List.mem_cons_self
    obtain ⟨ys, h4, h5, h6⟩ := lcE_pure e eo P xs fun z hz => h z (List.mem_cons_of_mem _ hz)
    refine ⟨y :: ys, ?_, fun z hz => ?_, by rw [List.length_cons, h6, List.length_cons]⟩
    · have hc : cYesE δ1 G = some (true, G) := rfl
      rw [List.map_cons, lcE, h1, Option.bind_some, hc, Option.bind_some, if_pos rfl, h3, Option.bind_some, h4]
      rfl
    · rcases List.mem_cons.mp hz with rfl | hz
      · exact hy
      · exact h5 z hz
theorem frzE_end {f : EE} {δ : Env'} {G P0 : Hs} {ds : List D} (h : f δ G = some (.rf P0.length, P0 ++ [.lst ds])) : eFrzE f δ G = some (.fl ds, P0 ++ [.dead]) := by
  unfold eFrzE
  rw [h, Option.bind_some]
  simp only [get_end, set_end]
end FL
namespace K44
open PySem PySem.Spec PyProof.Rows L2 FL
section
variable {n : Nat}
def eR (r : List Stp) : D := .tup (r.map eSt)
theorem eR_im (r : List Stp) : (eR r).im = true := by simp [eR, D.im, ims_map eSt_im]
def GR (n : Nat) (r : List Stp) : Prop := (∀ s ∈ r, InR n s) ∧ r.length ≤ 2000
abbrev ordE : EE := (eLc (ofRA (iRgR rng1 (rCons (rC (.int 12)) rNil))) (setN 3) cYesE (eCal gTuple (eCons (eLc (iFlE (eFrzE (eCallB 2 f__law_order (eCons (ofR (rVar 0)) (eCons (ofR (rCal gLen (rCons (rVar 1) rNil))) (ofRA rNil)))))) (setN 6) cYesE (ofR (rBin ixA (rVar 1) (rVar 6))) [6]) (ofRA rNil))) [3])
theorem fin_B {body : SS} {N : Nat} {ds : List D} {d : D} {xs xs' : List Int} {δ : Env'} {tl : Hs} (hd : d.im = true) (h : body (slots N ds) [.lst (xs.map .int)] = some (.rt d, δ, .lst (xs'.map .int) :: tl)) : fnB N body ds [.lst (xs.map .int)] = some (d, [.lst (xs'.map .int)]) := by
  unfold fnB
  rw [h]
  show gcD 1 d _ = _
  unfold gcD
  simp [hd, GO.flat, ims_int]
theorem ord1_P {row : List Stp} (hr : GR n row) (xs : List Int) : ∃ (rows : List (List Stp)) (xs' : List Int) (tl : Hs), ordE (slots 8 [.rf 0, eR row]) [.lst (xs.map .int)] = some (.fl (rows.map eR), .lst (xs'.map .int) :: tl) ∧ ∀ r ∈ rows, GR n r := by
  have hl := hr.2
  obtain ⟨rows, xs', tl', h1, h2, h3⟩ := lcE_grow (set := setN 3) (elt := (eCal gTuple (eCons (eLc (iFlE (eFrzE (eCallB 2 f__law_order (eCons (ofR (rVar 0)) (eCons (ofR (rCal gLen (rCons (rVar 1) rNil))) (ofRA rNil)))))) (setN 6) cYesE (ofR (rBin ixA (rVar 1) (rVar 6))) [6]) (ofRA rNil)))) (δ := wipeD (slots 8 [.rf 0, eR row]) [3]) (fun i : Nat => D.int (0 + (i : Int))) eR (GR n) (List.range (12 : Int).toNat) xs [] (fun i hi => by
      refine ⟨[some (.rf 0), some (eR row), none, some (.int (0 + (i : Int))), none, none, none, none], rfl, fun dr tl => ?_⟩
      obtain ⟨ord, dr', ho, hp⟩ := order_P row.length (by omega) dr
      have e1 : eCallB 2 f__law_order (eCons (ofR (rVar 0)) (eCons (ofR (rCal gLen (rCons (rVar 1) rNil))) (ofRA rNil))) [some (.rf 0), some (eR row), none, some (.int (0 + (i : Int))), none, none, none, none] (.lst (dr.map .int) :: tl) = some (.rf (GO.lst (dr.map .int) :: tl).length, (GO.lst (dr.map .int) :: tl).set 0 (.lst (dr'.map .int)) ++ [.lst (ord.map .int)]) :=
        callB_new (k := 0) (o := .lst (dr.map .int)) (o' := .lst (dr'.map .int)) (G1 := .lst (dr.map .int) :: tl) (econs_of (ofR_of (var_of rfl)) (econs_of (ofR_of (cal1_of (var_of rfl) ((len_tup _).trans (by rw [List.length_map])))) enil_of)) rfl rfl rfl (flat_int _) ho (flat_int _) (flat_int _)
      have e2 := frzE_end (P0 := GO.lst (dr'.map .int) :: tl) e1
      have e3 : iFlE (eFrzE (eCallB 2 f__law_order (eCons (ofR (rVar 0)) (eCons (ofR (rCal gLen (rCons (rVar 1) rNil))) (ofRA rNil))))) [some (.rf 0), some (eR row), none, some (.int (0 + (i : Int))), none, none, none, none] (.lst (dr.map .int) :: tl) = some (ord.map .int, (GO.lst (dr'.map .int) :: tl) ++ [.dead]) := by
        unfold iFlE
        rw [e2]
        rfl
      obtain ⟨ys, h4, h5, h6⟩ := lcE_pure (set := setN 6) (elt := ofR (rBin ixA (rVar 1) (rVar 6))) (δ := wipeD [some (.rf 0), some (eR row), none, some (.int (0 + (i : Int))), none, none, none, none] [6]) (G := (GO.lst (dr'.map .int) :: tl) ++ [.dead]) D.int eSt (InR n) ord (fun x hx => by
        have hx' := mem_upto.mp (hp.mem_iff.mp hx)
        have hlt : x.toNat < row.length := by omega
        refine ⟨_, rfl, row[x.toNat], hr.1 _ (List.getElem_mem _), ofR_of (bin_of (var_of rfl) (var_of rfl) ((ixA_tup _ _).trans ?_))⟩
        rw [at_int _ hx'.1, List.getElem?_map, List.getElem?_eq_getElem hlt]
        rfl)
      have ol : ord.length = row.length := by rw [hp.length_eq, upto_len]
      exact ⟨ys, dr', tl ++ [.dead], ⟨h5, by omega⟩, ecal_of (econs_of (elc_of e3 (by rw [List.length_map]; omega) h4) enil_of) (gtup_fl _)⟩)
  exact ⟨rows, xs', tl', elc_of (ofRA_of (rg1_of (j := 12) c_of (by decide) (by decide))) (by rw [List.length_map, List.length_range]; decide) h1, h2⟩
abbrev oB : SS := (sExp (eMet gExtend (rVar 4) (eCons (ofR (rLc (iTupR (rVar 1)) (setN 7) (rB (rBin g_nin (rVar 7) (rVar 5))) (rBin g_addA (rVar 5) (rTup (rCons (rVar 7) rNil))) [7])) (ofRA rNil))))
abbrev oT : SS := (sSeq (sAsg (eLst (ofRA rNil)) (setN 4))
   (sSeq (sFor (iFlE (ofR (rVar 2))) (setN 5) oB)
   (sFrz 2 (sAsg (ofR (rVar 4)) (setN 2)))))
def GR2 (n m : Nat) (r : List Stp) : Prop := (∀ s ∈ r, InR n s) ∧ r.length + m ≤ 4
theorem st_ok (s : Stp) : (eSt s).ok = true := by
  show oks (.str s.w.s :: s.sp.map .int) = true
  simp only [oks, oks_int, Bool.and_true]
  exact W4.ok _
theorem st_dep (s : Stp) : (eSt s).dep ≤ 1 := by
  show deps (.str s.w.s :: s.sp.map .int) + 1 ≤ 1
  have := deps_int s.sp
  simp only [deps]
  have e : (D.str s.w.s).dep = 0 := rfl
  omega
theorem nin_S {G : Hs} (s : Stp) (r : List Stp) : g_nin G (eSt s) (eR r) = some (.bl (!inB (eSt s) (r.map eSt))) := by
  have d1 := st_dep s
  have d2 := deps_map (e := eSt) (n := 1) st_dep r
  show fIn true G (eSt s) (eR r) = _
  rw [in_of (ds := r.map eSt) rfl (st_ok s) (oks_map st_ok r) (by omega) (by omega), if_pos rfl]
theorem o_in {Bd : Nat} (hBd : Bd ≤ 5000) {row : List Stp} (hr : ∀ s ∈ row, InR n s) (hl : row.length ≤ 4) {m : Nat} {r : List Stp} (hg : GR2 n (m + 1) r) {rowsD : D} {o3 o6 : Option D} {P0 : Hs} {k : Nat} {u : Unit} {δ : Env'} {G : Hs}
    (h : ∃ (L : List (List Stp)) (o5 o7 : Option D), δ = [some (.rf 0), some (eR row), some rowsD, o3, some (.rf P0.length), o5, o6, o7] ∧ G = P0 ++ [.lst (L.map eR)] ∧ (∀ r ∈ L, GR2 n m r) ∧ L.length + 4 * (k + 1) ≤ Bd) :
    ∃ δ1, setN 5 (eR r) δ = some δ1 ∧ ∃ δ2 G2, oB δ1 G = some (.nx, δ2, G2) ∧ (∃ (L : List (List Stp)) (o5 o7 : Option D), δ2 = [some (.rf 0), some (eR row), some rowsD, o3, some (.rf P0.length), o5, o6, o7] ∧ G2 = P0 ++ [.lst (L.map eR)] ∧ (∀ r ∈ L, GR2 n m r) ∧ L.length + 4 * k ≤ Bd) := by
  obtain ⟨L, o5, o7, rfl, rfl, hL, hlen⟩ := h
  refine ⟨_, rfl, ?_⟩
  have e : rLc (iTupR (rVar 1)) (setN 7) (rB (rBin g_nin (rVar 7) (rVar 5))) (rBin g_addA (rVar 5) (rTup (rCons (rVar 7) rNil))) [7] [some (.rf 0), some (eR row), some rowsD, o3, some (.rf P0.length), some (eR r), o6, o7] (P0 ++ [.lst (L.map eR)]) = some (.fl (((row.filter fun s => !inB (eSt s) (r.map eSt)).map fun s => r ++ [s]).map eR)) := by
    refine (rlc_of eSt (fun s => [some (.rf 0), some (eR row), some rowsD, o3, some (.rf P0.length), some (eR r), o6, some (eSt s)]) (fun s => !inB (eSt s) (r.map eSt)) (fun s => eR (r ++ [s])) row (itup_of (var_of rfl)) (by omega) fun s hs => ⟨rfl, b_of (bin_of (var_of rfl) (var_of rfl) (nin_S s r)), fun _ => bin_of (var_of rfl) (tup_of (cons_of (var_of rfl) nil_of) (by simp)) ?_⟩).trans ?_
    · refine (cat_tup (a := r.map eSt) (b := [eSt s]) ?_).trans ?_
      · rw [List.length_map]
        have := hg.2
        simp only [List.length_cons, List.length_nil]
        omega
      · unfold eR
        rw [List.map_append]
        rfl
    · rw [List.map_map]
      rfl
  have fl : (row.filter fun s => !inB (eSt s) (r.map eSt)).length ≤ 4 := Nat.le_trans (List.length_filter_le _ _) hl
  refine ⟨_, _, exp_of (ext_of (k := P0.length) (var_of rfl) (get_end _ _) (econs1_of (ofR_of e)) (get_end _ _) (by simp only [List.length_map]; omega)), L ++ (row.filter fun s => !inB (eSt s) (r.map eSt)).map fun s => r ++ [s], _, _, rfl, ?_, fun q hq => ?_, ?_⟩
  · rw [set_end, List.map_append]
  · rcases List.mem_append.mp hq with hq | hq
    · exact hL q hq
    · obtain ⟨s, hs, rfl⟩ := List.mem_map.mp hq
      have hs' := (List.mem_filter.mp hs).1
      refine ⟨fun x hx => ?_, ?_⟩
      · rcases List.mem_append.mp hx with hx | hx
        · exact hg.1 x hx
        · rw [List.mem_singleton] at hx
          exact hx ▸ hr s hs'
      · have := hg.2
        rw [List.length_append, List.length_singleton]
        omega
  · rw [List.length_append, List.length_map]
    omega
theorem o_turn {row : List Stp} (hr : ∀ s ∈ row, InR n s) (hl : row.length ≤ 4) {v : D} {m : Nat} {δ : Env'} {G : Hs}
    (h : ∃ (rows : List (List Stp)) (dr : List Int) (tl : Hs) (o3 o4 o5 o6 o7 : Option D), δ = [some (.rf 0), some (eR row), some (.fl (rows.map eR)), o3, o4, o5, o6, o7] ∧ G = .lst (dr.map .int) :: tl ∧ (∀ r ∈ rows, GR2 n (m + 1) r) ∧ rows.length * 4 ^ (m + 1) ≤ 256) :
    ∃ δ1, setN 3 v δ = some δ1 ∧ ∃ δ2 G2, oT δ1 G = some (.nx, δ2, G2) ∧ (∃ (rows : List (List Stp)) (dr : List Int) (tl : Hs) (o3 o4 o5 o6 o7 : Option D), δ2 = [some (.rf 0), some (eR row), some (.fl (rows.map eR)), o3, o4, o5, o6, o7] ∧ G2 = .lst (dr.map .int) :: tl ∧ (∀ r ∈ rows, GR2 n m r) ∧ rows.length * 4 ^ m ≤ 256) := by
  obtain ⟨rows, dr, tl, o3, o4, o5, o6, o7, rfl, rfl, hrows, hlen⟩ := h
  refine ⟨_, rfl, ?_⟩
  have hp : 1 ≤ 4 ^ m := Nat.one_le_pow _ _ (by decide)
  have hl4 : rows.length * 4 * 4 ^ m ≤ 256 := by
    rw [Nat.mul_assoc, Nat.mul_comm 4, ← Nat.pow_succ]
    exact hlen
  have hsm : rows.length * 4 ≤ 256 := Nat.le_trans (Nat.le_mul_of_pos_right _ hp) hl4
  have a1 : sAsg (eLst (ofRA rNil)) (setN 4) [some (.rf 0), some (eR row), some (.fl (rows.map eR)), some v, o4, o5, o6, o7] (.lst (dr.map .int) :: tl) = some (.nx, [some (.rf 0), some (eR row), some (.fl (rows.map eR)), some v, some (.rf (GO.lst (dr.map .int) :: tl).length), o5, o6, o7], (GO.lst (dr.map .int) :: tl) ++ [.lst []]) :=
    asg_of (d := .rf (GO.lst (dr.map .int) :: tl).length) (G1 := (GO.lst (dr.map .int) :: tl) ++ [.lst []]) rfl (by show (4 : Nat) < 8; decide)
  generalize hP : (GO.lst (dr.map .int) :: tl) = P0 at a1
  obtain ⟨δ2, G2, f1, L, o5', o7', rfl, rfl, hL, hLl⟩ := forL_fold (set := setN 5) (b := oB) eR (fun (_ : Unit) _ => ()) (fun k _ δ G => ∃ (L : List (List Stp)) (o5 o7 : Option D), δ = [some (.rf 0), some (eR row), some (.fl (rows.map eR)), some v, some (.rf P0.length), o5, o6, o7] ∧ G = P0 ++ [.lst (L.map eR)] ∧ (∀ r ∈ L, GR2 n m r) ∧ L.length + 4 * k ≤ rows.length * 4) rows ()
    [some (.rf 0), some (eR row), some (.fl (rows.map eR)), some v, some (.rf P0.length), o5, o6, o7] (P0 ++ [.lst []]) ⟨[], _, _, rfl, rfl, (fun _ h => by cases h), by rw [List.length_nil]; omega⟩ (fun r hrm k u δ G h => o_in (Bd := rows.length * 4) (by omega) hr hl (hrows r hrm) (k := k) (u := ()) h)
  have a2 : sFor (iFlE (ofR (rVar 2))) (setN 5) oB [some (.rf 0), some (eR row), some (.fl (rows.map eR)), some v, some (.rf P0.length), o5, o6, o7] (P0 ++ [.lst []]) = _ := (forf_nx (var_of rfl)).trans f1
  have a3 : sAsg (ofR (rVar 4)) (setN 2) [some (.rf 0), some (eR row), some (.fl (rows.map eR)), some v, some (.rf P0.length), o5', o6, o7'] (P0 ++ [.lst (L.map eR)]) = some (.nx, [some (.rf 0), some (eR row), some (.rf P0.length), some v, some (.rf P0.length), o5', o6, o7'], P0 ++ [.lst (L.map eR)]) := asg_of (ofR_of (var_of rfl)) (by show (2 : Nat) < 8; decide)
  have a4 := frz_of (i := 2) (k := P0.length) (ds := L.map eR) a3 rfl (get_end _ _)
  rw [set_end] at a4
  subst hP
  refine ⟨_, _, (sq_nx a1).trans ((sq_nx a2).trans a4), L, dr, tl ++ [.dead], _, _, _, _, _, rfl, rfl, hL, ?_⟩
  have : L.length ≤ rows.length * 4 := by omega
  exact Nat.le_trans (Nat.mul_le_mul_right _ this) hl4
theorem orders_P {row : List Stp} (hr : GR n row) (xs : List Int) : ∃ (rows : List (List Stp)) (xs' : List Int), f__law_orders [.rf 0, eR row] [.lst (xs.map .int)] = some (.fl (rows.map eR), [.lst (xs'.map .int)]) ∧ ∀ r ∈ rows, GR n r := by
  have t : rB (rBin g_gtA (rCal gLen (rCons (rVar 1) rNil)) (rC (.int 4))) (slots 8 [.rf 0, eR row]) [.lst (xs.map .int)] = some (decide ((4 : Int) < row.length)) := b_of (bin_of (cal1_of (var_of rfl) ((len_tup _).trans (by rw [List.length_map]))) c_of (gt_ii _ _))
  have im : ∀ rows : List (List Stp), (D.fl (rows.map eR)).im = true := fun rows => by simp [D.im, ims_map eR_im]
  by_cases hc : (4 : Int) < row.length
  · rw [decide_eq_true hc] at t
    obtain ⟨rows, xs', tl, h1, h2⟩ := ord1_P hr xs
    exact ⟨rows, xs', fin_B (im rows) (sq_rt ((if_t (ofRT_of t)).trans (ret_of h1))), h2⟩
  · rw [decide_eq_false hc] at t
    have hl : row.length ≤ 4 := by omega
    have a1 : sAsg (ofR (rFl (rCons (rTup rNil) rNil))) (setN 2) (slots 8 [.rf 0, eR row]) [.lst (xs.map .int)] = some (.nx, [some (.rf 0), some (eR row), some (.fl (([[]] : List (List Stp)).map eR)), none, none, none, none, none], [.lst (xs.map .int)]) := asg_of (ofR_of (fl_of (cons_of (tup_of nil_of (Nat.zero_le _)) nil_of) (by show (1 : Nat) ≤ 1000; decide))) (by show (2 : Nat) < 8; decide)
    obtain ⟨δ2, G2, f1, rows, dr, tl, o3, o4, o5, o6, o7, rfl, rfl, hrows, _⟩ := forL_fold (set := setN 3) (b := oT) (fun i : Nat => D.int (0 + (i : Int))) (fun (_ : Unit) _ => ()) (fun m _ δ G => ∃ (rows : List (List Stp)) (dr : List Int) (tl : Hs) (o3 o4 o5 o6 o7 : Option D), δ = [some (.rf 0), some (eR row), some (.fl (rows.map eR)), o3, o4, o5, o6, o7] ∧ G = .lst (dr.map .int) :: tl ∧ (∀ r ∈ rows, GR2 n m r) ∧ rows.length * 4 ^ m ≤ 256) (List.range ((row.length : Int)).toNat) ()
      [some (.rf 0), some (eR row), some (.fl (([[]] : List (List Stp)).map eR)), none, none, none, none, none] [.lst (xs.map .int)] ⟨[[]], xs, [], _, _, _, _, _, rfl, rfl, (fun r hrm => by
        rw [List.mem_singleton] at hrm
        subst hrm
        exact ⟨(fun s h => by cases h), by rw [List.length_range, List.length_nil]; omega⟩), by
        rw [List.length_range, List.length_singleton, Nat.one_mul]
        exact Nat.pow_le_pow_right (by decide) (by omega : (row.length : Int).toNat ≤ 4)⟩ (fun i hi m u δ G h => o_turn hr.1 hl h)
    refine ⟨rows, dr, fin_B (im rows) ((sq_nx ((if_f (ofRT_of t)).trans rfl)).trans ((sq_nx a1).trans ((sq_nx ((for_nx (ofRA_of (rg1_of (j := row.length) (cal1_of (var_of rfl) ((len_tup _).trans (by rw [List.length_map]))) (by omega) (by omega)))).trans f1)).trans (ret_of (ofR_of (var_of rfl)))))), fun r hrm => ⟨(hrows r hrm).1, by have := (hrows r hrm).2; omega⟩⟩
end
end K44
namespace K44
open PySem PySem.Spec PyProof.Rows L2 FL
section
variable {n : Nat} {A : List Pq}
theorem slT_gen {δ : Env'} {G : Hs} {fa : RE} {fl fh : Env' → Hs → Option (Option Int)} {ds : List D} {lo hi : Option Int} (h : fa δ G = some (.tup ds)) (hl : fl δ G = some lo) (hh : fh δ G = some hi) : FL.rSlT fa fl fh δ G = some (.tup (FL.cutD ds lo hi)) := by
  unfold FL.rSlT
  rw [h, Option.bind_some, hl, Option.bind_some, hh, Option.bind_some]
def five (t : Tr) : List Stp := [.t .aw t.1 t.2.1 t.2.2, .t .aw t.2.2 t.2.1 t.1, .t .v t.2.2 t.2.1 t.1, .t .v t.1 t.2.2 t.2.1, .t .v t.1 t.2.1 t.2.2]
abbrev xB : SS := (sExp (eMet gExtend (rVar 3) (eCons (ofR (rFl (rCons (rTup (rCons (rC (.str "away")) (rCons (rVar 4) (rCons (rVar 5) (rCons (rVar 6) rNil))))) (rCons (rTup (rCons (rC (.str "away")) (rCons (rVar 6) (rCons (rVar 5) (rCons (rVar 4) rNil))))) (rCons (rTup (rCons (rC (.str "v")) (rCons (rVar 6) (rCons (rVar 5) (rCons (rVar 4) rNil))))) (rCons (rTup (rCons (rC (.str "v")) (rCons (rVar 4) (rCons (rVar 6) (rCons (rVar 5) rNil))))) (rCons (rTup (rCons (rC (.str "v")) (rCons (rVar 4) (rCons (rVar 5) (rCons (rVar 6) rNil))))) rNil))))))) (ofRA rNil))))
theorem t4_of {δ : Env'} {G : Hs} {fa fb fc : RE} {x : Str} {a b c : Int} (ha : fa δ G = some (.int a)) (hb : fb δ G = some (.int b)) (hc : fc δ G = some (.int c)) : rTup (rCons (rC (.str x)) (rCons fa (rCons fb (rCons fc rNil)))) δ G = some (.tup [.str x, .int a, .int b, .int c]) :=
  tup_of (cons_of c_of (cons_of ha (cons_of hb (cons_of hc nil_of)))) (by show (4 : Nat) ≤ 1000; decide)
theorem x_step {t : Tr} (ht : (0 ≤ t.1 ∧ t.1 < (n : Int)) ∧ (0 ≤ t.2.1 ∧ t.2.1 < (n : Int)) ∧ 0 ≤ t.2.2 ∧ t.2.2 < (n : Int)) {w1 w2 : D} {o7 o8 : Option D} {P0 : Hs} {k : Nat} {δ : Env'} {G : Hs}
    (h : ∃ (S : List Stp) (o4 o5 o6 : Option D), δ = [some (.rf 0), some w1, some w2, some (.rf P0.length), o4, o5, o6, o7, o8] ∧ G = P0 ++ [.lst (S.map eSt)] ∧ (∀ s ∈ S, InR n s) ∧ 1 ≤ S.length ∧ S.length + 5 * (k + 1) ≤ 1000) :
    ∃ δ1, setTup [(setN 4), (setN 5), (setN 6)] (eV t) δ = some δ1 ∧ ∃ δ2 G2, xB δ1 G = some (.nx, δ2, G2) ∧ (∃ (S : List Stp) (o4 o5 o6 : Option D), δ2 = [some (.rf 0), some w1, some w2, some (.rf P0.length), o4, o5, o6, o7, o8] ∧ G2 = P0 ++ [.lst (S.map eSt)] ∧ (∀ s ∈ S, InR n s) ∧ 1 ≤ S.length ∧ S.length + 5 * k ≤ 1000) := by
  obtain ⟨S, o4, o5, o6, rfl, rfl, hS, h1, hl⟩ := h
  refine ⟨_, rfl, ?_⟩
  refine ⟨_, _, exp_of (ext_of (k := P0.length) (zs := (five t).map eSt) (var_of rfl) (get_end _ _) (econs1_of (ofR_of (fl_of (cons_of (t4_of (var_of rfl) (var_of rfl) (var_of rfl)) (cons_of (t4_of (var_of rfl) (var_of rfl) (var_of rfl)) (cons_of (t4_of (var_of rfl) (var_of rfl) (var_of rfl)) (cons_of (t4_of (var_of rfl) (var_of rfl) (var_of rfl)) (cons_of (t4_of (var_of rfl) (var_of rfl) (var_of rfl)) nil_of))))) (by show (5 : Nat) ≤ 1000; decide)))) (get_end _ _) (by simp only [List.length_map, five, List.length_cons, List.length_nil]; omega)), S ++ five t, _, _, _, rfl, ?_, fun s hs => ?_, by rw [List.length_append]; omega, by rw [List.length_append]; simp only [five, List.length_cons, List.length_nil]; omega⟩
  · rw [set_end, List.map_append]
  · rcases List.mem_append.mp hs with hs | hs
    · exact hS s hs
    · simp only [five, List.mem_cons, List.mem_nil_iff, or_false] at hs
      rcases hs with rfl | rfl | rfl | rfl | rfl <;> · intro x hx; simp only [Stp.sp, List.mem_cons, List.mem_nil_iff, or_false] at hx; omega
theorem strange_P (G0 : Good n A []) (xs : List Int) : ∃ (s : Stp) (xs' : List Int), f__law_strange [.rf 0, eU n A] [.lst (xs.map .int)] = some (eSt s, [.lst (xs'.map .int)]) ∧ InR n s := by
  have hn1 := G0.n1
  have eu : (eU n A).im = true := eU_im n A
  obtain ⟨ys, dr, tl, h1, hy, hyl⟩ := lcE_grow (set := setN 7) (elt := eCallB 2 f__law_take (eCons (ofR (rVar 0)) (eCons (ofR (rBin ixA (rVar 1) (rC (.int 0)))) (ofRA rNil)))) (δ := wipeD (slots 9 [.rf 0, eU n A]) [7]) (fun i : Nat => D.int (0 + (i : Int))) D.int (fun y => 0 ≤ y ∧ y < (n : Int)) (List.range (4 : Int).toNat) xs [] (fun i hi => by
    refine ⟨[some (.rf 0), some (eU n A), none, none, none, none, none, some (.int (0 + (i : Int))), none], rfl, fun dr tl => ?_⟩
    obtain ⟨r, dr', e1, r0, r1⟩ := tk_of (δ := [some (.rf 0), some (eU n A), none, none, none, none, none, some (.int (0 + (i : Int))), none]) (G := .lst (dr.map .int) :: tl) (k := 0) (fo := rVar 0) (fm := rBin ixA (rVar 1) (rC (.int 0))) (xs := dr) (m := n) (var_of rfl) rfl (bin_of (var_of rfl) c_of ((ixA_tup _ _).trans (at_0 _ _))) (by omega)
    exact ⟨r, dr', tl, ⟨r0, r1⟩, e1⟩)
  have hyl4 : ys.length = 4 := by rw [hyl, List.length_range]; rfl
  obtain ⟨p, q, r, s, rfl⟩ : ∃ p q r s, ys = [p, q, r, s] := by
    match ys, hyl4 with
    | [p, q, r, s], _ => exact ⟨p, q, r, s, rfl⟩
  have hp := hy p (by simp)
  have hq := hy q (by simp)
  have hr := hy r (by simp)
  have hs := hy s (by simp)
  have a1 : sAsg (eLc (ofRA (iRgR rng1 (rCons (rC (.int 4)) rNil))) (setN 7) cYesE (eCallB 2 f__law_take (eCons (ofR (rVar 0)) (eCons (ofR (rBin ixA (rVar 1) (rC (.int 0)))) (ofRA rNil)))) [7]) (setN 2) (slots 9 [.rf 0, eU n A]) [.lst (xs.map .int)] = some (.nx, [some (.rf 0), some (eU n A), some (.fl [.int p, .int q, .int r, .int s]), none, none, none, none, none, none], .lst (dr.map .int) :: tl) :=
    asg_of (elc_of (ofRA_of (rg1_of (j := 4) c_of (by decide) (by decide))) (by rw [List.length_map, List.length_range]; decide) h1) (by show (2 : Nat) < 9; decide)
  generalize hP : (GO.lst (dr.map .int) :: tl) = P0 at a1
  have c1 : rLc (iTupR (rTup (rCons (rC (.str "away")) (rCons (rC (.str "ring")) (rCons (rC (.str "v")) rNil))))) (setN 8) cYes (rBin g_addA (rTup (rCons (rVar 8) rNil)) (rCal gTuple (rCons (rSlL (rVar 2) (partD none) (partD (some (rC (.int 3))))) rNil))) [8] [some (.rf 0), some (eU n A), some (.fl [.int p, .int q, .int r, .int s]), none, none, none, none, none, none] P0 = some (.fl (([Stp.t .aw p q r, .t .ri p q r, .t .v p q r]).map eSt)) := by
    have sl : ∀ x, rSlL (rVar 2) (partD none) (partD (some (rC (.int 3)))) [some (.rf 0), some (eU n A), some (.fl [.int p, .int q, .int r, .int s]), none, none, none, none, none, x] P0 = some (.fl [.int p, .int q, .int r]) := fun x =>
      slL_of (ds := [.int p, .int q, .int r, .int s]) (var_of rfl) pN_of (pS_of (f := rC (.int 3)) (i := 3) c_of)
    refine (rlc_of (fun w : Wd => D.str w.w.s) (fun w => [some (.rf 0), some (eU n A), some (.fl [.int p, .int q, .int r, .int s]), none, none, none, none, none, some (.str w.w.s)]) (fun _ => true) (fun w => eSt (.t w p q r)) [.aw, .ri, .v] (itup_of (tup_of (cons_of c_of (cons_of c_of (cons_of c_of nil_of))) (by show (3 : Nat) ≤ 1000; decide))) (by show (3 : Nat) ≤ _; decide) fun w hw => ⟨rfl, rfl, fun _ => bin_of (tup_of (cons_of (var_of rfl) nil_of) (by show (1 : Nat) ≤ 1000; decide)) (cal1_of (sl _) (gtup_fl _)) ?_⟩).trans ?_
    · exact cat_tup (a := [.str w.w.s]) (b := [.int p, .int q, .int r]) (by show (4 : Nat) ≤ _; decide)
    · rfl
  have c2 : rFl (rCons (rBin g_addA (rTup (rCons (rC (.str "kite")) rNil)) (rCal gTuple (rCons (rVar 2) rNil))) rNil) [some (.rf 0), some (eU n A), some (.fl [.int p, .int q, .int r, .int s]), none, none, none, none, none, none] P0 = some (.fl ([Stp.k p q r s].map eSt)) :=
    fl_of (cons_of (bin_of (tup_of (cons_of c_of nil_of) (by show (1 : Nat) ≤ 1000; decide)) (cal1_of (var_of rfl) (gtup_fl _)) (cat_tup (a := [.str "kite"]) (b := [.int p, .int q, .int r, .int s]) (by show (5 : Nat) ≤ _; decide))) nil_of) (by show (1 : Nat) ≤ 1000; decide)
  generalize hS0 : [Stp.t .aw p q r, .t .ri p q r, .t .v p q r] = S1 at c1
  have c3 : eCatR (rLc (iTupR (rTup (rCons (rC (.str "away")) (rCons (rC (.str "ring")) (rCons (rC (.str "v")) rNil))))) (setN 8) cYes (rBin g_addA (rTup (rCons (rVar 8) rNil)) (rCal gTuple (rCons (rSlL (rVar 2) (partD none) (partD (some (rC (.int 3))))) rNil))) [8]) (rFl (rCons (rBin g_addA (rTup (rCons (rC (.str "kite")) rNil)) (rCal gTuple (rCons (rVar 2) rNil))) rNil)) [some (.rf 0), some (eU n A), some (.fl [.int p, .int q, .int r, .int s]), none, none, none, none, none, none] P0 = some (.rf P0.length, P0 ++ [.lst ((S1 ++ [Stp.k p q r s]).map eSt)]) := by
    unfold eCatR
    rw [c1, Option.bind_some, c2, Option.bind_some]
    show (if (S1.map eSt).length + ([Stp.k p q r s].map eSt).length ≤ 10000000 then some (D.rf P0.length, P0 ++ [GO.lst (S1.map eSt ++ [Stp.k p q r s].map eSt)]) else none) = _
    rw [if_pos (by subst hS0; show (4 : Nat) ≤ 10000000; decide), ← List.map_append]
  have hS : ∀ x ∈ S1 ++ [Stp.k p q r s], InR n x := fun x hx => by
    subst hS0
    simp only [List.mem_append, List.mem_cons, List.mem_nil_iff, or_false] at hx
    rcases hx with (rfl | rfl | rfl) | rfl <;> · intro y hy; simp only [Stp.sp, List.mem_cons, List.mem_nil_iff, or_false] at hy; omega
  have hSl : (S1 ++ [Stp.k p q r s]).length = 4 := by subst hS0; rfl
  have a2 := asg_of (i := 3) c3 (by show (3 : Nat) < 9; decide)
  obtain ⟨L, hpL, hL, hv⟩ := vees_P n G0.aL
  have hV : ∀ t ∈ L.take 3, (0 ≤ t.1 ∧ t.1 < (n : Int)) ∧ (0 ≤ t.2.1 ∧ t.2.1 < (n : Int)) ∧ 0 ≤ t.2.2 ∧ t.2.2 < (n : Int) := fun t ht => by
    have h := (mem_vL (aR' G0) t.1 t.2.1 t.2.2).mp (hpL.mem_iff.mp (List.mem_of_mem_take ht))
    unfold V at h
    simp only [Bool.and_eq_true, decide_eq_true_eq] at h
    have r1 := G0.aR _ h.1.1.1
    have r2 := G0.aR _ h.1.1.2
    exact ⟨⟨r1.1, r1.2.1⟩, ⟨r1.2.2.1, r1.2.2.2.1⟩, r2.1, r2.2.1⟩
  have tl3 : (L.take 3).length ≤ 3 := by rw [List.length_take]; omega
  generalize hS2 : S1 ++ [Stp.k p q r s] = S2 at a2 hS hSl
  obtain ⟨δ2, G2, f1, S, o4, o5, o6, rfl, rfl, hSr, hS1, _⟩ := forL_fold (set := setTup [(setN 4), (setN 5), (setN 6)]) (b := xB) eV (fun (_ : Unit) _ => ()) (fun k _ δ G => ∃ (S : List Stp) (o4 o5 o6 : Option D), δ = [some (.rf 0), some (eU n A), some (.fl [.int p, .int q, .int r, .int s]), some (.rf P0.length), o4, o5, o6, none, none] ∧ G = P0 ++ [.lst (S.map eSt)] ∧ (∀ s ∈ S, InR n s) ∧ 1 ≤ S.length ∧ S.length + 5 * k ≤ 1000) (L.take 3) ()
    [some (.rf 0), some (eU n A), some (.fl [.int p, .int q, .int r, .int s]), some (.rf P0.length), none, none, none, none, none] (P0 ++ [.lst (S2.map eSt)]) ⟨S2, _, _, _, rfl, rfl, hS, by omega, by omega⟩ (fun t ht k u δ G h => x_step (hV t ht) h)
  have a3 : sFor (ofRA (iTupR (rSlT (rCallP 1 f__law_vees (rCons (rVar 1) rNil)) (partD none) (partD (some (rC (.int 3))))))) (setTup [(setN 4), (setN 5), (setN 6)]) xB [some (.rf 0), some (eU n A), some (.fl [.int p, .int q, .int r, .int s]), some (.rf P0.length), none, none, none, none, none] (P0 ++ [.lst (S2.map eSt)]) = _ :=
    (for_nx (ofRA_of (itup_of (xs := (L.take 3).map eV) ((slT_gen (ds := L.map eV) (callP_of (ds := [eU n A]) (cons_of (var_of rfl) nil_of) (by simp [ims, eu]) rfl hv) pN_of (pS_of (f := rC (.int 3)) (i := ((3 : Nat) : Int)) c_of)).trans (by rw [cut_take, List.map_take]))))).trans f1
  subst hP
  obtain ⟨i, dr2, e1, i0, i1⟩ := tk_of (δ := [some (.rf 0), some (eU n A), some (.fl [.int p, .int q, .int r, .int s]), some (.rf (GO.lst (dr.map .int) :: tl).length), o4, o5, o6, none, none]) (G := (GO.lst (dr.map .int) :: tl) ++ [.lst (S.map eSt)]) (k := 0) (fo := rVar 0) (fm := rCal gLen (rCons (rVar 3) rNil)) (xs := dr) (m := S.length) (var_of rfl) rfl (cal1_of (var_of rfl) ((len_rf (get_end _ _)).trans (by rw [List.length_map]))) (by omega)
  have hlt : i.toNat < S.length := by omega
  have e2 : ixA (GO.lst (dr2.map .int) :: (tl ++ [.lst (S.map eSt)])) (.rf (tl.length + 1)) (.int i) = some (eSt S[i.toNat]) := by
    refine (ixA_rf (ds := S.map eSt) _ (by simp)).trans ?_
    rw [at_int _ i0, List.getElem?_map, List.getElem?_eq_getElem hlt]
    rfl
  refine ⟨S[i.toNat], dr2, fin_B (eSt_im _) (tl := tl ++ [.lst (S.map eSt)]) ((sq_nx a1).trans ((sq_nx a2).trans ((sq_nx a3).trans (ret_of (ebin_of (ofR_of (var_of rfl)) e1 e2))))), hSr _ (List.getElem_mem _)⟩
end
end K44
namespace FL
open PySem PySem.Spec PyProof.Rows L2
theorem forL_inv {α : Type} {set : Sets} {b : SS} (e : α → D) (I : Env' → Hs → Prop) : ∀ (xs : List α) (δ : Env') (G : Hs), I δ G →
    (∀ x ∈ xs, ∀ δ G, I δ G → ∃ δ1, set (e x) δ = some δ1 ∧ ∃ δ2 G2, (b δ1 G = some (.nx, δ2, G2) ∨ b δ1 G = some (.ct, δ2, G2)) ∧ I δ2 G2) →
    ∃ δ' G', forL set b (xs.map e) δ G = some (.nx, δ', G') ∧ I δ' G'
  | [], δ, G, h, _ => ⟨δ, G, rfl, h⟩
  | x :: xs, δ, G, h, hs => by
    obtain ⟨δ1, h1, δ2, G2, h2, h3⟩ := hs x List.mem_cons_self _ _ h
    obtain ⟨δ', G', h4, h5⟩ := forL_inv e I xs δ2 G2 h3 fun y hy => hs y (List.mem_cons_of_mem _ hy)
    refine ⟨δ', G', ?_, h5⟩
    rw [List.map_cons, forL, h1, Option.bind_some]
    rcases h2 with h2 | h2
    · rw [h2, Option.bind_some]
      exact h4
    · rw [h2, Option.bind_some]
      exact h4
end FL
namespace K44
open PySem PySem.Spec PyProof.Rows L2 FL
section
variable {n : Nat} {A : List Pq} {arrow : Pq}
abbrev B1 : SS := (sSeq (sAsg (ofR (rCallP 3 f__law_are_reasons (rCons (rVar 2) (rCons (rVar 3) (rCons (rVar 7) rNil))))) (setN 10))
    (sIf (ofRT (rB (rBin g_ne (rCal gRepr (rCons (rCallP 3 f_is_loose (rCons (rVar 4) (rCons (rVar 3) (rCons (rTup (rCons (rC (.str "forced")) (rCons (rVar 7) rNil))) rNil)))) rNil)) (rCal gRepr (rCons (rVar 10) rNil)))))
     (sRet (ofR (rC (.bl false))))
     FL.sNil))
abbrev B2 : SS := (sIf (ofRT (rB (rBin g_isnA (rCallP 3 f_is_loose (rCons (rVar 4) (rCons (rVar 3) (rCons (rTup (rCons (rC (.str "forced")) (rCons (rBin g_addA (rSlT (rVar 6) (partD none) (partD (some (rVar 8)))) (rSlT (rVar 6) (partD (some (rBin g_addA (rVar 8) (rC (.int 1))))) (partD none))) rNil))) rNil)))) (rC (.bl false)))))
     (sRet (ofR (rC (.bl false))))
     FL.sNil)
abbrev B3 : SS := (sSeq (sAsg (eCallB 2 f__law_take (eCons (ofR (rVar 1)) (eCons (ofR (rBin g_addA (rCal gLen (rCons (rVar 6) rNil)) (rC (.int 1)))) (ofRA rNil)))) (setN 8))
    (sSeq (sAsg (eBin g_addA (eBin g_addA (ofR (rSlT (rVar 6) (partD none) (partD (some (rVar 8))))) (eTup (eCons (eCallB 2 f__law_strange (eCons (ofR (rVar 1)) (eCons (ofR (rVar 2)) (ofRA rNil)))) (ofRA rNil)))) (ofR (rSlT (rVar 6) (partD (some (rVar 8))) (partD none)))) (setN 7))
    (sIf (ofRT (rB (rBin g_ne (rCal gRepr (rCons (rCallP 3 f_is_loose (rCons (rVar 4) (rCons (rVar 3) (rCons (rTup (rCons (rC (.str "forced")) (rCons (rVar 7) rNil))) rNil)))) rNil)) (rCal gRepr (rCons (rCallP 3 f__law_are_reasons (rCons (rVar 2) (rCons (rVar 3) (rCons (rVar 7) rNil)))) rNil)))))
     (sRet (ofR (rC (.bl false))))
     FL.sNil)))
abbrev BB : SS := (sSeq (sAsg (ofR (rCallP 3 f__law_reasons (rCons (rVar 2) (rCons (rVar 3) (rCons (rVar 5) rNil))))) (setN 6))
   (sSeq (sIf (ofRT (rB (rBin g_isA (rVar 6) (rC .non))))
    (sSeq (sAsg (ofR (rCal gTuple (rCons (rLc (iTupR (rCallP 1 f__law_vees (rCons (rVar 2) rNil))) (setN 11) cYes (rBin g_addA (rTup (rCons (rC (.str "v")) rNil)) (rVar 11)) [11]) rNil))) (setN 6))
    (sSeq (sIf (ofRT (rB (rBin g_isnA (rCallP 3 f_is_loose (rCons (rVar 4) (rCons (rVar 3) (rCons (rTup (rCons (rC (.str "forced")) (rCons (rVar 6) rNil))) rNil)))) (rC (.bl false)))))
     (sRet (ofR (rC (.bl false))))
     FL.sNil)
    sCnt))
    FL.sNil)
   (sSeq (sFor (iFlE (eCallB 2 f__law_orders (eCons (ofR (rVar 1)) (eCons (ofR (rVar 6)) (ofRA rNil))))) (setN 7)
    (sSeq (sAsg (ofR (rCallP 3 f__law_are_reasons (rCons (rVar 2) (rCons (rVar 3) (rCons (rVar 7) rNil))))) (setN 10))
    (sIf (ofRT (rB (rBin g_ne (rCal gRepr (rCons (rCallP 3 f_is_loose (rCons (rVar 4) (rCons (rVar 3) (rCons (rTup (rCons (rC (.str "forced")) (rCons (rVar 7) rNil))) rNil)))) rNil)) (rCal gRepr (rCons (rVar 10) rNil)))))
     (sRet (ofR (rC (.bl false))))
     FL.sNil)))
   (sSeq (sFor (ofRA (iRgR rng1 (rCons (rCal gLen (rCons (rVar 6) rNil)) rNil))) (setN 8)
    (sIf (ofRT (rB (rBin g_isnA (rCallP 3 f_is_loose (rCons (rVar 4) (rCons (rVar 3) (rCons (rTup (rCons (rC (.str "forced")) (rCons (rBin g_addA (rSlT (rVar 6) (partD none) (partD (some (rVar 8)))) (rSlT (rVar 6) (partD (some (rBin g_addA (rVar 8) (rC (.int 1))))) (partD none))) rNil))) rNil)))) (rC (.bl false)))))
     (sRet (ofR (rC (.bl false))))
     FL.sNil))
   (sFor (ofRA (iRgR rng1 (rCons (rC (.int 4)) rNil))) (setN 9)
    (sSeq (sAsg (eCallB 2 f__law_take (eCons (ofR (rVar 1)) (eCons (ofR (rBin g_addA (rCal gLen (rCons (rVar 6) rNil)) (rC (.int 1)))) (ofRA rNil)))) (setN 8))
    (sSeq (sAsg (eBin g_addA (eBin g_addA (ofR (rSlT (rVar 6) (partD none) (partD (some (rVar 8))))) (eTup (eCons (eCallB 2 f__law_strange (eCons (ofR (rVar 1)) (eCons (ofR (rVar 2)) (ofRA rNil)))) (ofRA rNil)))) (ofR (rSlT (rVar 6) (partD (some (rVar 8))) (partD none)))) (setN 7))
    (sIf (ofRT (rB (rBin g_ne (rCal gRepr (rCons (rCallP 3 f_is_loose (rCons (rVar 4) (rCons (rVar 3) (rCons (rTup (rCons (rC (.str "forced")) (rCons (rVar 7) rNil))) rNil)))) rNil)) (rCal gRepr (rCons (rCallP 3 f__law_are_reasons (rCons (rVar 2) (rCons (rVar 3) (rCons (rVar 7) rNil)))) rNil)))))
     (sRet (ofR (rC (.bl false))))
     FL.sNil))))))))
theorem looseq (G0 : Good n A []) (ha : arrow ∈ A) {row : List Stp} (hr : ∀ s ∈ row, InR n s) (hl : row.length ≤ 20000) {δ : Env'} {G : Hs} {fw fa fr : RE} (h1 : fw δ G = some (eM n A [])) (h2 : fa δ G = some (eP arrow)) (h3 : fr δ G = some (eR row)) :
    rCallP 3 f_is_loose (rCons fw (rCons fa (rCons (rTup (rCons (rC (.str "forced")) (rCons fr rNil))) rNil))) δ G = some (.bl (RS A arrow row)) :=
  callP_of (ds := [eM n A [], eP arrow, .tup [.str "forced", .tup (row.map eSt)]]) (cons_of h1 (cons_of h2 (cons_of (tup_of (cons_of c_of (cons_of h3 nil_of)) (by show (2 : Nat) ≤ 1000; decide)) nil_of))) (by simp [ims, eM_im, eP_im, D.im, ims_map eSt_im]) rfl (loose_P G0 arrow ha row hr hl)
theorem lawq (G0 : Good n A []) {row : List Stp} (hr : ∀ s ∈ row, InR n s) (hl : row.length ≤ 20000) {δ : Env'} {G : Hs} {fw fa fr : RE} (h1 : fw δ G = some (eU n A)) (h2 : fa δ G = some (eP arrow)) (h3 : fr δ G = some (eR row)) :
    rCallP 3 f__law_are_reasons (rCons fw (rCons fa (rCons fr rNil))) δ G = some (.bl (RS A arrow row)) :=
  callP_of (ds := [eU n A, eP arrow, .tup (row.map eSt)]) (cons_of h1 (cons_of h2 (cons_of h3 nil_of))) (by simp [ims, eU_im, eP_im, D.im, ims_map eSt_im]) rfl (law_reas_P G0 arrow row hr hl)
/-- the law's room -/
abbrev LE (n : Nat) (A : List Pq) (ns : List Int) (arrow o6 o7 o8 o9 o10 o11 : Option D) : Env' := [some (.scr ns), some (.rf 0), some (eU n A), arrow, some (eM n A []), some WO, o6, o7, o8, o9, o10, o11]
theorem b1_step (G0 : Good n A []) (ha : arrow ∈ A) {ns : List Int} {o6 o7 o8 o9 o10 o11 : Option D} {r : List Stp} (hr : GR n r) {G : Hs} : ∃ o10', B1 (LE n A ns (some (eP arrow)) o6 (some (eR r)) o8 o9 o10 o11) G = some (.nx, LE n A ns (some (eP arrow)) o6 (some (eR r)) o8 o9 o10' o11, G) := by
  have hl := hr.2
  obtain ⟨x, hx, hne⟩ := repr_b (RS A arrow r)
  have a1 := asg_of (i := 10) (ofR_of (lawq (arrow := arrow) (δ := LE n A ns (some (eP arrow)) o6 (some (eR r)) o8 o9 o10 o11) (G := G) (fw := rVar 2) (fa := rVar 3) (fr := rVar 7) G0 hr.1 (by omega) (var_of rfl) (var_of rfl) (var_of rfl))) (by show (10 : Nat) < 12; decide)
  exact ⟨_, (sq_nx a1).trans ((if_f (ofRT_of (b_of (bin_of (cal1_of (looseq G0 ha hr.1 (by omega) (var_of rfl) (var_of rfl) (var_of rfl)) (hx _)) (cal1_of (var_of rfl) (hx _)) (hne _))))).trans rfl)⟩
theorem b2_step (G0 : Good n A []) (ha : arrow ∈ A) {ns : List Int} {o7 o8 o9 o10 o11 : Option D} {r : List Stp} (hr : GR n r) {i : Nat} (hi : RS A arrow (del i r) = false) {G : Hs} {v : Int} (hv : v = i) : B2 (LE n A ns (some (eP arrow)) (some (eR r)) o7 (some (.int v)) o9 o10 o11) G = some (.nx, LE n A ns (some (eP arrow)) (some (eR r)) o7 (some (.int v)) o9 o10 o11, G) := by
  subst hv
  have hl := hr.2
  have e1 : rBin g_addA (rSlT (rVar 6) (partD none) (partD (some (rVar 8)))) (rSlT (rVar 6) (partD (some (rBin g_addA (rVar 8) (rC (.int 1))))) (partD none)) (LE n A ns (some (eP arrow)) (some (eR r)) o7 (some (.int (i : Int))) o9 o10 o11) G = some (eR (del i r)) := by
    have s1 := slT_gen (δ := LE n A ns (some (eP arrow)) (some (eR r)) o7 (some (.int (i : Int))) o9 o10 o11) (G := G) (fa := rVar 6) (ds := r.map eSt) (var_of rfl) pN_of (pS_of (f := rVar 8) (i := (i : Int)) (var_of rfl))
    have s2 := slT_gen (δ := LE n A ns (some (eP arrow)) (some (eR r)) o7 (some (.int (i : Int))) o9 o10 o11) (G := G) (fa := rVar 6) (ds := r.map eSt) (var_of rfl) (pS_of (f := rBin g_addA (rVar 8) (rC (.int 1))) (bin_of (var_of rfl) c_of (add_ii (i : Int) 1))) pN_of
    rw [cut_take, ← List.map_take] at s1
    rw [show ((i : Int) + 1) = ((i + 1 : Nat) : Int) by omega, cut_drop, ← List.map_drop] at s2
    refine bin_of s1 s2 ((cat_tup (by rw [List.length_map, List.length_map, List.length_take, List.length_drop]; omega)).trans ?_)
    unfold eR del
    rw [List.map_append]
  have dl : (del i r).length ≤ 2000 := by
    unfold del
    rw [List.length_append, List.length_take, List.length_drop]
    omega
  have t := looseq (δ := LE n A ns (some (eP arrow)) (some (eR r)) o7 (some (.int (i : Int))) o9 o10 o11) (G := G) (fw := rVar 4) (fa := rVar 3) G0 ha (row := del i r) (fun s hs => hr.1 s (del_mem hs)) (by omega) (var_of rfl) (var_of rfl) e1
  rw [hi] at t
  exact (if_f (ofRT_of (b_of (bin_of t c_of (isn_bb _ _))))).trans rfl
theorem b3_step (G0 : Good n A []) (ha : arrow ∈ A) {ns : List Int} {o7 o8 o9 o10 o11 : Option D} {r : List Stp} (hr : GR n r) (dr : List Int) : ∃ (o7' o8' : Option D) (dr' : List Int), B3 (LE n A ns (some (eP arrow)) (some (eR r)) o7 o8 o9 o10 o11) [.lst (dr.map .int)] = some (.nx, LE n A ns (some (eP arrow)) (some (eR r)) o7' o8' o9 o10 o11, [.lst (dr'.map .int)]) := by
  have hl := hr.2
  obtain ⟨i, dr1, e1, i0, i1⟩ := tk_of (δ := LE n A ns (some (eP arrow)) (some (eR r)) o7 o8 o9 o10 o11) (G := [.lst (dr.map .int)]) (k := 0) (fo := rVar 1) (fm := rBin g_addA (rCal gLen (rCons (rVar 6) rNil)) (rC (.int 1))) (xs := dr) (m := (r.length : Int) + 1) (var_of rfl) rfl (bin_of (cal1_of (var_of rfl) ((len_tup _).trans (by rw [List.length_map]))) c_of (add_ii _ _)) (by omega)
  obtain ⟨k, rfl⟩ : ∃ k : Nat, i = (k : Int) := ⟨i.toNat, by omega⟩
  have a1 := asg_of (i := 8) e1 (by show (8 : Nat) < 12; decide)
  obtain ⟨s, dr2, e2, hs⟩ := strange_P G0 dr1
  have s1 : rSlT (rVar 6) (partD none) (partD (some (rVar 8))) (LE n A ns (some (eP arrow)) (some (eR r)) o7 (some (.int (k : Int))) o9 o10 o11) [.lst (dr1.map .int)] = some (.tup ((r.take k).map eSt)) := by
    have := slT_gen (δ := LE n A ns (some (eP arrow)) (some (eR r)) o7 (some (.int (k : Int))) o9 o10 o11) (G := [.lst (dr1.map .int)]) (fa := rVar 6) (ds := r.map eSt) (var_of rfl) pN_of (pS_of (f := rVar 8) (i := (k : Int)) (var_of rfl))
    rwa [cut_take, ← List.map_take] at this
  have s2 : rSlT (rVar 6) (partD (some (rVar 8))) (partD none) (LE n A ns (some (eP arrow)) (some (eR r)) o7 (some (.int (k : Int))) o9 o10 o11) [.lst (dr2.map .int)] = some (.tup ((r.drop k).map eSt)) := by
    have := slT_gen (δ := LE n A ns (some (eP arrow)) (some (eR r)) o7 (some (.int (k : Int))) o9 o10 o11) (G := [.lst (dr2.map .int)]) (fa := rVar 6) (ds := r.map eSt) (var_of rfl) (pS_of (f := rVar 8) (i := (k : Int)) (var_of rfl)) pN_of
    rwa [cut_drop, ← List.map_drop] at this
  have st : eTup (eCons (eCallB 2 f__law_strange (eCons (ofR (rVar 1)) (eCons (ofR (rVar 2)) (ofRA rNil)))) (ofRA rNil)) (LE n A ns (some (eP arrow)) (some (eR r)) o7 (some (.int (k : Int))) o9 o10 o11) [.lst (dr1.map .int)] = some (.tup [eSt s], [.lst (dr2.map .int)]) :=
    etup_of (econs_of (callB_of (k := 0) (o := .lst (dr1.map .int)) (econs_of (ofR_of (var_of rfl)) (econs_of (ofR_of (var_of rfl)) enil_of)) rfl (by simp [ims, eU_im]) rfl (flat_int _) e2 (flat_int _) (eSt_im _)) enil_of) (by show (1 : Nat) ≤ 1000; decide)
  have e3 : eBin g_addA (eBin g_addA (ofR (rSlT (rVar 6) (partD none) (partD (some (rVar 8))))) (eTup (eCons (eCallB 2 f__law_strange (eCons (ofR (rVar 1)) (eCons (ofR (rVar 2)) (ofRA rNil)))) (ofRA rNil)))) (ofR (rSlT (rVar 6) (partD (some (rVar 8))) (partD none))) (LE n A ns (some (eP arrow)) (some (eR r)) o7 (some (.int (k : Int))) o9 o10 o11) [.lst (dr1.map .int)] = some (eR ((r.take k ++ [s]) ++ r.drop k), [.lst (dr2.map .int)]) := by
    refine ebin_of (ebin_of (ofR_of s1) st (cat_tup (b := [eSt s]) (by rw [List.length_map, List.length_take]; simp only [List.length_cons, List.length_nil]; omega))) (ofR_of s2) ((cat_tup (by simp only [List.length_map, List.length_append, List.length_take, List.length_drop, List.length_cons, List.length_nil]; omega)).trans ?_)
    unfold eR
    rw [List.map_append, List.map_append]
    rfl
  have a2 := asg_of (i := 7) e3 (by show (7 : Nat) < 12; decide)
  have hr' : ∀ x ∈ (r.take k ++ [s]) ++ r.drop k, InR n x := fun x hx => by
    rcases List.mem_append.mp hx with hx | hx
    · rcases List.mem_append.mp hx with hx | hx
      · exact hr.1 x (List.mem_of_mem_take hx)
      · rw [List.mem_singleton] at hx
        exact hx ▸ hs
    · exact hr.1 x (List.mem_of_mem_drop hx)
  have hl' : ((r.take k ++ [s]) ++ r.drop k).length ≤ 20000 := by
    rw [List.length_append, List.length_append, List.length_take, List.length_drop, List.length_singleton]
    omega
  generalize (r.take k ++ [s]) ++ r.drop k = q at a2 hr' hl'
  obtain ⟨x, hx, hne⟩ := repr_b (RS A arrow q)
  exact ⟨_, _, dr2, (sq_nx a1).trans ((sq_nx a2).trans ((if_f (ofRT_of (b_of (bin_of (cal1_of (looseq G0 ha hr' hl' (var_of rfl) (var_of rfl) (var_of rfl)) (hx _)) (cal1_of (lawq G0 hr' hl' (var_of rfl) (var_of rfl) (var_of rfl)) (hx _)) (hne _))))).trans rfl))⟩
end
end K44
namespace FL
open PySem PySem.Spec PyProof.Rows L2
theorem sq_ct {g h : SS} {δ δ1 : Env'} {G G1 : Hs} (e : g δ G = some (.ct, δ1, G1)) : sSeq g h δ G = some (.ct, δ1, G1) := by
  unfold sSeq
  rw [e]
  rfl
end FL
namespace K44
open PySem PySem.Spec PyProof.Rows L2 FL
section
variable {n : Nat} {A : List Pq} {arrow : Pq}
theorem vrow_in (G0 : Good n A []) {L : List Tr} (hp : L.Perm (vL A)) : ∀ s ∈ vrow L, InR n s := fun s hs => by
  obtain ⟨t, ht, rfl⟩ := List.mem_map.mp hs
  have h := (mem_vL (aR' G0) t.1 t.2.1 t.2.2).mp (hp.mem_iff.mp ht)
  unfold V at h
  simp only [Bool.and_eq_true, decide_eq_true_eq] at h
  have r1 := G0.aR _ h.1.1.1
  have r2 := G0.aR _ h.1.1.2
  intro x hx
  simp only [vst, Stp.sp, List.mem_cons, List.mem_nil_iff, or_false] at hx
  rcases hx with rfl | rfl | rfl
  · exact ⟨r1.1, r1.2.1⟩
  · exact ⟨r1.2.2.1, r1.2.2.2.1⟩
  · exact ⟨r2.1, r2.2.1⟩
def BI (n : Nat) (A : List Pq) (ns : List Int) (δ : Env') (G : Hs) : Prop := ∃ (o3 o6 o7 o8 o9 o10 o11 : Option D) (dr : List Int), δ = LE n A ns o3 o6 o7 o8 o9 o10 o11 ∧ G = [.lst (dr.map .int)]
theorem body_step (G0 : Good n A []) (ha : arrow ∈ A) {ns : List Int} {δ : Env'} {G : Hs} (h : BI n A ns δ G) : ∃ δ1, setN 3 (eP arrow) δ = some δ1 ∧ ∃ δ2 G2, (BB δ1 G = some (.nx, δ2, G2) ∨ BB δ1 G = some (.ct, δ2, G2)) ∧ BI n A ns δ2 G2 := by
  obtain ⟨o3, o6, o7, o8, o9, o10, o11, dr, rfl, rfl⟩ := h
  refine ⟨_, rfl, ?_⟩
  obtain ⟨L, hp, hL, hv⟩ := vees_P n G0.aL
  have eu : (eU n A).im = true := eU_im n A
  rcases reasons_P G0 arrow hv hp hL with ⟨hf, hRS⟩ | ⟨r, hf, hr, hl, hRS, hmin⟩
  · have a1 : sAsg (ofR (rCallP 3 f__law_reasons (rCons (rVar 2) (rCons (rVar 3) (rCons (rVar 5) rNil))))) (setN 6) (LE n A ns (some (eP arrow)) o6 o7 o8 o9 o10 o11) [.lst (dr.map .int)] = some (.nx, LE n A ns (some (eP arrow)) (some .non) o7 o8 o9 o10 o11, [.lst (dr.map .int)]) :=
      asg_of (ofR_of (callP_of (ds := [eU n A, eP arrow, WO]) (cons_of (var_of rfl) (cons_of (var_of rfl) (cons_of (var_of rfl) nil_of))) (by simp [ims, eu, eP_im]; rfl) rfl hf)) (by show (6 : Nat) < 12; decide)
    have t1 : rB (rBin g_isA (rVar 6) (rC .non)) (LE n A ns (some (eP arrow)) (some .non) o7 o8 o9 o10 o11) [.lst (dr.map .int)] = some true := b_of (bin_of (var_of rfl) c_of rfl)
    have c1 : rLc (iTupR (rCallP 1 f__law_vees (rCons (rVar 2) rNil))) (setN 11) cYes (rBin g_addA (rTup (rCons (rC (.str "v")) rNil)) (rVar 11)) [11] (LE n A ns (some (eP arrow)) (some .non) o7 o8 o9 o10 o11) [.lst (dr.map .int)] = some (.fl ((vrow L).map eSt)) := by
      refine (rlc_of eV (fun t => LE n A ns (some (eP arrow)) (some .non) o7 o8 o9 o10 (some (eV t))) (fun _ => true) (fun t => eSt (vst t)) L (itup_of (callP_of (ds := [eU n A]) (cons_of (var_of rfl) nil_of) (by simp [ims, eu]) rfl hv)) (by omega) fun t ht => ⟨rfl, rfl, fun _ => bin_of (tup_of (cons_of c_of nil_of) (by show (1 : Nat) ≤ 1000; decide)) (var_of rfl) (v_add t)⟩).trans ?_
      rw [List.filter_eq_self.mpr (fun _ _ => rfl)]
      unfold vrow
      rw [List.map_map]
      rfl
    have a2 := asg_of (i := 6) (ofR_of (cal1_of c1 (gtup_fl _))) (by show (6 : Nat) < 12; decide)
    have t2 := looseq (δ := LE n A ns (some (eP arrow)) (some (eR (vrow L))) o7 o8 o9 o10 o11) (G := [.lst (dr.map .int)]) (fw := rVar 4) (fa := rVar 3) (fr := rVar 6) G0 ha (row := vrow L) (vrow_in G0 hp) (by unfold vrow; rw [List.length_map]; omega) (var_of rfl) (var_of rfl) (var_of rfl)
    rw [hRS] at t2
    exact ⟨LE n A ns (some (eP arrow)) (some (eR (vrow L))) o7 o8 o9 o10 o11, [.lst (dr.map .int)], .inr ((sq_nx a1).trans (sq_ct ((if_t (ofRT_of t1)).trans ((sq_nx a2).trans ((sq_nx ((if_f (ofRT_of (b_of (bin_of t2 c_of (isn_bb _ _))))).trans rfl)).trans rfl))))), _, _, _, _, _, _, _, dr, rfl, rfl⟩
  · have gr : GR n r := ⟨hr, hl⟩
    have a1 : sAsg (ofR (rCallP 3 f__law_reasons (rCons (rVar 2) (rCons (rVar 3) (rCons (rVar 5) rNil))))) (setN 6) (LE n A ns (some (eP arrow)) o6 o7 o8 o9 o10 o11) [.lst (dr.map .int)] = some (.nx, LE n A ns (some (eP arrow)) (some (eR r)) o7 o8 o9 o10 o11, [.lst (dr.map .int)]) :=
      asg_of (ofR_of (callP_of (ds := [eU n A, eP arrow, WO]) (cons_of (var_of rfl) (cons_of (var_of rfl) (cons_of (var_of rfl) nil_of))) (by simp [ims, eu, eP_im]; rfl) rfl hf)) (by show (6 : Nat) < 12; decide)
    have t1 : rB (rBin g_isA (rVar 6) (rC .non)) (LE n A ns (some (eP arrow)) (some (eR r)) o7 o8 o9 o10 o11) [.lst (dr.map .int)] = some false := b_of (bin_of (var_of rfl) c_of rfl)
    -- the orders
    obtain ⟨rows, dr1, ho, hrows⟩ := orders_P gr dr
    have s1 : iFlE (eCallB 2 f__law_orders (eCons (ofR (rVar 1)) (eCons (ofR (rVar 6)) (ofRA rNil)))) (LE n A ns (some (eP arrow)) (some (eR r)) o7 o8 o9 o10 o11) [.lst (dr.map .int)] = some (rows.map eR, [.lst (dr1.map .int)]) := by
      have c : eCallB 2 f__law_orders (eCons (ofR (rVar 1)) (eCons (ofR (rVar 6)) (ofRA rNil))) (LE n A ns (some (eP arrow)) (some (eR r)) o7 o8 o9 o10 o11) [.lst (dr.map .int)] = some (.fl (rows.map eR), [.lst (dr1.map .int)]) :=
        callB_of (k := 0) (o := .lst (dr.map .int)) (econs_of (ofR_of (var_of rfl)) (econs_of (ofR_of (var_of rfl)) enil_of)) rfl (by simp [ims, eR_im]) rfl (flat_int _) ho (flat_int _) (by simp [D.im, ims_map eR_im])
      unfold iFlE
      rw [c]
      rfl
    obtain ⟨δ2, G2, f1, o7', o10', rfl, rfl⟩ := forL_inv (set := setN 7) (b := B1) eR (fun δ G => ∃ o7 o10, δ = LE n A ns (some (eP arrow)) (some (eR r)) o7 o8 o9 o10 o11 ∧ G = [.lst (dr1.map .int)]) rows (LE n A ns (some (eP arrow)) (some (eR r)) o7 o8 o9 o10 o11) [.lst (dr1.map .int)] ⟨_, _, rfl, rfl⟩ (fun q hq δ G ⟨o7, o10, hδ, hG⟩ => by
      subst hδ hG
      obtain ⟨o10', e⟩ := b1_step (ns := ns) (o6 := some (eR r)) (o7 := o7) (o8 := o8) (o9 := o9) (o10 := o10) (o11 := o11) (G := [.lst (dr1.map .int)]) G0 ha (hrows q hq)
      exact ⟨_, rfl, _, _, .inl e, _, _, rfl, rfl⟩)
    have g1 := (for_nx s1).trans f1
    obtain ⟨δ3, G3, f2, o8', rfl, rfl⟩ := forL_inv (set := setN 8) (b := B2) (fun i : Nat => D.int (0 + (i : Int))) (fun δ G => ∃ o8, δ = LE n A ns (some (eP arrow)) (some (eR r)) o7' o8 o9 o10' o11 ∧ G = [.lst (dr1.map .int)]) (List.range ((r.length : Int)).toNat) (LE n A ns (some (eP arrow)) (some (eR r)) o7' o8 o9 o10' o11) [.lst (dr1.map .int)] ⟨_, rfl, rfl⟩ (fun i hi δ G ⟨o8, hδ, hG⟩ => by
      subst hδ hG
      have hi' := List.mem_range.mp hi
      have e := b2_step (ns := ns) (o7 := o7') (o8 := o8) (o9 := o9) (o10 := o10') (o11 := o11) (G := [.lst (dr1.map .int)]) G0 ha gr (hmin i (by omega)) (v := 0 + (i : Int)) (by omega)
      exact ⟨_, rfl, _, _, .inl e, _, rfl, rfl⟩)
    have g2 := (for_nx (ofRA_of (rg1_of (δ := LE n A ns (some (eP arrow)) (some (eR r)) o7' o8 o9 o10' o11) (G := [.lst (dr1.map .int)]) (fa := rCal gLen (rCons (rVar 6) rNil)) (j := r.length) (cal1_of (var_of rfl) ((len_tup _).trans (by rw [List.length_map]))) (by omega) (by omega)))).trans f2
    obtain ⟨δ4, G4, f3, p7, p8, p9, dr2, rfl, rfl⟩ := forL_inv (set := setN 9) (b := B3) (fun i : Nat => D.int (0 + (i : Int))) (fun δ G => ∃ o7 o8 o9 dr, δ = LE n A ns (some (eP arrow)) (some (eR r)) o7 o8 o9 o10' o11 ∧ G = [.lst (dr.map .int)]) (List.range (4 : Int).toNat) (LE n A ns (some (eP arrow)) (some (eR r)) o7' o8' o9 o10' o11) [.lst (dr1.map .int)] ⟨_, _, _, dr1, rfl, rfl⟩ (fun i hi δ G ⟨o7, o8, o9, dr, hδ, hG⟩ => by
      subst hδ hG
      obtain ⟨o7', o8', dr', e⟩ := b3_step (ns := ns) (o7 := o7) (o8 := o8) (o9 := some (.int (0 + (i : Int)))) (o10 := o10') (o11 := o11) G0 ha gr dr
      exact ⟨_, rfl, _, _, .inl e, _, _, _, dr', rfl, rfl⟩)
    have g3 := (for_nx (ofRA_of (rg1_of (δ := LE n A ns (some (eP arrow)) (some (eR r)) o7' o8' o9 o10' o11) (G := [.lst (dr1.map .int)]) (fa := rC (.int 4)) (j := 4) c_of (by decide) (by decide)))).trans f3
    exact ⟨_, _, .inl ((sq_nx a1).trans ((sq_nx ((if_f (ofRT_of t1)).trans rfl)).trans ((sq_nx g1).trans ((sq_nx g2).trans g3)))), _, _, _, _, _, _, _, dr2, rfl, rfl⟩
end
end K44
namespace K44
open PySem PySem.Spec PyProof.Rows L2 FL
theorem pl_ne (A : List Pq) (G : Hs) : g_ne G (.tup (A.map eP)) (.tup []) = some (.bl (!decide (A = []))) := by
  have d1 := deps_map (e := eP) (n := 1) (fun _ => Nat.le_refl _) A
  have hok : (D.tup (A.map eP)).ok = true := oks_map eP_ok A
  have hdp : (D.tup (A.map eP)).dep ≤ 60 := by show deps (A.map eP) + 1 ≤ 60; omega
  rw [ne_of' hok (by rfl) hdp (by show (1 : Nat) ≤ 60; decide)]
  congr 2
  cases A with
  | nil => rfl
  | cons p g => rfl
theorem pl_e4 {n : Nat} {A : List Pq} (G0 : Good n A []) {ns : List Int} {o3 o6 o7 o8 o9 o10 o11 : Option D} {dr : List Int} : rIf (rB (rBin g_ne (rBin ixA (rVar 2) (rC (.int 1))) (rTup rNil))) (rBin g_isA (rCallP 3 f_is_loose (rCons (rVar 4) (rCons (rBin ixA (rBin ixA (rVar 2) (rC (.int 1))) (rC (.int 0))) (rCons (rTup (rCons (rC (.str "forced")) (rCons (rTup rNil) rNil))) rNil)))) (rC (.bl false))) (rC (.bl true)) (LE n A ns o3 o6 o7 o8 o9 o10 o11) [.lst (dr.map .int)] = some (.bl true) := by
  have t : rB (rBin g_ne (rBin ixA (rVar 2) (rC (.int 1))) (rTup rNil)) (LE n A ns o3 o6 o7 o8 o9 o10 o11) [.lst (dr.map .int)] = some (!decide (A = [])) := b_of (bin_of (bin_of (var_of rfl) c_of ((ixA_tup _ _).trans (at_1 _ _ _))) (tup_of nil_of (Nat.zero_le _)) (pl_ne A _))
  cases hA : A with
  | nil =>
    subst hA
    exact (rif_f t).trans c_of
  | cons p A' =>
    have hp : p ∈ A := by rw [hA]; exact List.mem_cons_self
    rw [decide_eq_false (by rw [hA]; simp)] at t
    have i1 : rBin ixA (rBin ixA (rVar 2) (rC (.int 1))) (rC (.int 0)) (LE n A ns o3 o6 o7 o8 o9 o10 o11) [.lst (dr.map .int)] = some (eP p) := by
      refine bin_of (bin_of (var_of rfl) c_of ((ixA_tup _ _).trans (at_1 _ _ _))) c_of ((ixA_tup _ _).trans ?_)
      rw [hA]
      exact at_0 _ _
    rw [← hA]
    exact (rif_t t).trans (bin_of (looseq (fr := rTup rNil) G0 hp (row := []) (fun s h => by cases h) (by simp) (var_of rfl) i1 (tup_of nil_of (Nat.zero_le _))) c_of rfl)
end K44
namespace K44
open PySem PySem.Spec PyProof.Rows L2 FL
set_option maxHeartbeats 400000 in
theorem plain : ∀ ns : List Int, ns.length ≤ 63 → f_law [.scr ns] = some (.bl true) := by
  intro ns _
  obtain ⟨xs0, h0⟩ := draws_P ns
  have e0 : sAsg (eCallB 2 f__law_draws (eCons (ofR (rVar 0)) (eCons (ofR (rC (.int 260))) (ofRA rNil)))) (setN 1) (slots 12 [.scr ns]) [] = some (.nx, [some (.scr ns), some (.rf 0), none, none, none, none, none, none, none, none, none, none], [.lst (xs0.map .int)]) :=
    asg_of (callB_new0 (econs_of (ofR_of (var_of rfl)) (econs_of (ofR_of c_of) enil_of)) rfl rfl h0 (flat_int _)) (by show (1 : Nat) < 12; decide)
  obtain ⟨n, A, xs1, h1, G0⟩ := case_P xs0
  have eu : (eU n A).im = true := eU_im n A
  have s1 : eCons (ofR (rVar 1)) (ofRA rNil) [some (.scr ns), some (.rf 0), none, none, none, none, none, none, none, none, none, none] [.lst (xs0.map .int)] = some ([.rf 0], [.lst (xs0.map .int)]) := econs_of (ofR_of (var_of rfl)) enil_of
  have c1 : eCallB 1 f__law_case (eCons (ofR (rVar 1)) (ofRA rNil)) [some (.scr ns), some (.rf 0), none, none, none, none, none, none, none, none, none, none] [.lst (xs0.map .int)] = some (eU n A, [.lst (xs1.map .int)]) := by
    revert h1
    generalize f__law_case = F
    intro h1
    exact callB_of (k := 0) (rest := []) (o := .lst (xs0.map .int)) (o' := .lst (xs1.map .int)) (G1 := [.lst (xs0.map .int)]) s1 rfl rfl rfl (flat_int _) h1 (flat_int _) eu
  have e1 : sAsg (eCallB 1 f__law_case (eCons (ofR (rVar 1)) (ofRA rNil))) (setN 2) [some (.scr ns), some (.rf 0), none, none, none, none, none, none, none, none, none, none] [.lst (xs0.map .int)] = some (.nx, [some (.scr ns), some (.rf 0), some (eU n A), none, none, none, none, none, none, none, none, none], [.lst (xs1.map .int)]) := by
    revert c1
    generalize eCallB 1 f__law_case (eCons (ofR (rVar 1)) (ofRA rNil)) = F
    intro c1
    exact asg_of c1 (by show (2 : Nat) < 12; decide)
  have e2 : sPar 4 5 (eCons (ofR (rCallP 1 f__law_web (rCons (rVar 2) rNil))) (eCons (ofR (rTup (rCons (rC (.str "away")) (rCons (rC (.str "ring")) (rCons (rC (.str "kite")) rNil))))) (ofRA rNil))) [some (.scr ns), some (.rf 0), some (eU n A), none, none, none, none, none, none, none, none, none] [.lst (xs1.map .int)] = some (.nx, LE n A ns none none none none none none none, [.lst (xs1.map .int)]) :=
    par_of (d' := WO) (econs_of (ofR_of (callP_of (ds := [eU n A]) (cons_of (var_of rfl) nil_of) (by simp [ims, eu]) rfl (law_web_P G0))) (econs_of (ofR_of (tup_of (cons_of c_of (cons_of c_of (cons_of c_of nil_of))) (by show (3 : Nat) ≤ 1000; decide))) enil_of)) ⟨by show (4 : Nat) < 12; decide, by show (5 : Nat) < 12; decide⟩
  obtain ⟨δ', G', f1, o3, o6, o7, o8, o9, o10, o11, dr, rfl, rfl⟩ := forL_inv (set := setN 3) (b := BB) eP (BI n A ns) A (LE n A ns none none none none none none none) [.lst (xs1.map .int)] ⟨_, _, _, _, _, _, _, xs1, rfl, rfl⟩ (fun arrow ha δ G h => body_step G0 ha h)
  have e3 : sFor (ofRA (iTupR (rBin ixA (rVar 2) (rC (.int 1))))) (setN 3) BB (LE n A ns none none none none none none none) [.lst (xs1.map .int)] = _ := (for_nx (ofRA_of (itup_of (xs := A.map eP) (bin_of (var_of rfl) c_of ((ixA_tup _ _).trans (at_1 _ _ _)))))).trans f1
  have e4 := pl_e4 G0 (ns := ns) (o3 := o3) (o6 := o6) (o7 := o7) (o8 := o8) (o9 := o9) (o10 := o10) (o11 := o11) (dr := dr)
  have hb : b_law (slots 12 [.scr ns]) [] = some (.rt (.bl true), LE n A ns o3 o6 o7 o8 o9 o10 o11, [.lst (dr.map .int)]) := by
    unfold b_law
    refine (sq_nx e0).trans ?_
    refine (sq_nx e1).trans ?_
    refine (sq_nx e2).trans ?_
    refine (sq_nx e3).trans ?_
    exact ret_of (ofR_of e4)
  exact fnP_of hb rfl
end K44
namespace K44
open PySem PySem.Spec PyProof.Rows L2 FL

def fn : List He.FnD := ([fnD "is_integer" (topS 6), fnD "is_between" (topS 7), fnD "is_under" (topS 8), fnD "are_rising" (topS 9), fnD "is_arrow" (topS 13), fnD "are_pairs" (topS 14), fnD "ordered" (topS 15), fnD "is_variable" (topS 17), fnD "parents_of" (topS 18), fnD "check_plain" (topS 20), fnD "are_joined" (topS 21), fnD "vees_of" (topS 22), fnD "is_away" (topS 26), fnD "is_kite" (topS 27), fnD "check_arrow" (topS 28), fnD "given_by" (topS 29), fnD "are_reasons" (topS 30), fnD "is_loose" (topS 31), fnD "_law_draws" (topS 33), fnD "_law_take" (topS 34), fnD "_law_order" (topS 35), fnD "_law_plain" (topS 36), fnD "_law_joined" (topS 37), fnD "_law_vees" (topS 38), fnD "_law_gives" (topS 39), fnD "_law_are_reasons" (topS 40), fnD "_law_all_steps" (topS 41), fnD "_law_reasons" (topS 42), fnD "_law_web" (topS 43), fnD "_law_case" (topS 44)] : List He.FnD) ++ (([fnD "_law_orders" (topS 45), fnD "_law_strange" (topS 46), fnD "law" (topS 47), inD "Web" (initS 16 0) "Web.__init__"] : List He.FnD))
def fa : List He.Fa := ([.glo "is_integer", .keep "is_integer", .glo "is_between", .keep "is_between", .glo "is_under", .keep "is_under", .glo "are_rising", .keep "are_rising", .glo "is_arrow", .keep "is_arrow", .glo "are_pairs", .keep "are_pairs", .glo "ordered", .keep "ordered", .glo "is_variable", .keep "is_variable", .glo "parents_of", .keep "parents_of", .glo "check_plain", .keep "check_plain", .glo "are_joined", .keep "are_joined", .glo "vees_of", .keep "vees_of", .glo "is_away", .keep "is_away", .glo "is_kite", .keep "is_kite", .glo "check_arrow", .keep "check_arrow"] : List He.Fa) ++ (([.glo "given_by", .keep "given_by", .glo "are_reasons", .keep "are_reasons", .glo "is_loose", .keep "is_loose", .glo "_law_draws", .keep "_law_draws", .glo "_law_take", .keep "_law_take", .glo "_law_order", .keep "_law_order", .glo "_law_plain", .keep "_law_plain", .glo "_law_joined", .keep "_law_joined", .glo "_law_vees", .keep "_law_vees", .glo "_law_gives", .keep "_law_gives", .glo "_law_are_reasons", .keep "_law_are_reasons", .glo "_law_all_steps", .keep "_law_all_steps", .glo "_law_reasons", .keep "_law_reasons", .glo "_law_web", .keep "_law_web", .glo "_law_case", .keep "_law_case"] : List He.Fa) ++ (([.glo "_law_orders", .keep "_law_orders", .glo "_law_strange", .keep "_law_strange", .glo "law", .keep "law", .free "ValueError", .free "abs", .free "all", .free "any", .free "bool", .free "int", .free "isinstance", .free "len", .free "list", .free "max", .free "min", .free "range", .free "repr", .free "sorted", .free "str", .free "tuple", .noat "Web" "many", .noat "Web" "arrows", .noat "Web" "ties", .glo "Web", .cls "Web", .mkr "Web"] : List He.Fa)))
def cs : List (Str × D) := [("MOST_VARIABLES", c_MOST_VARIABLES), ("MOST_TIES", c_MOST_TIES), ("LENGTHS", (.fd [.inr "v", .inr "away", .inr "ring", .inr "kite"] [.int 4, .int 4, .int 4, .int 5]))]
set_option maxHeartbeats 4000000 in
theorem ev {K : PySem.W.Frag} {h : Heap} {mg : Str → Option Value} (X : K.In h) (G : h.Ns mainGlobals mg) (c : SaysF fa fn cs K) {w : World} : Ev ⟨K, w⟩ mg where
  d_is_integer := def_of X G c 0 rfl (List.mem_of_getElem? (i := 0) rfl) (List.mem_of_getElem? (i := 1) rfl) fun _ _ _ _ _ _ us hl => match us, hl with | [_], _ => rfl
  d_is_between := def_of X G c 1 rfl (List.mem_of_getElem? (i := 2) rfl) (List.mem_of_getElem? (i := 3) rfl) fun _ _ _ _ _ _ us hl => match us, hl with | [_, _, _], _ => rfl
  d_is_under := def_of X G c 2 rfl (List.mem_of_getElem? (i := 4) rfl) (List.mem_of_getElem? (i := 5) rfl) fun _ _ _ _ _ _ us hl => match us, hl with | [_, _], _ => rfl
  d_are_rising := def_of X G c 3 rfl (List.mem_of_getElem? (i := 6) rfl) (List.mem_of_getElem? (i := 7) rfl) fun _ _ _ _ _ _ us hl => match us, hl with | [_], _ => rfl
  d_is_arrow := def_of X G c 4 rfl (List.mem_of_getElem? (i := 8) rfl) (List.mem_of_getElem? (i := 9) rfl) fun _ _ _ _ _ _ us hl => match us, hl with | [_, _], _ => rfl
  d_are_pairs := def_of X G c 5 rfl (List.mem_of_getElem? (i := 10) rfl) (List.mem_of_getElem? (i := 11) rfl) fun _ _ _ _ _ _ us hl => match us, hl with | [_, _], _ => rfl
  d_ordered := def_of X G c 6 rfl (List.mem_of_getElem? (i := 12) rfl) (List.mem_of_getElem? (i := 13) rfl) fun _ _ _ _ _ _ us hl => match us, hl with | [_, _], _ => rfl
  d_is_variable := def_of X G c 7 rfl (List.mem_of_getElem? (i := 14) rfl) (List.mem_of_getElem? (i := 15) rfl) fun _ _ _ _ _ _ us hl => match us, hl with | [_, _], _ => rfl
  d_parents_of := def_of X G c 8 rfl (List.mem_of_getElem? (i := 16) rfl) (List.mem_of_getElem? (i := 17) rfl) fun _ _ _ _ _ _ us hl => match us, hl with | [_, _], _ => rfl
  d_check_plain := def_of X G c 9 rfl (List.mem_of_getElem? (i := 18) rfl) (List.mem_of_getElem? (i := 19) rfl) fun _ _ _ _ _ _ us hl => match us, hl with | [_], _ => rfl
  d_are_joined := def_of X G c 10 rfl (List.mem_of_getElem? (i := 20) rfl) (List.mem_of_getElem? (i := 21) rfl) fun _ _ _ _ _ _ us hl => match us, hl with | [_, _, _], _ => rfl
  d_vees_of := def_of X G c 11 rfl (List.mem_of_getElem? (i := 22) rfl) (List.mem_of_getElem? (i := 23) rfl) fun _ _ _ _ _ _ us hl => match us, hl with | [_], _ => rfl
  d_is_away := def_of X G c 12 rfl (List.mem_of_getElem? (i := 24) rfl) (List.mem_of_getElem? (i := 25) rfl) fun _ _ _ _ _ _ us hl => match us, hl with | [_, _, _, _], _ => rfl
  d_is_kite := def_of X G c 13 rfl (List.mem_of_getElem? (i := 26) rfl) (List.mem_of_getElem? (i := 27) rfl) fun _ _ _ _ _ _ us hl => match us, hl with | [_, _, _, _, _, _], _ => rfl
  d_check_arrow := def_of X G c 14 rfl (List.mem_of_getElem? (i := 28) rfl) (List.mem_of_getElem? (i := 29) rfl) fun _ _ _ _ _ _ us hl => match us, hl with | [_, _], _ => rfl
  d_given_by := def_of X G c 15 rfl (List.mem_of_getElem? (i := 30) rfl) (List.mem_of_getElem? (i := 31) rfl) fun _ _ _ _ _ _ us hl => match us, hl with | [_, _, _], _ => rfl
  d_are_reasons := def_of X G c 16 rfl (List.mem_of_getElem? (i := 32) rfl) (List.mem_of_getElem? (i := 33) rfl) fun _ _ _ _ _ _ us hl => match us, hl with | [_, _, _], _ => rfl
  d_is_loose := def_of X G c 17 rfl (List.mem_of_getElem? (i := 34) rfl) (List.mem_of_getElem? (i := 35) rfl) fun _ _ _ _ _ _ us hl => match us, hl with | [_, _, _], _ => rfl
  d__law_draws := def_of X G c 18 rfl (List.mem_of_getElem? (i := 36) rfl) (List.mem_of_getElem? (i := 37) rfl) fun _ _ _ _ _ _ us hl => match us, hl with | [_, _], _ => rfl
  d__law_take := def_of X G c 19 rfl (List.mem_of_getElem? (i := 38) rfl) (List.mem_of_getElem? (i := 39) rfl) fun _ _ _ _ _ _ us hl => match us, hl with | [_, _], _ => rfl
  d__law_order := def_of X G c 20 rfl (List.mem_of_getElem? (i := 40) rfl) (List.mem_of_getElem? (i := 41) rfl) fun _ _ _ _ _ _ us hl => match us, hl with | [_, _], _ => rfl
  d__law_plain := def_of X G c 21 rfl (List.mem_of_getElem? (i := 42) rfl) (List.mem_of_getElem? (i := 43) rfl) fun _ _ _ _ _ _ us hl => match us, hl with | [_, _, _], _ => rfl
  d__law_joined := def_of X G c 22 rfl (List.mem_of_getElem? (i := 44) rfl) (List.mem_of_getElem? (i := 45) rfl) fun _ _ _ _ _ _ us hl => match us, hl with | [_], _ => rfl
  d__law_vees := def_of X G c 23 rfl (List.mem_of_getElem? (i := 46) rfl) (List.mem_of_getElem? (i := 47) rfl) fun _ _ _ _ _ _ us hl => match us, hl with | [_], _ => rfl
  d__law_gives := def_of X G c 24 rfl (List.mem_of_getElem? (i := 48) rfl) (List.mem_of_getElem? (i := 49) rfl) fun _ _ _ _ _ _ us hl => match us, hl with | [_, _, _], _ => rfl
  d__law_are_reasons := def_of X G c 25 rfl (List.mem_of_getElem? (i := 50) rfl) (List.mem_of_getElem? (i := 51) rfl) fun _ _ _ _ _ _ us hl => match us, hl with | [_, _, _], _ => rfl
  d__law_all_steps := def_of X G c 26 rfl (List.mem_of_getElem? (i := 52) rfl) (List.mem_of_getElem? (i := 53) rfl) fun _ _ _ _ _ _ us hl => match us, hl with | [_], _ => rfl
  d__law_reasons := def_of X G c 27 rfl (List.mem_of_getElem? (i := 54) rfl) (List.mem_of_getElem? (i := 55) rfl) fun _ _ _ _ _ _ us hl => match us, hl with | [_, _, _], _ => rfl
  d__law_web := def_of X G c 28 rfl (List.mem_of_getElem? (i := 56) rfl) (List.mem_of_getElem? (i := 57) rfl) fun _ _ _ _ _ _ us hl => match us, hl with | [_], _ => rfl
  d__law_case := def_of X G c 29 rfl (List.mem_of_getElem? (i := 58) rfl) (List.mem_of_getElem? (i := 59) rfl) fun _ _ _ _ _ _ us hl => match us, hl with | [_], _ => rfl
  d__law_orders := def_of X G c 30 rfl (List.mem_of_getElem? (i := 60) rfl) (List.mem_of_getElem? (i := 61) rfl) fun _ _ _ _ _ _ us hl => match us, hl with | [_, _], _ => rfl
  d__law_strange := def_of X G c 31 rfl (List.mem_of_getElem? (i := 62) rfl) (List.mem_of_getElem? (i := 63) rfl) fun _ _ _ _ _ _ us hl => match us, hl with | [_, _], _ => rfl
  d_law := def_of X G c 32 rfl (List.mem_of_getElem? (i := 64) rfl) (List.mem_of_getElem? (i := 65) rfl) fun _ _ _ _ _ _ us hl => match us, hl with | [_], _ => rfl
  n_ValueError := He.free_ok X G (c.fact (List.mem_of_getElem? (i := 66) rfl))
  n_abs := He.free_ok X G (c.fact (List.mem_of_getElem? (i := 67) rfl))
  n_all := He.free_ok X G (c.fact (List.mem_of_getElem? (i := 68) rfl))
  n_any := He.free_ok X G (c.fact (List.mem_of_getElem? (i := 69) rfl))
  n_bool := He.free_ok X G (c.fact (List.mem_of_getElem? (i := 70) rfl))
  n_int := He.free_ok X G (c.fact (List.mem_of_getElem? (i := 71) rfl))
  n_isinstance := He.free_ok X G (c.fact (List.mem_of_getElem? (i := 72) rfl))
  n_len := He.free_ok X G (c.fact (List.mem_of_getElem? (i := 73) rfl))
  n_list := He.free_ok X G (c.fact (List.mem_of_getElem? (i := 74) rfl))
  n_max := He.free_ok X G (c.fact (List.mem_of_getElem? (i := 75) rfl))
  n_min := He.free_ok X G (c.fact (List.mem_of_getElem? (i := 76) rfl))
  n_range := He.free_ok X G (c.fact (List.mem_of_getElem? (i := 77) rfl))
  n_repr := He.free_ok X G (c.fact (List.mem_of_getElem? (i := 78) rfl))
  n_sorted := He.free_ok X G (c.fact (List.mem_of_getElem? (i := 79) rfl))
  n_str := He.free_ok X G (c.fact (List.mem_of_getElem? (i := 80) rfl))
  n_tuple := He.free_ok X G (c.fact (List.mem_of_getElem? (i := 81) rfl))
  k_LENGTHS := kd_ok X G (c.cst (List.mem_of_getElem? (i := 2) rfl))
  k_MOST_VARIABLES := cst_ok X G (c.cst (List.mem_of_getElem? (i := 0) rfl))
  k_MOST_TIES := cst_ok X G (c.cst (List.mem_of_getElem? (i := 1) rfl))
  cls_Web := cls_of X G c (List.mem_of_getElem? (i := 85) rfl) (List.mem_of_getElem? (i := 86) rfl) (fun f hf => by
    simp only [List.mem_cons, List.mem_nil_iff, or_false] at hf
    rcases hf with rfl | rfl | rfl
    · exact (List.mem_of_getElem? (i := 82) rfl)
    · exact (List.mem_of_getElem? (i := 83) rfl)
    · exact (List.mem_of_getElem? (i := 84) rfl)) (by simp)
  mk_Web := mk_of c (List.mem_of_getElem? (i := 87) rfl)
  i_Web := init_of c 33 rfl fun _ _ _ _ _ _ us hl => match us, hl with | [_, _, _, _], _ => rfl
abbrev Rw : PySem.W.OpenRow := PySem.W.OpenLaw.row PySem.Challenge.rw_setnotseen_k44_whole_steps_of_reasons_on
abbrev hk : PySem.W.Hook := hookF 5 fa fn cs
def ob (s : PySem.W.SharedT) : He.Al := obsFG 5 fa fn cs (HandSHeadRun.getT s)
theorem ob_eq (s : PySem.W.SharedT) : ob s = hk.obs s.abs := obsFG_eq (HandSHeadRun.getT_eq s)
def loose : List Str := (["ShareError", "BadWeb", "NoArrow", "NotPlain", "is_integer", "is_between", "is_under", "are_rising", "MOST_VARIABLES", "MOST_TIES", "is_arrow", "are_pairs", "ordered", "Web", "is_variable", "parents_of", "check_plain", "are_joined", "vees_of", "first_unlike", "LENGTHS", "is_away", "is_kite", "check_arrow", "given_by", "are_reasons", "is_loose", "_law_draws", "_law_take", "_law_order"] : List Str) ++ ((["_law_plain", "_law_joined", "_law_vees", "_law_gives", "_law_are_reasons", "_law_all_steps", "_law_reasons", "_law_web", "_law_case", "_law_orders", "_law_strange"] : List Str))
/-- a world whose one row (asked where a text is hashed at the top) is told apart -/
def fTxt (b : Bool) (f : String → Bool) : String → Bool := fun r => if r = "special-get-raises" then b else f r
def wTxt (b : Bool) (w : World) : World := ⟨w.draws, { w.params with followText := fTxt b w.params.followText }⟩
theorem wTxt_eq (w : World) : wTxt (w.params.followText "special-get-raises") w = w := by
  have e : fTxt (w.params.followText "special-get-raises") w.params.followText = w.params.followText := by
    funext r
    unfold fTxt
    split
    · rename_i h
      rw [h]
    · rfl
  unfold wTxt
  rw [e]
set_option maxHeartbeats 0 in
theorem run_f (w : World) : HandSHeadRun.RunEq Rw (PySem.W.view Rw.prog [47]) hk ob 8000 loose (wTxt false w) := by
  intro os
  kernel_rfl
set_option maxHeartbeats 0 in
theorem run_t (w : World) : HandSHeadRun.RunEq Rw (PySem.W.view Rw.prog [47]) hk ob 8000 loose (wTxt true w) := by
  intro os
  kernel_rfl
theorem run (w : World) : HandSHeadRun.RunEq Rw (PySem.W.view Rw.prog [47]) hk ob 8000 loose w := by
  rw [← wTxt_eq w]
  cases w.params.followText "special-get-raises"
  · exact run_f w
  · exact run_t w
/-- the end, from the plain law -/
theorem facts (plain : ∀ ns : List Int, ns.length ≤ 63 → f_law [.scr ns] = some (.bl true)) {P : Program} {w : World} {K : PySem.W.Frag} {h : Heap} {mg : Str → Option Value} {f : Addr} (X : K.In h) (G : h.Ns mainGlobals mg) (hfa : mg ("law" : Str) = some (.ref f)) (c : SaysF fa fn cs K) :
    ∃ fd : FuncData, (∀ (s : Shared) (v : Value), BindsTo s fd ⟨[v], []⟩ [("script", v)]) ∧ (∀ (H : Hp) (a : Addr) (ns : List Int), ns.length ≤ 63 → Only H → SqL K H a (ns.map V.int) → spP ⟨K, w⟩ 1 f_law [.ref a] H (fun v _ => v = .bl true) fun _ _ _ => False) ∧
      ∀ base : Heap, K.In base → base.Ns mainGlobals mg → FnG P w K mg base C8.CX0 8 f fd ["script"] (spP ⟨K, w⟩ 1 f_law) := by
  obtain ⟨oc, od, osl, kV, doc, pm, an, cdv, ct, e1, e2⟩ := c.def_ 32 (d := fnD "law" (topS 47)) rfl
  have e := hfa.symm.trans (He.glo_ok X G (c.fact (List.mem_of_getElem? (i := 64) rfl)))
  cases e
  refine ⟨_, fun s v => .of_eq rfl, fun H a ns hl hO hS => ?_, fun base _ _ => k_law (ev X G c) ⟨⟨oc, od, .none, kV, doc, pm, an, cdv, ct, osl, rfl, e1, e2⟩, hfa, He.keep_ok (c.fact (List.mem_of_getElem? (i := 65) rfl))⟩⟩
  refine ⟨rfl, [.scr ns], .bl true, Rs.cons ?_ Rs.nil, plain ns hl, fun v H' _ r => ?_⟩
  · simp only [R]
    refine ⟨a, rfl, ?_⟩
    rcases hS with (hS | hS) | hS
    · rcases hO a with z | ⟨o, xs, z⟩
      · rw [z] at hS
        cases hS
      · rw [z] at hS
        cases hS
    · exact .inl hS
    · exact .inr hS
  · rcases r with r | ⟨ds, p, vs, e, _⟩
    · simpa only [R] using r
    · cases e
end K44
open PySem PySem.W PySem.Calls PyProof.Rows
set_option maxHeartbeats 0 in
theorem PySem.Challenge.cw_setnotseen_k44_whole_steps_of_reasons_on_holds : PySem.Challenge.rw_setnotseen_k44_whole_steps_of_reasons_on.Holds := by
  w_on; o_law
  refine HandSHeadRun.head_any (r := OpenLaw.row PySem.Challenge.rw_setnotseen_k44_whole_steps_of_reasons_on) (q := view (OpenLaw.row PySem.Challenge.rw_setnotseen_k44_whole_steps_of_reasons_on).prog [47]) (H := K44.hk) (ob := K44.ob) (M := 8000) (loose := K44.loose) (d := HandSHeadRun.topDef (OpenLaw.row PySem.Challenge.rw_setnotseen_k44_whole_steps_of_reasons_on).prog 47) (kwd := []) K44.ob_eq
    (by kernel_rfl) (fun s => by kernel_rfl) K44.run (by kernel_rfl) (by kernel_rfl) (by kernel_rfl) (by rfl) (by first | assumption | decide +kernel) (by decide +kernel) ⟨rfl, rfl, rfl, rfl, rfl, by decide +kernel⟩ ?hw ?hc
  case hw => w_witness2
  case hc =>
    refine L2.walk_ofEG (l := PySem.Challenge.rw_setnotseen_k44_whole_steps_of_reasons_on) (n := 63) (k := 8) (x := "script") (CX := C8.CX0) rfl (by decide) (by kernel_rfl) ⟨rfl, by decide, by decide⟩ ?F (fun _ _ _ _ z => z)
    intro w mg fa h Y G hmg0
    obtain ⟨K, KX, c⟩ := Y
    have hmg : mg ("law" : PySem.Str) = some (.ref fa) := by
      have e : (HandSHeadRun.topDef (OpenLaw.row PySem.Challenge.rw_setnotseen_k44_whole_steps_of_reasons_on).prog 47).name = ("law" : PySem.Str) := by kernel_rfl
      rw [← e]
      exact hmg0
    obtain ⟨fd, hb, hs, hF⟩ := K44.facts K44.plain (P := (PySem.Challenge.rw_setnotseen_k44_whole_steps_of_reasons_on).prog) (w := w) KX G hmg c
    exact ⟨K, fd, _, KX, hb, hs, hF⟩
