import PyProof.Rows.All
import HandS.EndBits
import HandS.CallSlots
import HandS.ExcOwn
import HandS.WordsExc
import PyProof.ReprRoads
import HandS.Iter
import HandS.TupAny
import HandS.List
import Wide.All
import OpenK.AllK
import Wide.FinOn
import HandS.ForMost
import HandS.ForExc
import HandS.Wide
import HandS.Flow
import HandS.Zip
import KE.DataEq
import HandS.Lambda
import HandS.IsInst
import HandS.EndTab
import HandS.SortKw
import PyProof.MinMaxWalk
import PyProof.WalkInts
import HandS.Text
import HandS.TupLe
import HandS.More
import HandS.DictEq
import HandS.DeepEq
import KE.LtSeq
import KE.LtData
import HandS.SortOrd
import HandS.SortRule
import HandS.RevRange
import HandS.Rev
import HandS.Deep
import HandS.Replace
import KE.GoesMore
import HandS.ClsMeth
import HandS.Conv
import HandS.Codes
import KE.KExcIs
import HandS.ExcIs
import HandS.ExcField
import HandS.TryOnly
import PyProof.StrBlock2
import PyProof.Draws
import PyProof.EnumMake
import HandS.ExcInit
import HandS.ReplaceLit
import HandS.StrMore
import PyProof.StrLawsReplace
import KE.SortKeyHeap
import KE.DataFind
import KE.SortData
import PySem.Challenge.RW_selfsay_k40_search_refused
set_option Elab.async false
set_option linter.all false
set_option maxRecDepth 100000
set_option maxHeartbeats 4000000
/-! Pl0: promises of defs that may count on no repr being under way, and on one frame for one call. -/
namespace L2
open PySem PySem.Spec PyProof.Rows
/-- room for k calls within one another; no repr is under way -/
structure RoomW (k : Nat) (A : Around) : Prop where
  gd : A.guards = some []
  dp : A.depth + k + 8 < recursionLimit
  un : A.units + 4 * k + 220 < cLine
structure RoomG (k : Nat) (A : Around) : Prop where
  hd : A.handled = none
  gd : A.guards = some []
  dp : A.depth + k + 8 < recursionLimit
  un : A.units + 4 * k + 220 < cLine
theorem RoomG.w {k : Nat} {A : Around} (r : RoomG k A) : RoomW k A := ⟨r.gd, r.dp, r.un⟩
theorem RoomG.mono {j k : Nat} {A : Around} (r : RoomG k A) (h : j ≤ k) : RoomG j A := ⟨r.hd, r.gd, by have := r.dp; omega, by have := r.un; omega⟩
theorem RoomG.deeper {k : Nat} {A : Around} (r : RoomG (k + 1) A) (env : Env) : RoomG k (A.deeper env) :=
  ⟨r.hd, r.gd, by have := r.dp; show A.depth + 1 + k + 8 < _; omega, by have := r.un; show A.units + 3 + 4 * k + 220 < _; omega⟩
theorem make_guards {A : Around} {C : Addr} {us : List Value} {kw : List (Str × Value)} : (A.under (.builtin "type.__call__" ⟨.ref C :: us, kw⟩)).guards = A.guards := by
  first | rfl | simp [Around.under, Code.guards, Code.isGuard, guardIds, pushGuards]
theorem RoomG.make {k : Nat} {A : Around} (r : RoomG (k + 1) A) (C : Addr) (us : List Value) (kw : List (Str × Value)) : RoomG k (A.under (.builtin "type.__call__" ⟨.ref C :: us, kw⟩)) :=
  ⟨r.hd, by rw [make_guards]; exact r.gd, by have := r.dp; rw [make_depth]; omega, by have := r.un; rw [make_units]; omega⟩
theorem RoomG.depth {k : Nat} {A : Around} (r : RoomG k A) : A.depth < recursionLimit := by have := r.dp; omega
theorem RoomG.units {k : Nat} {A : Around} (r : RoomG k A) : A.units + 64 < cLine := by have := r.un; omega
/-- room in the library's own sense -/
theorem RoomG.room {n k : Nat} {A : Around} (r : RoomG n A) (h : 4 * k ≤ n) : Room k A := ⟨r.hd, by have := r.dp; omega, by have := r.un; omega⟩
structure FnG (P : Program) (w : World) (K : PySem.W.Frag) (mg : Str → Option Value) (base : Heap) (CX : CXT) (k : Nat) (f : Addr) (fd : FuncData) (ps : List Str) (sp : Sp) : Prop where
  len : ∀ vs H Q E, sp vs H Q E → vs.length = ps.length
  run : ∀ (A : Around) (outer : List Env) (s : Shared) (H : Hp) (args : Args) (us : List Value) (vs : List V) (Q : VK) (E : XK), RoomG k A → Env0 P w K mg base A outer s H → BindsTo s fd args (ps.zip us) → Vals vs us → sp vs H Q E →
    codeAny (model P w) A (.call (.ref f) args) (CR CX outer P w H s Q E) s
theorem FnG.mono {P : Program} {w : World} {K : PySem.W.Frag} {mg : Str → Option Value} {base : Heap} {CX : CXT} {j k : Nat} {f : Addr} {fd : FuncData} {ps : List Str} {sp : Sp} (F : FnG P w K mg base CX j f fd ps sp) (h : j ≤ k) :
    FnG P w K mg base CX k f fd ps sp := ⟨F.len, fun A outer s H args us vs Q E hr => F.run A outer s H args us vs Q E (hr.mono h)⟩
theorem FnG.imp {P : Program} {w : World} {K : PySem.W.Frag} {mg : Str → Option Value} {base : Heap} {CX : CXT} {k : Nat} {f : Addr} {fd : FuncData} {ps : List Str} {sp sp' : Sp} (F : FnG P w K mg base CX k f fd ps sp)
    (h : ∀ vs H Q E, sp' vs H Q E → sp vs H Q E) : FnG P w K mg base CX k f fd ps sp' :=
  ⟨fun vs H Q E q => F.len vs H Q E (h _ _ _ _ q), fun A outer s H args us vs Q E hr he hb hv hs => F.run A outer s H args us vs Q E hr he hb hv (h _ _ _ _ hs)⟩
section
variable {X : Cx} {CX : CXT} {k : Nat} {f C : Addr} {fd : FuncData} {ps : List Str} {sp : Sp} {dvs : List V} {ds : List Value} {E : XK} {x m : Str} {p pos apos : Pos} {e o : Expr} {es : List Expr} {ta : TE} {t : TA}
theorem run_fnG {pins : List (Addr × Obj)} {σ : St} {H : Hp} {s : Shared} {Q : VK} {us : List Value} {vs : List V} (F : FnG X.prog X.w X.K X.mg X.base CX k f fd ps sp) (hr : RoomG k X.A) (hb : Binds X.K fd ps ds) (hd : Vals dvs ds) (hx : Passes CX X E)
    (I : Inv X pins σ H s) (r : Vals vs us) (h : sp (vs ++ dvs) H Q E) : wpAny (model X.prog X.w) X.A (call (.ref f) us) (EP X pins σ Q) X.xe s := by
  have r2 : Vals (vs ++ dvs) (us ++ ds) := r.append hd
  have hl : (us ++ ds).length = ps.length := by rw [← r2.length]; exact F.len _ _ _ _ h
  refine wpAny_call (codeAny_mono (F.run X.A X.stack s H ⟨us, []⟩ (us ++ ds) (vs ++ dvs) Q E hr I.env0 (hb s us I.kIn hl) r2 h) fun r s' hq => ?_)
  cases r with
  | error e => exact hx pins σ H s e s' I hq
  | ok fl =>
    cases fl with
    | ret u => exact I.after hq
    | next => exact False.elim hq
    | brk => exact False.elim hq
    | cont => exact False.elim hq

theorem pe_methG {pl : Sem Bool} (he : PE X o ta) (c : Cls X.K C) (hm : Meth X.K C m f) (F : FnG X.prog X.w X.K X.mg X.base CX k f fd ps sp) (hr : RoomG k X.A) (hb : Binds X.K fd ps ds) (hd : Vals dvs ds) (hx : Passes CX X E) (ha : PA X (e :: es) t)
    (hst : starEach (e :: es) X.env = (false, eval e X.env) :: starEach es X.env := by rfl) (hpl : (backTo pos (starEach es X.env)).any (·.1) = false := by rfl)
    (ht : eval (.Call (.Attribute o m apos) (e :: es) [] pos) X.env = (do
      let ov ← eval o X.env
      standAt apos.atName
      let (f, first) ← holding [ov] (getMethod ov m pl)
      callWith pos f first (backTo pos (starEach (e :: es) X.env)) (backToKw pos (keywordEach [] X.env))) := by rfl) :
    PE X (.Call (.Attribute o m apos) (e :: es) [] pos) (tMeth C m sp dvs E ta t) := by
  refine ⟨fun pins s σ H Q I h => ?_⟩
  refine PySem.W.methodCall_KW (pl := pl) (thn (he.run pins s σ H _ I h) fun u s1 ⟨x, H1, I1, rx, a, dx, fs, ex, ea, l, q⟩ => ?_) ht
  subst ex
  obtain rfl : u = Value.ref a := rx
  refine getmeth_ok I1 ea c hm l ?_
  refine PySem.W.callWith_K (first := [.ref a]) (h₀ := X.base) I.ok.mod.kin hm.kp (thn (ha.run pos pins s1 σ H1 _ I1 q) fun us s2 ⟨vs, H2, I2, r, q2⟩ => ⟨I2.kIn, ?_⟩) hst hpl
  exact run_fnG (us := .ref a :: us) (vs := .ref a :: vs) F hr hb hd hx I2 (.cons rfl r) q2
theorem run_makeG {pins : List (Addr × Obj)} {σ : St} {H : Hp} {s : Shared} {Q : VK} {us : List Value} {vs : List V} (M : Mk X.K C f) (F : FnG X.prog X.w X.K X.mg X.base CX k f fd ps sp) (hr : RoomG (k + 1) X.A) (hb : Binds X.K fd ps ds) (hd : Vals dvs ds)
    (hx : Passes CX X E) (I : Inv X pins σ H s) (r : Vals vs us)
    (h : ∀ x dx, H x = none → H dx = none → dx ≠ x → sp (.ref x :: (vs ++ dvs)) (upd (upd H dx (.own x)) x (.ins C dx [])) (fun v H2 => v = .non ∧ Q (.ref x) H2) E) :
    wpAny (model X.prog X.w) X.A (call (.ref C) us) (EP X pins σ Q) X.xe s := by
  have hq := h (s.heap.objs.size + 1) s.heap.objs.size (I.hok.fresh (Nat.le_succ _)) (I.hok.fresh (Nat.le_refl _)) (Nat.ne_of_lt (Nat.lt_succ_self _))
  have I2 := Inv.made (C := C) I
  have r2 : Vals (V.ref (s.heap.objs.size + 1) :: (vs ++ dvs)) (Value.ref (s.heap.objs.size + 1) :: (us ++ ds)) := .cons rfl (r.append hd)
  have hl : (Value.ref (s.heap.objs.size + 1) :: us ++ ds).length = ps.length := by
    have e := r2.length
    rw [F.len _ _ _ _ hq] at e
    exact e.symm
  refine wpAny_call (make_map (f := f) I.kIn M.makes M.init (beq_iff_eq.mp M.fn) (codeAny_mono (F.run _ X.stack _ _ ⟨Value.ref (s.heap.objs.size + 1) :: us, []⟩ (Value.ref (s.heap.objs.size + 1) :: (us ++ ds)) _ _ E (hr.make C us [])
    (I2.env0.make C us []) (hb _ (Value.ref (s.heap.objs.size + 1) :: us) I2.kIn hl) r2 hq) fun r s' hq' => ?_))
  cases r with
  | error e => exact hx pins σ _ _ e s' I2 hq'
  | ok fl =>
    cases fl with
    | ret u =>
      obtain ⟨v, H', I3, rv, ev, q3⟩ := I2.after hq'
      subst ev
      exact ⟨rv, ⟨V.ref (s.heap.objs.size + 1), H', I3, rfl, q3⟩⟩
    | next => exact False.elim hq'
    | brk => exact False.elim hq'
    | cont => exact False.elim hq'
theorem pe_make0G (M : Mk X.K C f) (F : FnG X.prog X.w X.K X.mg X.base CX k f fd ps sp) (hr : RoomG (k + 1) X.A) (hg : Gl X x) (hm : X.mg x = some (.ref C)) (hb : Binds X.K fd ps ds) (hd : Vals dvs ds) (hx : Passes CX X E)
    (hdb : (x == ("__debug__" : Str)) = false := by decide) : PE X (.Call (.Name x p) [] [] pos) (tMake C sp dvs E tNil) := by
  refine ⟨fun pins s σ H Q I h => ?_⟩
  refine wpAny_Call_Name_kw (ld_glob I hg hm ?_ hdb)
  exact PySem.W.callWith_K0 I.kIn M.kp (run_makeG (us := []) M F hr hb hd hx I .nil h)
end
section
variable {X : Cx} {CX : CXT} {k : Nat} {f : Addr} {fd : FuncData} {ps : List Str} {sp : Sp} {dvs : List V} {ds : List Value} {E : St → XK} {x : Str} {p pos : Pos} {e : Expr} {es : List Expr} {t : TA}
theorem run_fnSDG {pins : List (Addr × Obj)} {σ : St} {H : Hp} {s : Shared} {Q : VK} {us : List Value} {vs : List V} (F : FnG X.prog X.w X.K X.mg X.base CX k f fd ps sp) (hr : RoomG k X.A) (hb : Binds X.K fd ps ds) (hd : Vals dvs ds) (hx : PassesAt CX X σ (E σ))
    (I : Inv X pins σ H s) (r : Vals vs us) (h : sp (vs ++ dvs) H Q (E σ)) : wpAny (model X.prog X.w) X.A (call (.ref f) us) (EP X pins σ Q) X.xe s := by
  have r2 : Vals (vs ++ dvs) (us ++ ds) := r.append hd
  have hl : (us ++ ds).length = ps.length := by rw [← r2.length]; exact F.len _ _ _ _ h
  refine wpAny_call (codeAny_mono (F.run X.A X.stack s H ⟨us, []⟩ (us ++ ds) (vs ++ dvs) Q (E σ) hr I.env0 (hb s us I.kIn hl) r2 h) fun r s' hq => ?_)
  cases r with
  | error e => exact hx pins H s e s' I hq
  | ok fl =>
    cases fl with
    | ret u => exact I.after hq
    | next => exact False.elim hq
    | brk => exact False.elim hq
    | cont => exact False.elim hq
theorem pe_callSDG (F : FnG X.prog X.w X.K X.mg X.base CX k f fd ps sp) (hr : RoomG k X.A) (hg : Gl X x) (hm : X.mg x = some (.ref f)) (hk : PySem.W.keepIn X.K (.ref f) = true) (hb : Binds X.K fd ps ds) (hd : Vals dvs ds) (hx : ∀ σ, PassesAt CX X σ (E σ))
    (ha : PA X (e :: es) t) (hdb : (x == ("__debug__" : Str)) = false := by decide) (he : starEach (e :: es) X.env = (false, eval e X.env) :: starEach es X.env := by rfl) (hpl : (backTo pos (starEach es X.env)).any (·.1) = false := by rfl) :
    PE X (.Call (.Name x p) (e :: es) [] pos) (tCallSD sp dvs E t) := by
  refine ⟨fun pins s σ H Q I h => ?_⟩
  refine wpAny_Call_Name_kw (ld_glob I hg hm ?_ hdb)
  refine PySem.W.callWith_K (h₀ := X.base) I.ok.mod.kin hk (thn (ha.run pos pins s σ H _ I h) fun us s1 ⟨vs, H1, I1, r, q⟩ => ⟨I1.kIn, ?_⟩) he hpl
  exact run_fnSDG F hr hb hd (hx σ) I1 r q
end
theorem fn_ofG {CX : CXT} {P : Program} {w : World} {K : PySem.W.Frag} {mg : Str → Option Value} {base : Heap} {k : Nat} {f : Addr} {name qual : Str} {params : Arguments} {body : List Stmt} {scope : Scope} {dV kV doc pm cdv ct oc : Value} {an od : Option Addr}
    {osl : Array (Option Value)} {N ps : List Str} {sp : Sp} (lk : K.lookup f = some ⟨oc, od, .func (PySem.W.fnOf name qual params body scope dV kV doc pm an cdv ct), osl⟩) (hcd : PySem.W.codeIn K cdv qual = true) (S : FnScope N ps scope)
    (len : ∀ vs H Q E, sp vs H Q E → vs.length = ps.length)
    (hbody : ∀ (A : Around) (outer : List Env) (s : Shared) (H : Hp) (vs : List V) (Q : VK) (E : XK), RoomG k (A.deeper (envOfC qual scope s.heap.objs.size f cdv)) → sp vs H Q E →
      ∃ t, PSs (cxOf CX P w K mg base N qual scope f cdv A outer s H E) body t ∧ t { nx := fun _ H' => Q .non H', rt := Q } (start N vs) H) :
    FnG P w K mg base CX (k + 1) f (PySem.W.fnOf name qual params body scope dV kV doc pm an cdv ct) ps sp := by
  refine ⟨len, fun A outer s H args us vs Q E hr e0 hb r hsp => ?_⟩
  have hl := len _ _ _ _ hsp
  have KX : K.In s.heap := e0.mod.kin.keeps fun b o e => (e0.bs b o e).1
  have lim : s.heap.NoLimit := e0.mod.nolimit.keeps fun b o e => (e0.bs b o e).1
  have hkind : ∀ y ∈ ps.zip us, scope.names.lookup y.1 = some .local ∨ (scope.names.lookup y.1 = some .cell ∧ ((cellsFrom (s.heap.objs.size + 1) scope.names []).lookup y.1).isSome = true) := fun ⟨n, v⟩ hy => by
    rcases S.par n (List.of_mem_zip hy).1 with q | q
    · exact .inl q
    · exact .inr ⟨q, PySem.W.cellsFrom_some _ _ _ (.inl q)⟩
  refine codeAny_call_function hr.depth (KX _ _ lk) rfl S.co S.gen rfl (PySem.W.codeRec_of KX hcd) (hb _ _ _ _ ?_)
  refine wpAny_newFunctionEnv_cells S.kind hkind fun env he s1 x => ?_
  subst he
  refine ⟨lim.keeps x.toInCall.keep, codeAny_func ?_⟩
  obtain ⟨t, ht, hq⟩ := hbody A outer s H vs Q E (hr.deeper _) hsp
  have I : Inv (cxOf CX P w K mg base N qual scope f cdv A outer s H E) [] (start N vs) H s1 := inv_start S hr.hd e0 hl r x
  refine wpAny_mono (ht.run [] s1 (start N vs) H _ I hq) (fun fl s' hs => ?_) fun e s' hs => hs
  have fin : ∀ {σ' : St} {H' : Hp} {v : V} {u : Value}, Inv (cxOf CX P w K mg base N qual scope f cdv A outer s H E) [] σ' H' s' → RelV v u → Q v H' → CE outer P w H s Q u s' :=
    fun {σ' H' v u} J rv q => ⟨v, H', J.os, J.bare, J.base, J.hok, rv, q⟩
  cases fl with
  | ret u =>
    obtain ⟨v, σ', H', J, rv, q⟩ := hs
    exact fin J rv q
  | next =>
    obtain ⟨σ', H', J, q⟩ := hs
    exact fin (v := V.non) (u := Value.none) J rfl q
  | brk =>
    obtain ⟨_, _, _, q⟩ := hs
    exact False.elim q
  | cont =>
    obtain ⟨_, _, _, q⟩ := hs
    exact False.elim q
section
variable {P : Program} {w : World} {K : PySem.W.Frag} {mg : Str → Option Value} {base : Heap}
theorem Fun.okXG {x qual : Str} {st : Stmt} {f : Addr} {fd : FuncData} {N ps : List Str} {k : Nat} {sp : Sp} (F : Fun K x qual st f fd) (S : FnScope N ps (defScope st)) (len : ∀ vs H Q E, sp vs H Q E → vs.length = ps.length)
    (hbody : ∀ (cdv : Value) (A : Around) (outer : List Env) (s : Shared) (H : Hp) (vs : List V) (Q : VK) (E : XK), fd.code = cdv → RoomG k (A.deeper (envOfC qual (defScope st) s.heap.objs.size f cdv)) → sp vs H Q E →
      ∃ t, PSs (cxOf (L2.CX P w) P w K mg base N qual (defScope st) f cdv A outer s H E) (defBody st) t ∧ t { nx := fun _ H' => Q .non H', rt := Q } (start N vs) H) : FnG P w K mg base (L2.CX P w) (k + 1) f fd ps sp := by
  obtain ⟨oc, od, kV, doc, pm, an, cdv, ct, osl, rfl, lk, hcd⟩ := F.ex
  exact fn_ofG lk hcd S len fun A outer s H vs Q E hr hsp => hbody cdv A outer s H vs Q E rfl hr hsp
end
theorem law_callG {P : Program} {w : World} {K : PySem.W.Frag} {mg mb : Str → Option Value} {CX : CXT} {k : Nat} {fa a : Addr} {fd : FuncData} {x : Str} {sp : Sp} {s₁ : Shared} {vs : List Value} {ns : List Int}
    (KX : K.In s₁.heap) (hns : s₁.heap.Ns mainGlobals mg) (hb : s₁.heap.Ns builtinsNs mb) (hbb : ∀ x : Str, x ≠ "__name__" → mb x = bootBuiltins x) (hlim : s₁.heap.NoLimit) (hg : s₁.gens = #[])
    (ha : s₁.heap.get? a = some { cls := .type "list", data := .seq vs.toArray }) (hi : IntsAre vs ns) (hl : ns.length ≤ sizeLine) (hr : RoomG k callerA)
    (F : ∀ base : Heap, K.In base → base.Ns mainGlobals mg → FnG P w K mg base CX k fa fd [x] sp) (hbind : ∀ (s : Shared) (u : Value), BindsTo s fd ⟨[u], []⟩ [(x, u)])
    (hsp : ∀ H : Hp, Only H → SqL K H a (ns.map V.int) → sp [.ref a] H (fun v _ => v = .bl true) fun _ _ _ => False)
    (hCX : ∀ H e s', CX [] H s₁ (fun _ _ _ => False) e s' → False) :
    codeAny (model P w) callerA (.call (.ref fa) ⟨[.ref a], []⟩) (fun r s' => r = .ok (.ret (.bool true)) ∧ OldK s₁.heap s'.heap ∧ s'.os = s₁.os ∧ AllBare s'.gens) s₁ := by
  have rv := vals_ints hi
  have lenV := hi.length
  -- from an abstract heap in which nothing but the script may be tracked
  have core : ∀ H : Hp, Only H → SqL K H a (ns.map V.int) → HOk P w H s₁.heap → (∀ b, H b ≠ none → b = a) → (H a ≠ none → K.lookup a = none) →
      codeAny (model P w) callerA (.call (.ref fa) ⟨[.ref a], []⟩) (fun r s' => r = .ok (.ret (.bool true)) ∧ OldK s₁.heap s'.heap ∧ s'.os = s₁.os ∧ AllBare s'.gens) s₁ := by
    intro H hO hS hok hA hK
    have base_of : ∀ {b : Addr} {o : Obj}, s₁.heap.get? b = some o → H b = none → (hidT s₁.heap H).get? b = some o := fun e n => hidT_get e n
    have noA : ∀ {b : Addr} {o : Obj} {es : Array DictEntry} {ep : Nat}, s₁.heap.get? b = some o → o.data = .dict es ep → H b = none := fun {b o es ep} e d => by
      cases q : H b with
      | none => rfl
      | some u =>
        have e' : b = a := hA b (by rw [q]; simp)
        subst e'
        rw [ha] at e; cases e
        have d' : Data.seq vs.toArray _ = Data.dict es ep := d
        cases d'
    have nsK : ∀ {b : Addr} {m : Str → Option Value}, s₁.heap.Ns b m → (hidT s₁.heap H).Ns b m := fun {b m} ⟨o, es, ep, e, d, r⟩ => ⟨o, es, ep, base_of e (noA e d), d, r⟩
    have hKb : K.In (hidT s₁.heap H) := fun b o e => base_of (KX b o e) (by
      cases q : H b with
      | none => rfl
      | some u =>
        have e' : b = a := hA b (by rw [q]; simp)
        subst e'
        rw [hK (by rw [q]; simp)] at e; cases e)
    have hM : Mod K mg (hidT s₁.heap H) := ⟨hKb, nsK hns, ⟨mb, nsK hb, hbb⟩, let ⟨mc, h1, h2⟩ := hlim; ⟨mc, nsK h1, h2⟩⟩
    have e0 : Env0 P w K mg (hidT s₁.heap H) callerA [] s₁ H := ⟨rfl, hM, fun b o e => of_hidT e, Nat.le_of_eq (hidT_size _ _), trivial, fun b hb => absurd (show b ∈ ([] : List Addr) from hb) (by simp), hok, .of_eq hg⟩
    refine codeAny_mono ((F _ hKb (nsK hns)).run callerA [] s₁ H ⟨[.ref a], []⟩ [.ref a] [.ref a] _ _ hr e0 (hbind s₁ (.ref a)) (.cons rfl .nil) (hsp H hO hS)) fun r s' h => ?_
    cases r with
    | error e => exact (hCX H e s' h).elim
    | ok fl =>
      cases fl with
      | next => exact False.elim h
      | brk => exact False.elim h
      | cont => exact False.elim h
      | ret u =>
        obtain ⟨v, H', os, bare, un, hok', r', q⟩ := h
        have q' : v = .bl true := q
        subst q'
        obtain rfl : u = Value.bool true := r'
        refine ⟨rfl, OldK.of_keep fun b o e => ?_, os, bare⟩
        cases q : H b with
        | none => exact un.keep b o e q (by intro z; exact absurd (show b ∈ ([] : List Addr) from z) (by simp)) (by simp)
        | some u =>
          rcases hO b with z | ⟨ob, xs, z⟩
          · rw [q] at z; cases z
          · have z2 := un.frzs b ob _ z
            obtain ⟨e1, _⟩ := hok b _ z
            obtain ⟨e2, _⟩ := hok' b _ z2
            rw [e] at e1; cases e1
            exact e2
  cases hk : K.lookup a with
  | some o =>
    -- the script is one of the module's own objects
    have e := KX a o hk
    rw [ha] at e
    cases e
    refine core (fun _ => none) (fun _ => .inl rfl) (.inr ⟨_, vs.toArray, _, hk, rfl, rfl, rfl, by rw [List.size_toArray, lenV]; exact hl, by simpa using rv⟩) (fun b u z => by have z' : (none : Option HO) = some u := z; cases z') (fun b z => absurd rfl z) fun z => absurd rfl z
  | none =>
    refine core (fun b => if b = a then some (.frz { cls := .type "list", data := .seq vs.toArray } (.lst (ns.map V.int))) else none) (fun b => ?_) (.inl (.inr ⟨{ cls := .type "list", data := .seq vs.toArray }, if_pos rfl⟩)) (fun b u z => ?_) (fun b z => ?_) fun _ => hk
    · by_cases hb : b = a
      · exact .inr ⟨_, _, if_pos hb⟩
      · exact .inl (if_neg hb)
    · by_cases hb : b = a
      · have z' := (if_pos hb).symm.trans z
        cases z'
        subst hb
        exact ⟨ha, by rw [List.length_map]; exact hl, vs, _, rv, ha⟩
      · have z' := (if_neg hb).symm.trans z
        cases z'
    · by_cases hb : b = a
      · exact hb
      · exact absurd (if_neg hb) z
theorem walk_ofG {l : PySem.W.OpenLaw} {n k : Nat} {q : Program} {loose : List Str} {XP : (Str → Option Value) → Heap → Prop} {YP : World → Heap → Prop} {d : DefRec} {K : Params → PySem.W.Frag} {CX : World → CXT} {sp : World → Sp} {x : Str}
    (hn : l.most = some n) (hn2 : n ≤ sizeLine) (hdf : d.params.defaults = []) (hr : RoomG k callerA)
    (hY : ∀ (w : World) (h : Heap), YP w h → (K w.params).In h)
    (F : ∀ (w : World) (mg : Str → Option Value) (fa : Addr) (h : Heap), (K w.params).In h → h.Ns mainGlobals mg → mg d.name = some (.ref fa) →
      ∃ fd : FuncData, (∀ (s : Shared) (u : Value), BindsTo s fd ⟨[u], []⟩ [(x, u)]) ∧
        ∀ base : Heap, (K w.params).In base → base.Ns mainGlobals mg → FnG l.prog w (K w.params) mg base (CX w) k fa fd [x] (sp w))
    (hsp : ∀ (w : World) (H : Hp) (a : Addr) (ns : List Int), ns.length ≤ n → Only H → SqL (K w.params) H a (ns.map V.int) → sp w [.ref a] H (fun v _ => v = .bl true) fun _ _ _ => False)
    (hCX : ∀ (w : World) (H : Hp) (s : Shared) (e : Value) (s' : Shared), CX w [] H s (fun _ _ _ => False) e s' → False) :
    PySem.W.WalkO q loose XP YP l.row.toRowW d [] (fun f vs => PySem.call f vs) := by
  refine Att.attach_call hn hdf fun w s₀ s₁ mg mb fa o pm cd doc a vs ns G Y ho hd hcd hmg hobj hints hlen hg => ?_
  have KX := hY w _ Y
  obtain ⟨fd, hb, hF⟩ := F w mg fa _ KX G.T.g hmg
  exact law_callG KX G.T.g G.T.b G.T.builtins G.T.nolimit hg hobj hints (Nat.le_trans hlen hn2) hr hF hb (fun H hO hS => hsp w H a ns hlen hO hS) fun H e s' => hCX w H s₁ e s'
end L2

/-! Pl0x: tuples made anew, known to their objects. -/
namespace L2
open PySem PySem.Spec PyProof.Rows HT
/-- an object of the class tuple, made anew -/
def tupO (its : List Value) : Obj := { cls := .type "tuple", data := .seq its.toArray }
theorem tupX_ok {P : Program} {w : World} {H : Hp} {h : Heap} {a : Addr} {xs : List V} {its : List Value} (z : xs.length ≤ sizeLine) (r : Vals xs its) (e : h.get? a = some (tupO its)) : ObjOk P w H h a (.frz (tupO its) (.tup xs)) := ⟨e, z, its, r, _, e, rfl, _, rfl⟩
section
variable {X : Cx} {e : Expr} {es : List Expr} {te : TE} {t : TA} {pos : Pos}
def tTupX (t : TA) : TE := fun σ H Q => t σ H fun xs H1 => xs.length ≤ sizeLine ∧ ∀ p its, H1 p = none → Q (.ref p) (upd H1 p (.frz (tupO its) (.tup xs)))
theorem pe_tupX {x1} (h : PA X es t) : PE X (.Tuple es x1 pos) (tTupX t) := by
  refine ⟨fun pins s σ H Q I hq => ?_⟩
  refine wpAny_Tuple_spliced (thn (h.run pos pins s σ H _ I hq) fun us s1 ⟨xs, H1, I1, r, z, q⟩ => ⟨by rw [← r.length]; exact z, ?_⟩)
  have hf : H1 s1.heap.objs.size = none := I1.hok.fresh (Nat.le_refl _)
  exact ⟨.ref s1.heap.objs.size, upd H1 s1.heap.objs.size (.frz (tupO us) (.tup xs)), I1.laid (t' := s1.toks) (fun b u e => Heap.get?_push_of_some _ e) (Nat.le_refl _) (tupX_ok z r (Heap.get?_push_size _ rfl)), rfl, q _ us hf⟩
/-- t + u -/
def rCatX (K : PySem.W.Frag) : R2 := fun x y H Q => ∃ a b xs ys, x = .ref a ∧ y = .ref b ∧ SqT K H a xs ∧ SqT K H b ys ∧ xs.length + ys.length ≤ sizeLine ∧
  (xs = [] → Q (.ref b) H) ∧ (xs ≠ [] → ys = [] → Q (.ref a) H) ∧ (xs ≠ [] → ys ≠ [] → ∀ p its, H p = none → Q (.ref p) (upd H p (.frz (tupO its) (.tup (xs ++ ys)))))
theorem op_catX : OpR X (binaryOp .Add) (rCatX X.K) := by
  intro pins s σ H x y v u Q I rx ry h
  obtain ⟨a, b, xs, ys, rfl, rfl, ha, hb, hz, q0, q1, q2⟩ := h
  cases rx
  cases ry
  obtain ⟨its, r1, p1, _⟩ := I.tuple ha
  obtain ⟨its2, r2, p2, _⟩ := I.tuple hb
  by_cases hx : xs = []
  · subst hx
    cases r1
    exact cat_tup0 p1 p2 ⟨.ref b, H, I, rfl, q0 rfl⟩
  · refine HT.cat_tup p1 p2 (fun z => hx (r1.nil_iff.mp z)) (fun z => ⟨.ref a, H, I, rfl, q1 hx (r2.nil_iff.mp z)⟩) (fun z => ?_) (by rw [← r1.length, ← r2.length]; exact hz)
    exact ⟨.ref s.heap.objs.size, _, I.laid (t' := s.toks) (o := .frz (tupO (its ++ its2)) (.tup (xs ++ ys))) (fun b ob q => Heap.get?_push_of_some _ q) (Nat.le_refl _) (tupX_ok (by rw [List.length_append]; exact hz) (r1.append r2) (Heap.get?_push_size _ rfl)), rfl, q2 hx (fun w => z (r2.nil_iff.mpr w)) _ _ (I.hok.fresh (Nat.le_refl _))⟩
/-- t[lo:hi]: the whole of it is t itself -/
def rSlX (K : PySem.W.Frag) : V → Option Int → Option Int → Hp → VK → Prop := fun x lo hi H Q => ∃ a xs, x = .ref a ∧ SqT K H a xs ∧
  (HT.sIx xs.length 0 lo = 0 ∧ HT.sIx xs.length xs.length hi = xs.length → Q (.ref a) H) ∧ (¬ (HT.sIx xs.length 0 lo = 0 ∧ HT.sIx xs.length xs.length hi = xs.length) → ∀ p its, H p = none → Q (.ref p) (upd H p (.frz (tupO its) (.tup (cutV xs lo hi)))))
theorem sl_tupX : SlR X (rSlX X.K) := by
  intro pins s σ H x v vl vu lo hi sl Q I rx hs pl pu h
  obtain ⟨a, xs, rfl, hx, q1, q2⟩ := h
  cases rx
  obtain ⟨its, r, ht, hz⟩ := I.tuple hx
  have hlen : its.toArray.size = xs.length := by rw [List.size_toArray]; exact r.length.symm
  refine ⟨"tuple", _, PyProof.Rows.slot_tuple_getitem.lookup, ht.typeIs, ?_⟩
  by_cases hw : HT.sIx xs.length 0 lo = 0 ∧ HT.sIx xs.length xs.length hi = xs.length
  · exact getItem_tuple_whole ht hs pl pu (by rw [hlen]; exact hw) ⟨.ref a, H, I, rfl, q1 hw⟩
  · refine HT.getItem_tuple_cut ht hs pl pu (by rw [hlen]; exact hw) ?_ (by rw [hlen]; exact hz)
    rw [hlen]
    exact ⟨.ref s.heap.objs.size, _, I.laid (t' := s.toks) (o := .frz (tupO _) (.tup (cutV xs lo hi))) (fun b ob q => Heap.get?_push_of_some _ q) (Nat.le_refl _) (tupX_ok (Nat.le_trans (cutV_length xs lo hi) hz) ((r.drop (HT.sIx xs.length 0 lo)).take (HT.sIx xs.length xs.length hi - HT.sIx xs.length 0 lo)) (Heap.get?_push_size _ rfl)), rfl, q2 hw _ _ (I.hok.fresh (Nat.le_refl _))⟩
end
end L2

/-! Pl: a layer over HandS: pure data D, cells, and judgements by weakest wishes over them. -/
namespace Pl
open PySem L2 PyProof.Rows

/-! ### data -/
/-- a datum: immutable things as trees; `loc n` is the n-th mutable thing that is owned -/
inductive D where
  | non | bl (b : Bool) | int (i : Int) | str (s : Str)
  | tup (ds : List D) | lst (ds : List D) | fzl (ds : List D)
  | loc (n : Nat) | raw (v : V)
  | ins (C : Addr) (ns : List Str) (ds : List D)
  | dic (ks : List Key) (ds : List D)
  | exc (C : Addr) (ns : List Str) (ds : List D)
  deriving Inhabited
/-- at a: an exception of the class at C, its dict at d -/
def excHO (C a : Addr) (d : Option Addr) : HO := .ext fun h => ∃ (oe : Obj) (vs : Array Value), h.get? a = some oe ∧ Zc (.ref C) d oe ∧ oe.data = .fields vs

/-- extension of heaps -/
def Ex (H H' : Hp) : Prop := ∀ a o, H a = some o → H' a = some o
theorem Ex.refl (H : Hp) : Ex H H := fun _ _ h => h
theorem Ex.trans {H H1 H2 : Hp} (a : Ex H H1) (b : Ex H1 H2) : Ex H H2 := fun x o h => b x o (a x o h)
theorem Ex.new {H : Hp} {p : Addr} {o : HO} (h : H p = none) : Ex H (upd H p o) := fun a u e => by
  rw [upd_ne (ne_of_none e h)]; exact e
theorem Ex.back {H H' : Hp} {p : Addr} (e : Ex H H') (h : H' p = none) : H p = none := by
  cases h1 : H p with
  | none => rfl
  | some o => rw [e p o h1] at h; cases h
theorem Ex.rd {H H' : Hp} {a : Addr} {u : HO} (e : Ex H H') (h : Rd H a u) : Rd H' a u := by
  rcases h with h | ⟨o, h⟩
  · exact .inl (e a _ h)
  · exact .inr ⟨o, e a _ h⟩
theorem Ex.sqL {K : PySem.W.Frag} {H H' : Hp} {a : Addr} {xs : List V} (e : Ex H H') (h : SqL K H a xs) : SqL K H' a xs := by
  rcases h with h | h
  · exact .inl (e.rd h)
  · exact .inr h
theorem Ex.sqT {K : PySem.W.Frag} {H H' : Hp} {a : Addr} {xs : List V} (e : Ex H H') (h : SqT K H a xs) : SqT K H' a xs := by
  rcases h with h | h
  · exact .inl (e.rd h)
  · exact .inr h
/-- an object that H does not know is laid or changed -/
theorem Ex.mut {H H' : Hp} {p : Addr} {o : HO} (e : Ex H H') (h : H p = none) : Ex H (upd H' p o) := fun a u ha => by
  rw [upd_ne (ne_of_none ha h)]; exact e a u ha

/-- truths alone -/
def allBl : List D → Bool
  | [] => true
  | .bl _ :: ds => allBl ds
  | _ :: _ => false
/-- the thing at a is known to its object, which has no dict -/
def SqE (B : Hp) (a : Addr) : Prop := ∃ o u, B a = some (.frz o u) ∧ o.dict = none
/-- a tuple of these; one of truths alone is known to its object -/
def SqX (K : PySem.W.Frag) (B : Hp) (a : Addr) (vs : List V) (ds : List D) : Prop := SqT K B a vs ∧ (allBl ds = true → SqE B a)
theorem SqX.to {K : PySem.W.Frag} {B : Hp} {a : Addr} {vs : List V} {ds es : List D} (h : SqX K B a vs ds) (e : allBl es = true → allBl ds = true) : SqX K B a vs es := ⟨h.1, fun q => h.2 (e q)⟩
theorem SqX.new {K : PySem.W.Frag} {B : Hp} {a : Addr} {vs : List V} {ds : List D} {its : List Value} (h : B a = some (.frz (tupO its) (.tup vs))) : SqX K B a vs ds := ⟨.inl (.inr ⟨_, h⟩), fun _ => ⟨_, _, h, rfl⟩⟩
theorem SqX.ex {K : PySem.W.Frag} {B B' : Hp} {a : Addr} {vs : List V} {ds : List D} (e : Ex B B') (h : SqX K B a vs ds) : SqX K B' a vs ds := ⟨e.sqT h.1, fun q => by obtain ⟨o, u, z, d⟩ := h.2 q; exact ⟨o, u, e _ _ z, d⟩⟩
theorem SqX.odd {K : PySem.W.Frag} {B : Hp} {a : Addr} {vs : List V} {ds : List D} (h : SqT K B a vs) (e : allBl ds = false) : SqX K B a vs ds := ⟨h, fun q => by rw [e] at q; cases q⟩
mutual
/-- the value v bears the datum d, by the view B and the cells' addresses α -/
def Rep (K : PySem.W.Frag) (B : Hp) (α : List Addr) : D → V → Prop
  | .non, v => v = .non
  | .bl b, v => v = .bl b
  | .int i, v => v = .int i
  | .str s, v => v = .str s
  | .tup ds, v => ∃ a vs, v = .ref a ∧ SqX K B a vs ds ∧ Reps K B α ds vs
  | .lst ds, v => ∃ a vs, v = .ref a ∧ B a = some (.lst vs) ∧ Reps K B α ds vs
  | .fzl ds, v => ∃ a vs, v = .ref a ∧ SqL K B a vs ∧ Reps K B α ds vs
  | .loc n, v => ∃ a, v = .ref a ∧ α[n]? = some a
  | .raw u, v => v = u
  | .ins C ns ds, v => ∃ a dx vs, v = .ref a ∧ B a = some (.ins C dx (ns.zip vs)) ∧ Reps K B α ds vs ∧ ns.length = ds.length
  | .dic ks ds, v => ∃ a vs, v = .ref a ∧ Rd B a (.dK (ks.zip vs)) ∧ Reps K B α ds vs ∧ ks.length = ds.length
  | .exc C ns ds, v => ∃ a d vs, v = .ref a ∧ B a = some (excHO C a d) ∧ Reps K B α ds vs ∧ ns.length = ds.length ∧ (d = none → ns = []) ∧ ∀ dx, d = some dx → B dx = some (.xd (ns.zip vs))
def Reps (K : PySem.W.Frag) (B : Hp) (α : List Addr) : List D → List V → Prop
  | [], vs => vs = []
  | d :: ds, vs => ∃ v r, vs = v :: r ∧ Rep K B α d v ∧ Reps K B α ds r
end
section
variable {K : PySem.W.Frag} {B B' : Hp} {α α' : List Addr}
theorem pre_get {α α' : List Addr} {n : Nat} {a : Addr} (p : α <+: α') (h : α[n]? = some a) : α'[n]? = some a := by
  obtain ⟨t, rfl⟩ := p
  rw [List.getElem?_append_left]
  · exact h
  · exact (List.getElem?_eq_some_iff.mp h).1
mutual
theorem Rep.mono (e : Ex B B') (p : α <+: α') : ∀ (d : D) (v : V), Rep K B α d v → Rep K B' α' d v
  | .non, _, h => h
  | .bl _, _, h => h
  | .int _, _, h => h
  | .str _, _, h => h
  | .tup ds, v, h => by
    unfold Rep at h ⊢
    obtain ⟨a, vs, rfl, h1, h2⟩ := h
    exact ⟨a, vs, rfl, ⟨e.sqT h1.1, fun q => by obtain ⟨o, u, z, d⟩ := h1.2 q; exact ⟨o, u, e _ _ z, d⟩⟩, Reps.mono e p ds vs h2⟩
  | .lst ds, v, h => by
    unfold Rep at h ⊢
    obtain ⟨a, vs, rfl, h1, h2⟩ := h
    exact ⟨a, vs, rfl, e _ _ h1, Reps.mono e p ds vs h2⟩
  | .fzl ds, v, h => by
    unfold Rep at h ⊢
    obtain ⟨a, vs, rfl, h1, h2⟩ := h
    exact ⟨a, vs, rfl, e.sqL h1, Reps.mono e p ds vs h2⟩
  | .loc n, v, h => by
    unfold Rep at h ⊢
    obtain ⟨a, rfl, h1⟩ := h
    exact ⟨a, rfl, pre_get p h1⟩
  | .raw _, _, h => h
  | .ins C ns ds, v, h => by
    unfold Rep at h ⊢
    obtain ⟨a, dx, vs, rfl, h1, h2, h3⟩ := h
    exact ⟨a, dx, vs, rfl, e _ _ h1, Reps.mono e p ds vs h2, h3⟩
  | .dic ks ds, v, h => by
    unfold Rep at h ⊢
    obtain ⟨a, vs, rfl, h1, h2, h3⟩ := h
    exact ⟨a, vs, rfl, e.rd h1, Reps.mono e p ds vs h2, h3⟩
  | .exc C ns ds, v, h => by
    unfold Rep at h ⊢
    obtain ⟨a, d, vs, rfl, h1, h2, h3, h4⟩ := h
    exact ⟨a, d, vs, rfl, e _ _ h1, Reps.mono e p ds vs h2, h3, h4.1, fun dx q => e _ _ (h4.2 dx q)⟩
theorem Reps.mono (e : Ex B B') (p : α <+: α') : ∀ (ds : List D) (vs : List V), Reps K B α ds vs → Reps K B' α' ds vs
  | [], _, h => h
  | d :: ds, vs, h => by
    unfold Reps at h ⊢
    obtain ⟨v, r, rfl, h1, h2⟩ := h
    exact ⟨v, r, rfl, Rep.mono e p d v h1, Reps.mono e p ds r h2⟩
end
theorem Reps.length : ∀ {ds : List D} {vs : List V}, Reps K B α ds vs → vs.length = ds.length
  | [], _, h => by unfold Reps at h; subst h; rfl
  | _ :: _, _, h => by
    unfold Reps at h
    obtain ⟨v, r, rfl, _, h2⟩ := h
    simp [Reps.length h2]
theorem Reps.get : ∀ {ds : List D} {vs : List V} {i : Nat} {d : D}, Reps K B α ds vs → ds[i]? = some d → ∃ v, vs[i]? = some v ∧ Rep K B α d v
  | [], _, _, _, _, e => by simp at e
  | d :: ds, _, 0, _, h, e => by
    unfold Reps at h
    obtain ⟨v, r, rfl, h1, _⟩ := h
    simp at e; subst e
    exact ⟨v, rfl, h1⟩
  | d :: ds, _, i + 1, d', h, e => by
    unfold Reps at h
    obtain ⟨v, r, rfl, _, h2⟩ := h
    obtain ⟨u, e1, e2⟩ := Reps.get (i := i) h2 (by simpa using e)
    exact ⟨u, by simpa using e1, e2⟩
theorem Reps.append : ∀ {ds es : List D} {vs ws : List V}, Reps K B α ds vs → Reps K B α es ws → Reps K B α (ds ++ es) (vs ++ ws)
  | [], _, _, _, h, k => by unfold Reps at h; subst h; exact k
  | d :: ds, es, _, ws, h, k => by
    unfold Reps at h
    obtain ⟨v, r, rfl, h1, h2⟩ := h
    show Reps K B α (d :: (ds ++ es)) (v :: (r ++ ws))
    unfold Reps
    exact ⟨v, _, rfl, h1, h2.append k⟩
theorem Reps.cons {d : D} {v : V} {ds : List D} {vs : List V} (h : Rep K B α d v) (t : Reps K B α ds vs) : Reps K B α (d :: ds) (v :: vs) := by
  unfold Reps; exact ⟨v, vs, rfl, h, t⟩
theorem Reps.nil : Reps K B α [] [] := by unfold Reps; rfl
theorem Reps.one {d : D} {v : V} (h : Rep K B α d v) : Reps K B α [d] [v] := .cons h .nil
theorem Reps.take (n : Nat) : ∀ {ds : List D} {vs : List V}, Reps K B α ds vs → Reps K B α (ds.take n) (vs.take n) := by
  induction n with
  | zero => intro ds vs _; simp [Reps]
  | succ n ih =>
    intro ds vs h
    cases ds with
    | nil => unfold Reps at h; subst h; simp [Reps]
    | cons d ds =>
      unfold Reps at h
      obtain ⟨v, r, rfl, h1, h2⟩ := h
      exact .cons h1 (ih h2)
theorem Reps.drop (n : Nat) : ∀ {ds : List D} {vs : List V}, Reps K B α ds vs → Reps K B α (ds.drop n) (vs.drop n) := by
  induction n with
  | zero => intro ds vs h; exact h
  | succ n ih =>
    intro ds vs h
    cases ds with
    | nil => unfold Reps at h; subst h; simp [Reps]
    | cons d ds =>
      unfold Reps at h
      obtain ⟨v, r, rfl, h1, h2⟩ := h
      exact ih h2
theorem Reps.set {i : Nat} {d : D} {v : V} (hd : Rep K B α d v) : ∀ {ds : List D} {vs : List V}, Reps K B α ds vs → Reps K B α (ds.set i d) (vs.set i v) := by
  induction i with
  | zero =>
    intro ds vs h
    cases ds with
    | nil => unfold Reps at h; subst h; simp [Reps]
    | cons e ds =>
      unfold Reps at h
      obtain ⟨w, r, rfl, h1, h2⟩ := h
      exact .cons hd h2
  | succ n ih =>
    intro ds vs h
    cases ds with
    | nil => unfold Reps at h; subst h; simp [Reps]
    | cons e ds =>
      unfold Reps at h
      obtain ⟨w, r, rfl, h1, h2⟩ := h
      exact .cons h1 (ih h2)
end

/-! ### cells -/
/-- a mutable thing that is owned -/
inductive Cell where
  | lst (ds : List D)
  | dic (ks : List Key) (ds : List D)
  | ins (C : Addr) (ns : List Str) (ds : List D)
  | gone
  deriving Inhabited

def CellAt (K : PySem.W.Frag) (B : Hp) (α : List Addr) (H : Hp) (a : Addr) : Cell → Prop
  | .lst ds => ∃ vs, H a = some (.lst vs) ∧ Reps K B α ds vs
  | .dic ks ds => ∃ vs, H a = some (.dK (ks.zip vs)) ∧ Reps K B α ds vs ∧ ks.length = ds.length
  | .ins C ns ds => ∃ dx vs, H a = some (.ins C dx (ns.zip vs)) ∧ Reps K B α ds vs ∧ ns.length = ds.length
  | .gone => True
/-- no code object's table -/
def NoTbl (o : HO) : Prop := ∀ ps, o ≠ .tbl ps
/-- what a cell holds -/
def Celly : Option HO → Prop
  | some (.lst _) => True
  | some (.dK _) => True
  | some (.ins _ _ _) => True
  | _ => False
theorem celly_some {x : Option HO} (h : Celly x) : ∃ o, x = some o ∧ NoTbl o := by
  cases x with
  | none => exact h.elim
  | some o => cases o <;> first | exact h.elim | exact ⟨_, rfl, fun _ q => nomatch q⟩
theorem CellAt.celly {K : PySem.W.Frag} {B : Hp} {α : List Addr} {H : Hp} {a : Addr} {c : Cell} (h : CellAt K B α H a c) (hg : c ≠ .gone) : Celly (H a) := by
  cases c with
  | lst ds => obtain ⟨vs, q, _⟩ := h; rw [q]; trivial
  | dic ks ds => obtain ⟨vs, q, _⟩ := h; rw [q]; trivial
  | ins C ns ds => obtain ⟨dx, vs, q, _⟩ := h; rw [q]; trivial
  | gone => exact absurd rfl hg
theorem CellAt.mono {K : PySem.W.Frag} {B B' : Hp} {α α' : List Addr} {H H' : Hp} {a : Addr} (e : Ex B B') (p : α <+: α') (h : ∀ o, H a = some o → NoTbl o → H' a = some o) : ∀ {c : Cell}, CellAt K B α H a c → CellAt K B' α' H' a c
  | .lst ds, ⟨vs, h1, h2⟩ => ⟨vs, h _ h1 (fun _ q => nomatch q), h2.mono e p⟩
  | .dic ks ds, ⟨vs, h1, h2, h3⟩ => ⟨vs, h _ h1 (fun _ q => nomatch q), h2.mono e p, h3⟩
  | .ins C ns ds, ⟨dx, vs, h1, h2, h3⟩ => ⟨dx, vs, h _ h1 (fun _ q => nomatch q), h2.mono e p, h3⟩
  | .gone, _ => trivial

/-- the frame of a def's run: the heap and the view at its entry, the addresses of the cells that it was handed -/
structure Fm where
  H0 : Hp
  B0 : Hp
  α0 : List Addr

abbrev Env := List (Option D)
abbrev Cells := List Cell

/-- the tables of code objects that a lambda may write (each with the name that its code objects bear) -/
def Tbl.T : List (Addr × Str) := []
theorem tabs_upd {H : Hp} {a : Addr} {o : HO} (t : LamX.Tabs Tbl.T H) (c : Celly (H a)) : LamX.Tabs Tbl.T (upd H a o) := fun p hp => by
  obtain ⟨ps, h1, h2, h3⟩ := t p hp
  have na : p.1 ≠ a := fun e => by rw [← e, h1] at c; exact c
  refine ⟨ps, by rw [upd_ne na]; exact h1, h2, fun pos cv hc => ?_⟩
  obtain ⟨b, e1, e2⟩ := h3 pos cv hc
  have nb : b ≠ a := fun e => by
    rw [← e, e2] at c
    exact c
  exact ⟨b, e1, by rw [upd_ne nb]; exact e2⟩
structure Tb (F : Fm) (B : Hp) (α : List Addr) (H : Hp) : Prop where
  tabs : LamX.Tabs Tbl.T H
  h0 : ∀ p ∈ Tbl.T, F.H0 p.1 ≠ none
  nb : ∀ a ps, B a ≠ some (.tbl ps)
  ca : ∀ a ∈ α, Celly (H a)
section
variable {F : Fm} {B B' H H' : Hp} {α α1 α' : List Addr}
theorem celly_ext {x : Addr} (h : Celly (H x)) (e : ∀ o, H x = some o → NoTbl o → H' x = some o) : Celly (H' x) := by
  obtain ⟨o, h1, h2⟩ := celly_some h
  rw [e o h1 h2, ← h1]; exact h
theorem Tb.grow (t : Tb F B α H) (e : Ex H H') : Tb F B α H' := ⟨t.tabs.ext e, t.h0, t.nb, fun a ha => celly_ext (t.ca a ha) fun o h _ => e _ _ h⟩
theorem Tb.see {p : Addr} {o : HO} (t : Tb F B α H) (hn : NoTbl o) : Tb F (upd B p o) α H := ⟨t.tabs, t.h0, fun a ps h => by
  by_cases e : a = p
  · subst e; rw [upd_same] at h; exact hn ps (Option.some.inj h)
  · rw [upd_ne e] at h; exact t.nb a ps h, t.ca⟩
theorem Tb.own {p : Addr} (t : Tb F B α H) (h : Celly (H p)) : Tb F B (α ++ [p]) H := ⟨t.tabs, t.h0, t.nb, fun a ha => by
  rcases List.mem_append.mp ha with z | z
  · exact t.ca a z
  · rw [List.mem_singleton] at z; subst z; exact h⟩
theorem Tb.put {a : Addr} {o : HO} (t : Tb F B α H) (hc : Celly (H a)) (ho : a ∈ α → Celly (some o)) : Tb F B α (upd H a o) := ⟨tabs_upd t.tabs hc, t.h0, t.nb, fun b hb => by
  by_cases e : b = a
  · subst e; rw [upd_same]; exact ho hb
  · rw [upd_ne e]; exact t.ca b hb⟩
theorem Tb.sub (t : Tb F B α H) (h : ∀ a ∈ α1, a ∈ α) : Tb F B α1 H := ⟨t.tabs, t.h0, t.nb, fun a ha => t.ca a (h a ha)⟩
theorem Tb.start (t : Tb F B α H) (h : ∀ a ∈ α1, a ∈ α) : Tb ⟨H, B, α1⟩ B α1 H := ⟨t.tabs, fun p hp => by
  obtain ⟨ps, e, _⟩ := t.tabs p hp
  show H p.1 ≠ none
  rw [e]; simp, t.nb, fun a ha => t.ca a (h a ha)⟩
theorem Tb.back {H0 : Hp} {B0 : Hp} {β : List Addr} (t : Tb F B α H) (u : Tb ⟨H0, B0, α1⟩ B' α' H') (kp : ∀ a o, H a = some o → a ∉ α1 → NoTbl o → H' a = some o) (h1 : ∀ a ∈ α1, a ∈ α') (hβ : ∀ a ∈ β, a ∈ α ∨ a ∈ α') : Tb F B' β H' := ⟨u.tabs, t.h0, u.nb, fun a ha => by
  by_cases m : a ∈ α1
  · exact u.ca a (h1 a m)
  · rcases hβ a ha with z | z
    · exact celly_ext (t.ca a z) fun o h n => kp a o h m n
    · exact u.ca a z⟩
end
structure Sat (K : PySem.W.Frag) (F : Fm) (B : Hp) (α : List Addr) (Γ : Env) (Λ : Cells) (σ : L2.St) (H : Hp) : Prop where
  bb : Ex F.B0 B
  bh : Ex B H
  fr : ∀ (a : Addr) (o : HO), B a = some o → F.B0 a = some o ∨ F.H0 a = none
  kp : ∀ (a : Addr) (o : HO), F.H0 a = some o → a ∉ F.α0 → NoTbl o → H a = some o
  dm : ∀ a : Addr, H a = none → F.H0 a = none
  pf : F.α0 <+: α
  nd : α.Nodup
  al : α.length = Λ.length
  ce : ∀ (n : Nat) (c : Cell), Λ[n]? = some c → c ≠ .gone → ∃ a, α[n]? = some a ∧ B a = none ∧ (F.H0 a = none ∨ a ∈ F.α0) ∧ CellAt K B α H a c
  ah : ∀ a ∈ α, H a ≠ none ∧ (F.H0 a = none ∨ a ∈ F.α0)
  sl : ∀ (i : Nat) (d : D), Γ[i]? = some (some d) → ∃ v, σ[i]? = some (some v) ∧ Rep K B α d v
  ln : Γ.length = σ.length
  tb : Tb F B α H

section
variable {K : PySem.W.Frag} {F : Fm} {B B' : Hp} {α α' : List Addr} {Γ : Env} {Λ : Cells} {σ : L2.St} {H H' : Hp}

/-- a slot is stored -/
theorem Sat.set {i : Nat} {d : D} {v : V} (S : Sat K F B α Γ Λ σ H) (r : Rep K B α d v) : Sat K F B α (Γ.set i (some d)) Λ (σ.set i (some v)) H := by
  refine { S with sl := fun j e hj => ?_, ln := by simpa using S.ln }
  by_cases hij : i = j
  · subst hij
    have hi : i < Γ.length := by
      have := (List.getElem?_eq_some_iff.mp hj).1
      simpa using this
    rw [List.getElem?_set_self hi] at hj
    cases hj
    exact ⟨v, List.getElem?_set_self (by rw [← S.ln]; exact hi), r⟩
  · rw [List.getElem?_set_ne hij] at hj
    obtain ⟨w, h1, h2⟩ := S.sl j e hj
    exact ⟨w, by rw [List.getElem?_set_ne hij]; exact h1, h2⟩
/-- slots forgotten -/
theorem Sat.env {Γ' : Env} {σ' : L2.St} (S : Sat K F B α Γ Λ σ H) (hl : Γ'.length = σ'.length) (h : ∀ (i : Nat) (d : D), Γ'[i]? = some (some d) → ∃ v, σ'[i]? = some (some v) ∧ Rep K B α d v) : Sat K F B α Γ' Λ σ' H :=
  { S with sl := h, ln := hl }
theorem Sat.noEnv (S : Sat K F B α Γ Λ σ H) : Sat K F B α [] Λ [] H := S.env rfl fun i d h => by simp at h

theorem CellAt.some {H : Hp} {a : Addr} {c : Cell} (h : CellAt K B α H a c) (hg : c ≠ .gone) : H a ≠ none := by
  cases c with
  | lst ds => obtain ⟨vs, q, _⟩ := h; rw [q]; simp
  | dic ks ds => obtain ⟨vs, q, _⟩ := h; rw [q]; simp
  | ins C ns ds => obtain ⟨dx, vs, q, _⟩ := h; rw [q]; simp
  | gone => exact absurd rfl hg

/-- the heap has grown by things that the view does not see -/
theorem Sat.grow (S : Sat K F B α Γ Λ σ H) (e : Ex H H') : Sat K F B α Γ Λ σ H' :=
  { S with bh := S.bh.trans e, tb := S.tb.grow e, kp := fun a o h ha n => e _ _ (S.kp a o h ha n), dm := fun a h => S.dm a (e.back h)
           ce := fun n c h hg => by
            obtain ⟨a, h1, h2, h3, h4⟩ := S.ce n c h hg
            exact ⟨a, h1, h2, h3, h4.mono (Ex.refl B) (List.prefix_refl _) fun o q _ => e a o q⟩
           ah := fun a ha => ⟨fun h => (S.ah a ha).1 (e.back h), (S.ah a ha).2⟩ }
/-- the view grows by a thing of the heap that is new and no cell -/
theorem Sat.see {p : Addr} {o : HO} (S : Sat K F B α Γ Λ σ H) (hp : H p = some o) (hB : B p = none) (h0 : F.H0 p = none) (hα : p ∉ α) (hn : NoTbl o := by intro _ q; cases q) : Sat K F (upd B p o) α Γ Λ σ H := by
  refine ⟨S.bb.mut ?_, fun a u h => ?_, fun a u h => ?_, S.kp, S.dm, S.pf, S.nd, S.al, fun n c h hg => ?_, S.ah, fun i d h => ?_, S.ln, S.tb.see hn⟩
  · exact S.bb.back hB
  · by_cases e : a = p
    · subst e; rw [upd_same] at h; rw [← h]; exact hp
    · rw [upd_ne e] at h; exact S.bh a u h
  · by_cases e : a = p
    · subst e; exact .inr h0
    · rw [upd_ne e] at h; exact S.fr a u h
  · obtain ⟨a, h1, h2, h3, h4⟩ := S.ce n c h hg
    have hap : a ≠ p := fun e => hα (e ▸ List.mem_of_getElem? h1)
    exact ⟨a, h1, by rw [upd_ne hap]; exact h2, h3, h4.mono (Ex.new hB) (List.prefix_refl _) fun u q _ => q⟩
  · obtain ⟨v, h1, h2⟩ := S.sl i d h
    exact ⟨v, h1, h2.mono (Ex.new hB) (List.prefix_refl _)⟩
/-- a new object that is seen by the view -/
theorem Sat.lay {p : Addr} {o : HO} (S : Sat K F B α Γ Λ σ H) (hp : H p = none) (hn : NoTbl o := by intro _ q; cases q) : Sat K F (upd B p o) α Γ Λ σ (upd H p o) :=
  (S.grow (Ex.new hp)).see upd_same (S.bh.back hp) (S.dm p hp) (fun ha => (S.ah p ha).1 hp) hn
/-- a new object that is a cell -/
theorem Sat.own {p : Addr} {c : Cell} (S : Sat K F B α Γ Λ σ H) (hp : H p = none) (e : Ex H H') (hc : H' p ≠ none) (hh : ∀ α', α <+: α' → CellAt K B α' H' p c) (hg0 : c ≠ .gone := by intro q; cases q) : Sat K F B (α ++ [p]) Γ (Λ ++ [c]) σ H' := by
  have S' := S.grow e
  have hpa : p ∉ α := fun ha => (S.ah p ha).1 hp
  refine { S' with pf := S.pf.trans (List.prefix_append _ _), nd := ?_, al := by simp [S.al], ce := fun n c' h hg => ?_, ah := fun a ha => ?_, sl := fun i d h => ?_, tb := S'.tb.own ((hh α (List.prefix_refl _)).celly hg0) }
  · rw [List.nodup_append]
    refine ⟨S.nd, List.nodup_cons.mpr ⟨by simp, List.nodup_nil⟩, fun a ha b hb e => ?_⟩
    simp at hb; subst hb; subst e; exact hpa ha
  · by_cases hn : n < Λ.length
    · rw [List.getElem?_append_left hn] at h
      obtain ⟨a, h1, h2, h3, h4⟩ := S'.ce n c' h hg
      exact ⟨a, pre_get (List.prefix_append _ _) h1, h2, h3, h4.mono (Ex.refl B) (List.prefix_append _ _) fun u q _ => q⟩
    · have hlt : n < (Λ ++ [c]).length := (List.getElem?_eq_some_iff.mp h).1
      have hn' : n = Λ.length := by simp at hlt; omega
      subst hn'
      rw [List.getElem?_append_right (Nat.le_refl _)] at h
      simp at h; subst h
      refine ⟨p, by rw [← S.al, List.getElem?_append_right (Nat.le_refl _)]; simp, S.bh.back hp, .inl (S.dm p hp), hh _ (List.prefix_append _ _)⟩
  · rcases List.mem_append.mp ha with h | h
    · exact S'.ah a h
    · simp at h; subst h; exact ⟨hc, .inl (S.dm _ hp)⟩
  · obtain ⟨v, h1, h2⟩ := S.sl i d h
    exact ⟨v, h1, h2.mono (Ex.refl B) (List.prefix_append _ _)⟩
/-- a cell is written -/
theorem Sat.put {n : Nat} {a : Addr} {o : HO} {c : Cell} (S : Sat K F B α Γ Λ σ H) (hn : α[n]? = some a) (hB : B a = none) (hc : CellAt K B α (upd H a o) a c) (hg0 : c ≠ .gone := by intro q; cases q) : Sat K F B α Γ (Λ.set n c) σ (upd H a o) := by
  have ha := List.mem_of_getElem? hn
  have nl : n < Λ.length := by rw [← S.al]; exact (List.getElem?_eq_some_iff.mp hn).1
  refine { S with bh := S.bh.mut hB, tb := S.tb.put (S.tb.ca a ha) (fun _ => by have := hc.celly hg0; rw [upd_same] at this; exact this), kp := fun b u h hb nt => ?_, dm := fun b h => ?_, al := by simp [S.al], ce := fun m c' h hg => ?_, ah := fun b hb => ?_ }
  · have hab : b ≠ a := fun e => by
      subst e
      rcases (S.ah b ha).2 with q | q
      · rw [h] at q; cases q
      · exact hb q
    rw [upd_ne hab]; exact S.kp b u h hb nt
  · by_cases e : b = a
    · subst e; rw [upd_same] at h; cases h
    · rw [upd_ne e] at h; exact S.dm b h
  · by_cases e : n = m
    · subst e
      rw [List.getElem?_set_self nl] at h
      cases h
      exact ⟨a, hn, hB, (S.ah a ha).2, hc⟩
    · rw [List.getElem?_set_ne e] at h
      obtain ⟨b, h1, h2, h3, h4⟩ := S.ce m c' h hg
      have hba : b ≠ a := fun q => by
        subst q
        exact e ((List.getElem?_inj (by rw [S.al]; exact nl) S.nd).mp (hn.trans h1.symm))
      exact ⟨b, h1, h2, h3, h4.mono (Ex.refl B) (List.prefix_refl _) fun u q _ => by rw [upd_ne hba]; exact q⟩
  · by_cases e : b = a
    · subst e; exact ⟨by rw [upd_same]; simp, (S.ah b hb).2⟩
    · rw [upd_ne e]; exact S.ah b hb
end
end Pl

namespace Pl
open PySem L2 PyProof.Rows

/-! ### contexts -/
/-- what is known of the code that runs: the program's facts, the names by slot, which of them may be read and stored here, the global names -/
structure Ctx where
  P : Program
  w : World
  K : PySem.W.Frag
  mg : Str → Option Value
  base : Heap
  N : List Str
  sc : Scope
  vs : List Bool
  ls : List Bool
  gl : List Str
  k : Nat
  m : Nat := 0
  /-- a def's own body, no comprehension's block -/
  tp : Bool := true
  /-- of a def that makes lambdas: how its names begin, its code object -/
  cd : Option (Str × Addr) := none
  /-- an exception is being handled -/
  hot : Bool := false

/-- the scope is as told -/
structure Ctx.Good (C : Ctx) : Prop where
  nd : C.N.Nodup
  vis : ∀ (i : Nat) (x : Str), C.N[i]? = some x → C.vs[i]? = some true → Vis C.sc x
  sto : ∀ (i : Nat) (x : Str), C.N[i]? = some x → C.ls[i]? = some true → Loc C.sc x
  glo : ∀ (j : Nat) (x : Str), C.gl[j]? = some x → C.sc.names.lookup x = some .globalImplicit

structure Ctx.Is (C : Ctx) (X : Cx) : Prop where
  prog : X.prog = C.P
  w : X.w = C.w
  K : X.K = C.K
  mg : X.mg = C.mg
  base : X.base = C.base
  N : X.N = C.N
  sc : X.env.scope = C.sc
  calmW : C.hot = false → X.calm = true
  hdW : C.hot = false → X.A.handled = none
  roomW : RoomW C.k X.A
  fn : ∀ (i : Nat) (x : Str), C.N[i]? = some x → C.ls[i]? = some true → X.fn x = true ∨ X.env.scope.names.lookup x = some .local
  good : C.Good
  po : PassesOwn (model X.prog X.w) X.A X.env X.xe
  tp : C.tp = true → X.stack = X.env :: X.outer ∧ X.env.frame = some X.env.locals ∧ X.ex = []
  cdv : ∀ (q : Str) (c : Addr), C.cd = some (q, c) → X.env.qual = q ∧ X.env.code = .ref c

/-- no exception is being handled -/
class Cool (C : Ctx) : Prop where
  h : C.hot = false
instance {P : Program} {w : World} {K : PySem.W.Frag} {mg : Str → Option Value} {base : Heap} {N : List Str} {sc : Scope} {vs ls : List Bool} {gl : List Str} {k m : Nat} {tp : Bool} {cd : Option (Str × Addr)} : Cool ⟨P, w, K, mg, base, N, sc, vs, ls, gl, k, m, tp, cd, false⟩ := ⟨rfl⟩
section
variable {C : Ctx} {X : Cx}
theorem Ctx.Is.calm [Cool C] (h : C.Is X) : X.calm = true := h.calmW Cool.h
theorem Ctx.Is.room [Cool C] (h : C.Is X) : RoomG C.k X.A := ⟨h.hdW Cool.h, h.roomW.gd, h.roomW.dp, h.roomW.un⟩
theorem Ctx.Is.vis (h : C.Is X) {i : Nat} {x : Str} (hi : C.N[i]? = some x) (hv : C.vs[i]? = some true) : Vis X.env.scope x := by rw [h.sc]; exact h.good.vis i x hi hv
theorem Ctx.Is.loc (h : C.Is X) {i : Nat} {x : Str} (hi : C.N[i]? = some x) (hv : C.ls[i]? = some true) : Loc X.env.scope x := by rw [h.sc]; exact h.good.sto i x hi hv
/-- a global name of this code -/
def GlAt (C : Ctx) (x : Str) : Prop := ∃ j : Nat, C.gl[j]? = some x
theorem Ctx.Is.gl (h : C.Is X) {x : Str} (hj : GlAt C x) : Gl X x := by
  obtain ⟨j, hj⟩ := hj
  show X.env.scope.names.lookup x = _
  rw [h.sc]; exact h.good.glo j x hj
theorem Ctx.Is.ni (h : C.Is X) {i : Nat} {x : Str} (hi : C.N[i]? = some x) : X.N[i]? = some x := by rw [h.N]; exact hi
theorem Ctx.Is.nd (h : C.Is X) : X.N.Nodup := by rw [h.N]; exact h.good.nd
end

/-! ### errors -/
/-- an exception: its class, its fields -/
structure Err where
  cls : Value
  fs : Option (List Str × List D)
def ErrAt (K : PySem.W.Frag) (F : Fm) (B : Hp) (α : List Addr) (H : Hp) (e : Err) (c : Value) (dx : Option Addr) : Prop :=
  c = e.cls ∧ match e.fs with
    | none => dx = none
    | some (ns, ds) => ∃ a vs, dx = some a ∧ H a = some (.xd (ns.zip vs)) ∧ Reps K B α ds vs ∧ ns.length = ds.length ∧ (B a = none → F.H0 a = none ∧ a ∉ α)
abbrev ER := Err → Env → Cells → Prop
abbrev ER.none : ER := fun _ _ _ => False

/-! ### judgements -/
section
variable (K : PySem.W.Frag) (F : Fm) (W : WX)
/-- what is wanted of an error -/
def ErOk (B : Hp) (σ : L2.St) (Γ : Env) (E : ER) : Prop :=
  ∀ err Λ' B' α' H' c dx, E err Γ Λ' → Sat K F B' α' Γ Λ' σ H' → Ex B B' → ErrAt K F B' α' H' err c dx → W c dx σ H'
def rdE (E : ER) (Γ : Env) (Λ : Cells) (P : D → Cells → Prop) : TE := fun σ H Q => ∃ B α, Sat K F B α Γ Λ σ H ∧
  (∀ d Λ' v B' α' H', P d Λ' → Sat K F B' α' Γ Λ' σ H' → Ex B B' → α <+: α' → Rep K B' α' d v → Q v H') ∧ ErOk K F W B σ Γ E
/-- a new list -/
def rdN (E : ER) (Γ : Env) (Λ : Cells) (P : List D → Cells → Prop) : TE := fun σ H Q => ∃ B α, Sat K F B α Γ Λ σ H ∧
  (∀ ds Λ' p vs B' α' H', P ds Λ' → Sat K F B' α' Γ Λ' σ H' → Ex B B' → α <+: α' → H' p = some (.lst vs) → B' p = none → F.H0 p = none → p ∉ α' → Reps K B' α' ds vs → Q (.ref p) H') ∧ ErOk K F W B σ Γ E
def rdA (E : ER) (Γ : Env) (Λ : Cells) (P : List D → Cells → Prop) : TA := fun σ H Q => ∃ B α, Sat K F B α Γ Λ σ H ∧
  (∀ ds Λ' vs B' α' H', P ds Λ' → Sat K F B' α' Γ Λ' σ H' → Ex B B' → α <+: α' → Reps K B' α' ds vs → Q vs H') ∧ ErOk K F W B σ Γ E
def rdT (E : ER) (Γ : Env) (Λ : Cells) (P : Bool → Cells → Prop) : TT := fun σ H Q => ∃ B α, Sat K F B α Γ Λ σ H ∧
  (∀ b Λ' B' α' H', P b Λ' → Sat K F B' α' Γ Λ' σ H' → Ex B B' → α <+: α' → Q b H') ∧ ErOk K F W B σ Γ E
end
/-- what a def hands back: a datum; a new list -/
inductive Res where
  | val (d : D)
  | new (ds : List D)
def ResAt (K : PySem.W.Frag) (F : Fm) (B : Hp) (α : List Addr) (H : Hp) (v : V) : Res → Prop
  | .val d => Rep K B α d v
  | .new ds => ∃ p vs, v = .ref p ∧ H p = some (.lst vs) ∧ B p = none ∧ F.H0 p = none ∧ p ∉ α ∧ Reps K B α ds vs
/-- the wishes of a statement -/
structure Rs where
  nx : Env → Cells → Prop
  rt : Res → Cells → Prop
  bk : Env → Cells → Prop := fun _ _ => False
  ct : Env → Cells → Prop := fun _ _ => False
  er : ER := ER.none
section
variable (K : PySem.W.Frag) (F : Fm) (W : WX)
def nxOk (B : Hp) (R : Env → Cells → Prop) (q : L2.St → Hp → Prop) : Prop := ∀ Γ' Λ' B' α' σ' H', R Γ' Λ' → Sat K F B' α' Γ' Λ' σ' H' → Ex B B' → q σ' H'
def rtOk (B : Hp) (R : Res → Cells → Prop) (q : VK) : Prop := ∀ d Λ' v Γ' B' α' σ' H', R d Λ' → Sat K F B' α' Γ' Λ' σ' H' → Ex B B' → ResAt K F B' α' H' v d → q v H'
def erOk (B : Hp) (E : ER) : Prop := ∀ err Γ' Λ' B' α' σ' H' c dx, E err Γ' Λ' → Sat K F B' α' Γ' Λ' σ' H' → Ex B B' → ErrAt K F B' α' H' err c dx → W c dx σ' H'
structure EndsOk (B : Hp) (R : Rs) (D : Ends) : Prop where
  nx : nxOk K F B R.nx D.nx
  rt : rtOk K F B R.rt D.rt
  bk : nxOk K F B R.bk D.bk
  ct : nxOk K F B R.ct D.ct
  er : erOk K F W B R.er
def rdS (Γ : Env) (Λ : Cells) (R : Rs) : TS := fun D σ H => ∃ B α, Sat K F B α Γ Λ σ H ∧ EndsOk K F W B R D
end
section
variable {K : PySem.W.Frag} {F : Fm} {W : WX} {B B' : Hp} {σ : L2.St} {Γ : Env} {E : ER} {R : Rs} {D' : Ends}
theorem erOk.at (h : erOk K F W B E) : ErOk K F W B σ Γ E := fun err Λ' B' α' H' c dx e S x q => h err Γ Λ' B' α' σ H' c dx e S x q
theorem ErOk.mono (h : ErOk K F W B σ Γ E) (e : Ex B B') : ErOk K F W B' σ Γ E := fun err Λ' B1 α' H' c dx q S x r => h err Λ' B1 α' H' c dx q S (e.trans x) r
theorem nxOk.mono {R : Env → Cells → Prop} {q : L2.St → Hp → Prop} (h : nxOk K F B R q) (e : Ex B B') : nxOk K F B' R q := fun Γ' Λ' B1 α' σ' H' r S x => h Γ' Λ' B1 α' σ' H' r S (e.trans x)
theorem rtOk.mono {R : Res → Cells → Prop} {q : VK} (h : rtOk K F B R q) (e : Ex B B') : rtOk K F B' R q := fun d Λ' v Γ' B1 α' σ' H' r S x p => h d Λ' v Γ' B1 α' σ' H' r S (e.trans x) p
theorem erOk.mono (h : erOk K F W B E) (e : Ex B B') : erOk K F W B' E := fun err Γ' Λ' B1 α' σ' H' c dx q S x r => h err Γ' Λ' B1 α' σ' H' c dx q S (e.trans x) r
theorem EndsOk.mono (h : EndsOk K F W B R D') (e : Ex B B') : EndsOk K F W B' R D' := ⟨h.nx.mono e, h.rt.mono e, h.bk.mono e, h.ct.mono e, h.er.mono e⟩
end

def WE (C : Ctx) (E : ER) (Γ : Env) (Λ : Cells) (e : Expr) (P : D → Cells → Prop) : Prop := ∀ X F W, C.Is X → Takes X W → PE X e (rdE C.K F W E Γ Λ P)
def WN (C : Ctx) (E : ER) (Γ : Env) (Λ : Cells) (e : Expr) (P : List D → Cells → Prop) : Prop := ∀ X F W, C.Is X → Takes X W → PE X e (rdN C.K F W E Γ Λ P)
def WA (C : Ctx) (E : ER) (Γ : Env) (Λ : Cells) (es : List Expr) (P : List D → Cells → Prop) : Prop := ∀ X F W, C.Is X → Takes X W → PA X es (rdA C.K F W E Γ Λ P)
def WT (C : Ctx) (E : ER) (Γ : Env) (Λ : Cells) (e : Expr) (P : Bool → Cells → Prop) : Prop := ∀ X F W, C.Is X → Takes X W → PT X e (rdT C.K F W E Γ Λ P)
def WS (C : Ctx) (Γ : Env) (Λ : Cells) (s : Stmt) (R : Rs) : Prop := ∀ X F W, C.Is X → F.α0.length ≤ C.m → Takes X W → PS X s (rdS C.K F W Γ Λ R)
def WSs (C : Ctx) (Γ : Env) (Λ : Cells) (s : List Stmt) (R : Rs) : Prop := ∀ X F W, C.Is X → F.α0.length ≤ C.m → Takes X W → PSs X s (rdS C.K F W Γ Λ R)

/-! ### the union of all readings -/
section
variable {X : Cx}
def UE (X : Cx) (e : Expr) : TE := fun σ H Q => ∃ t, PE X e t ∧ t σ H Q
def UA (X : Cx) (e : List Expr) : TA := fun σ H Q => ∃ t, PA X e t ∧ t σ H Q
def UT (X : Cx) (e : Expr) : TT := fun σ H Q => ∃ t, PT X e t ∧ t σ H Q
def UW (X : Cx) (e : Expr) : TT := fun σ H Q => ∃ t, PW X e t ∧ t σ H Q
def US (X : Cx) (s : Stmt) : TS := fun D σ H => ∃ t, PS X s t ∧ t D σ H
def USs (X : Cx) (s : List Stmt) : TS := fun D σ H => ∃ t, PSs X s t ∧ t D σ H
theorem pe_U {e : Expr} : PE X e (UE X e) := ⟨fun pins s σ H Q I ⟨_, h, q⟩ => h.run pins s σ H Q I q⟩
theorem pa_U {e : List Expr} : PA X e (UA X e) := ⟨fun pos pins s σ H Q I ⟨_, h, q⟩ => h.run pos pins s σ H Q I q⟩
theorem pt_U {e : Expr} : PT X e (UT X e) := ⟨fun pins s σ H Q I ⟨_, h, q⟩ => h.run pins s σ H Q I q⟩
theorem pw_U {e : Expr} : PW X e (UW X e) := ⟨fun wh pins s σ H Q I ⟨_, h, q⟩ => h.run wh pins s σ H Q I q⟩
theorem ps_U {s : Stmt} : PS X s (US X s) := ⟨fun pins s σ H D I ⟨_, h, q⟩ => h.run pins s σ H D I q⟩
theorem pss_U {s : List Stmt} : PSs X s (USs X s) := ⟨fun pins s σ H D I ⟨_, h, q⟩ => h.run pins s σ H D I q⟩
theorem pe_imp {e : Expr} {t t' : TE} (h : PE X e t) (i : ∀ σ H Q, t' σ H Q → t σ H Q) : PE X e t' := ⟨fun pins s σ H Q I q => h.run pins s σ H Q I (i σ H Q q)⟩
theorem pa_imp {e : List Expr} {t t' : TA} (h : PA X e t) (i : ∀ σ H Q, t' σ H Q → t σ H Q) : PA X e t' := ⟨fun pos pins s σ H Q I q => h.run pos pins s σ H Q I (i σ H Q q)⟩
theorem pt_imp {e : Expr} {t t' : TT} (h : PT X e t) (i : ∀ σ H Q, t' σ H Q → t σ H Q) : PT X e t' := ⟨fun pins s σ H Q I q => h.run pins s σ H Q I (i σ H Q q)⟩
theorem pw_imp {e : Expr} {t t' : TT} (h : PW X e t) (i : ∀ σ H Q, t' σ H Q → t σ H Q) : PW X e t' := ⟨fun wh pins s σ H Q I q => h.run wh pins s σ H Q I (i σ H Q q)⟩
theorem ps_imp {s : Stmt} {t t' : TS} (h : PS X s t) (i : ∀ D σ H, t' D σ H → t D σ H) : PS X s t' := ⟨fun pins s σ H D I q => h.run pins s σ H D I (i D σ H q)⟩
theorem pss_imp {s : List Stmt} {t t' : TS} (h : PSs X s t) (i : ∀ D σ H, t' D σ H → t D σ H) : PSs X s t' := ⟨fun pins s σ H D I q => h.run pins s σ H D I (i D σ H q)⟩
end

section
variable {C : Ctx} {E : ER} {Γ : Env} {Λ : Cells} {X : Cx} {F : Fm} {W : WX} {B : Hp} {α : List Addr} {σ : L2.St} {H : Hp}
theorem WE.use {e : Expr} {P : D → Cells → Prop} {Q : VK} (h : WE C E Γ Λ e P) (is : C.Is X) (tk : Takes X W) (S : Sat C.K F B α Γ Λ σ H) (er : ErOk C.K F W B σ Γ E)
    (q : ∀ d Λ' v B' α' H', P d Λ' → Sat C.K F B' α' Γ Λ' σ H' → Ex B B' → α <+: α' → Rep C.K B' α' d v → Q v H') : UE X e σ H Q := ⟨_, h X F W is tk, B, α, S, q, er⟩
theorem WN.use {e : Expr} {P : List D → Cells → Prop} {Q : VK} (h : WN C E Γ Λ e P) (is : C.Is X) (tk : Takes X W) (S : Sat C.K F B α Γ Λ σ H) (er : ErOk C.K F W B σ Γ E)
    (q : ∀ ds Λ' p vs B' α' H', P ds Λ' → Sat C.K F B' α' Γ Λ' σ H' → Ex B B' → α <+: α' → H' p = some (.lst vs) → B' p = none → F.H0 p = none → p ∉ α' → Reps C.K B' α' ds vs → Q (.ref p) H') : UE X e σ H Q := ⟨_, h X F W is tk, B, α, S, q, er⟩
theorem WA.use {e : List Expr} {P : List D → Cells → Prop} {Q : List V → Hp → Prop} (h : WA C E Γ Λ e P) (is : C.Is X) (tk : Takes X W) (S : Sat C.K F B α Γ Λ σ H) (er : ErOk C.K F W B σ Γ E)
    (q : ∀ ds Λ' vs B' α' H', P ds Λ' → Sat C.K F B' α' Γ Λ' σ H' → Ex B B' → α <+: α' → Reps C.K B' α' ds vs → Q vs H') : UA X e σ H Q := ⟨_, h X F W is tk, B, α, S, q, er⟩
theorem WT.use {e : Expr} {P : Bool → Cells → Prop} {Q : Bool → Hp → Prop} (h : WT C E Γ Λ e P) (is : C.Is X) (tk : Takes X W) (S : Sat C.K F B α Γ Λ σ H) (er : ErOk C.K F W B σ Γ E)
    (q : ∀ b Λ' B' α' H', P b Λ' → Sat C.K F B' α' Γ Λ' σ H' → Ex B B' → α <+: α' → Q b H') : UT X e σ H Q := ⟨_, h X F W is tk, B, α, S, q, er⟩
theorem WS.use {s : Stmt} {R : Rs} {D : Ends} (h : WS C Γ Λ s R) (is : C.Is X) (hm : F.α0.length ≤ C.m) (tk : Takes X W) (S : Sat C.K F B α Γ Λ σ H) (q : EndsOk C.K F W B R D) : US X s D σ H := ⟨_, h X F W is hm tk, B, α, S, q⟩
theorem WSs.use {s : List Stmt} {R : Rs} {D : Ends} (h : WSs C Γ Λ s R) (is : C.Is X) (hm : F.α0.length ≤ C.m) (tk : Takes X W) (S : Sat C.K F B α Γ Λ σ H) (q : EndsOk C.K F W B R D) : USs X s D σ H := ⟨_, h X F W is hm tk, B, α, S, q⟩
end

/-! ### weaker wishes -/
section
variable {C : Ctx} {E : ER} {Γ : Env} {Λ : Cells}
theorem we_mono {e : Expr} {P P' : D → Cells → Prop} (h : WE C E Γ Λ e P) (i : ∀ d Λ', P d Λ' → P' d Λ') : WE C E Γ Λ e P' := fun X F W is tk =>
  pe_imp (h X F W is tk) fun σ H Q ⟨B, α, S, q, er⟩ => ⟨B, α, S, fun d Λ' v B' α' H' p => q d Λ' v B' α' H' (i d Λ' p), er⟩
theorem wa_mono {e : List Expr} {P P' : List D → Cells → Prop} (h : WA C E Γ Λ e P) (i : ∀ d Λ', P d Λ' → P' d Λ') : WA C E Γ Λ e P' := fun X F W is tk =>
  pa_imp (h X F W is tk) fun σ H Q ⟨B, α, S, q, er⟩ => ⟨B, α, S, fun ds Λ' vs B' α' H' hp => q ds Λ' vs B' α' H' (i ds Λ' hp), er⟩
theorem wt_mono {e : Expr} {P P' : Bool → Cells → Prop} (h : WT C E Γ Λ e P) (i : ∀ d Λ', P d Λ' → P' d Λ') : WT C E Γ Λ e P' := fun X F W is tk =>
  pt_imp (h X F W is tk) fun σ H Q ⟨B, α, S, q, er⟩ => ⟨B, α, S, fun b Λ' B' α' H' hp => q b Λ' B' α' H' (i b Λ' hp), er⟩
structure Rs.Le (R R' : Rs) : Prop where
  nx : ∀ Γ Λ, R.nx Γ Λ → R'.nx Γ Λ := by intros; assumption
  rt : ∀ d Λ, R.rt d Λ → R'.rt d Λ := by intros; assumption
  bk : ∀ Γ Λ, R.bk Γ Λ → R'.bk Γ Λ := by intros; assumption
  ct : ∀ Γ Λ, R.ct Γ Λ → R'.ct Γ Λ := by intros; assumption
  er : ∀ e Γ Λ, R.er e Γ Λ → R'.er e Γ Λ := by intros; assumption
theorem EndsOk.le {K : PySem.W.Frag} {F : Fm} {W : WX} {B : Hp} {R R' : Rs} {D : Ends} (h : EndsOk K F W B R' D) (i : R.Le R') : EndsOk K F W B R D :=
  ⟨fun Γ' Λ' B' α' σ' H' r => h.nx Γ' Λ' B' α' σ' H' (i.nx _ _ r), fun d Λ' v Γ' B' α' σ' H' r => h.rt d Λ' v Γ' B' α' σ' H' (i.rt _ _ r), fun Γ' Λ' B' α' σ' H' r => h.bk Γ' Λ' B' α' σ' H' (i.bk _ _ r), fun Γ' Λ' B' α' σ' H' r => h.ct Γ' Λ' B' α' σ' H' (i.ct _ _ r),
   fun err Γ' Λ' B' α' σ' H' c dx r => h.er err Γ' Λ' B' α' σ' H' c dx (i.er _ _ _ r)⟩
theorem ws_mono {s : Stmt} {R R' : Rs} (h : WS C Γ Λ s R) (i : R.Le R') : WS C Γ Λ s R' := fun X F W is hm tk =>
  ps_imp (h X F W is hm tk) fun D σ H ⟨B, α, S, q⟩ => ⟨B, α, S, q.le i⟩
theorem wss_mono {s : List Stmt} {R R' : Rs} (h : WSs C Γ Λ s R) (i : R.Le R') : WSs C Γ Λ s R' := fun X F W is hm tk =>
  pss_imp (h X F W is hm tk) fun D σ H ⟨B, α, S, q⟩ => ⟨B, α, S, q.le i⟩
end

/-! ### names, constants -/
section
variable {C : Ctx} {E : ER} {Γ : Env} {Λ : Cells} {P : D → Cells → Prop} {pos : Pos}
theorem we_name {i : Nat} {x : Str} {d : D} (hi : C.N[i]? = some x) (hv : C.vs[i]? = some true) (hg : Γ[i]? = some (some d)) (p : P d Λ)
    (hd : (x == ("__debug__" : Str)) = false := by decide) (hcd : (x == ("__classdict__" : Str)) = false := by decide) : WE C E Γ Λ (.Name x pos) P := fun X F W is tk => by
  refine pe_imp (pe_var (is.ni hi) (is.vis hi hv) hd hcd) fun σ H Q ⟨B, α, S, q, er⟩ => ?_
  obtain ⟨v, h1, h2⟩ := S.sl i d hg
  exact ⟨v, h1, q d Λ v B α H p S (Ex.refl B) (List.prefix_refl _) h2⟩
theorem we_int {i : Int} {j : Nat} (p : P (.int i) Λ) : WE C E Γ Λ (.Constant (.int i) j pos) P := fun X F W is tk =>
  pe_imp pe_int fun σ H Q ⟨B, α, S, q, er⟩ => q _ Λ _ B α H p S (Ex.refl B) (List.prefix_refl _) rfl
theorem we_bl {b : Bool} {j : Nat} (p : P (.bl b) Λ) : WE C E Γ Λ (.Constant (.bool b) j pos) P := fun X F W is tk =>
  pe_imp pe_bl fun σ H Q ⟨B, α, S, q, er⟩ => q _ Λ _ B α H p S (Ex.refl B) (List.prefix_refl _) rfl
theorem we_non {j : Nat} (p : P .non Λ) : WE C E Γ Λ (.Constant .none j pos) P := fun X F W is tk =>
  pe_imp pe_non fun σ H Q ⟨B, α, S, q, er⟩ => q _ Λ _ B α H p S (Ex.refl B) (List.prefix_refl _) rfl
theorem we_str {s : Str} {j : Nat} (p : P (.str s) Λ) : WE C E Γ Λ (.Constant (.str s) j pos) P := fun X F W is tk =>
  pe_imp pe_str fun σ H Q ⟨B, α, S, q, er⟩ => q _ Λ _ B α H p S (Ex.refl B) (List.prefix_refl _) rfl
/-- a module's constant, class, def; a built-in type as a value -/
theorem we_glob {x : Str} {v : V} {u : Value} (hj : GlAt C x) (hm : C.mg x = some u) (r : RelV v u) {d : D} (hr : ∀ B α, Rep C.K B α d v) (p : P d Λ) (hd : (x == ("__debug__" : Str)) = false := by decide) : WE C E Γ Λ (.Name x pos) P := fun X F W is tk =>
  pe_imp (pe_glob (is.gl hj) (by rw [is.mg]; exact hm) r hd) fun σ H Q ⟨B, α, S, q, er⟩ => q _ Λ _ B α H p S (Ex.refl B) (List.prefix_refl _) (hr B α)
theorem we_blt {x : Str} {v : V} {u : Value} (hj : GlAt C x) (hm : C.mg x = none) (hv : bootBuiltins x = some u) (r : RelV v u) (p : P (.raw v) Λ) (hn : x ≠ "__name__" := by decide) (hd : (x == ("__debug__" : Str)) = false := by decide) : WE C E Γ Λ (.Name x pos) P := fun X F W is tk =>
  pe_imp (pe_bltn (is.gl hj) (by rw [is.mg]; exact hm) hv r hn hd) fun σ H Q ⟨B, α, S, q, er⟩ => q _ Λ _ B α H p S (Ex.refl B) (List.prefix_refl _) rfl

/-- a new list: seen from now on by the view; or owned -/
theorem we_f {e : Expr} (h : WN C E Γ Λ e fun ds Λ' => P (.lst ds) Λ') : WE C E Γ Λ e P := fun X F W is tk => by
  refine pe_imp (h X F W is tk) fun σ H Q ⟨B, α, S, q, er⟩ => ⟨B, α, S, fun ds Λ' p vs B' α' H' hp S' e pf h1 h2 h3 h4 h5 => ?_, er⟩
  have hx : Ex B' (upd B' p (.lst vs)) := Ex.new h2
  refine q _ Λ' _ (upd B' p (.lst vs)) α' H' hp (S'.see h1 h2 h3 h4) (e.trans hx) pf ?_
  show Rep C.K _ α' (.lst ds) (.ref p)
  unfold Rep
  exact ⟨p, vs, rfl, upd_same, h5.mono hx (List.prefix_refl _)⟩
end
/-- a thing of the heap that is new is owned from now on -/
theorem Sat.adopt {K : PySem.W.Frag} {F : Fm} {B : Hp} {α : List Addr} {Γ : Env} {Λ : Cells} {σ : L2.St} {H : Hp} {p : Addr} {c : Cell} (S : Sat K F B α Γ Λ σ H) (hB : B p = none) (h0 : F.H0 p = none) (hα : p ∉ α) (hH : H p ≠ none)
    (hc : CellAt K B (α ++ [p]) H p c) (hg0 : c ≠ .gone := by intro q; cases q) : Sat K F B (α ++ [p]) Γ (Λ ++ [c]) σ H := by
  refine { S with pf := S.pf.trans (List.prefix_append _ _), nd := ?_, al := by simp [S.al], ce := fun n c' h hg => ?_, ah := fun a ha => ?_, sl := fun i d h => ?_, tb := S.tb.own (hc.celly hg0) }
  · rw [List.nodup_append]
    refine ⟨S.nd, List.nodup_cons.mpr ⟨by simp, List.nodup_nil⟩, fun a ha b hb e => ?_⟩
    simp at hb; subst hb; subst e; exact hα ha
  · by_cases hn : n < Λ.length
    · rw [List.getElem?_append_left hn] at h
      obtain ⟨a, h1, h2, h3, h4⟩ := S.ce n c' h hg
      exact ⟨a, pre_get (List.prefix_append _ _) h1, h2, h3, h4.mono (Ex.refl B) (List.prefix_append _ _) fun u q _ => q⟩
    · have hlt : n < (Λ ++ [c]).length := (List.getElem?_eq_some_iff.mp h).1
      have hn' : n = Λ.length := by simp at hlt; omega
      subst hn'
      rw [List.getElem?_append_right (Nat.le_refl _)] at h
      simp at h; subst h
      refine ⟨p, by rw [← S.al, List.getElem?_append_right (Nat.le_refl _)]; simp, hB, .inl h0, hc⟩
  · rcases List.mem_append.mp ha with h | h
    · exact S.ah a h
    · simp at h; subst h; exact ⟨hH, .inl h0⟩
  · obtain ⟨v, h1, h2⟩ := S.sl i d h
    exact ⟨v, h1, h2.mono (Ex.refl B) (List.prefix_append _ _)⟩
section
variable {C : Ctx} {E : ER} {Γ : Env} {Λ : Cells} {P : D → Cells → Prop} {pos : Pos}
theorem we_o {e : Expr} (h : WN C E Γ Λ e fun ds Λ' => P (.loc Λ'.length) (Λ' ++ [.lst ds])) : WE C E Γ Λ e P := fun X F W is tk => by
  refine pe_imp (h X F W is tk) fun σ H Q ⟨B, α, S, q, er⟩ => ⟨B, α, S, fun ds Λ' p vs B' α' H' hp S' e pf h1 h2 h3 h4 h5 => ?_, er⟩
  refine q _ _ _ B' (α' ++ [p]) H' hp (S'.adopt h2 h3 h4 (by rw [h1]; simp) ⟨vs, h1, h5.mono (Ex.refl _) (List.prefix_append _ _)⟩) e (pf.trans (List.prefix_append _ _)) ?_
  show Rep C.K _ _ (.loc _) (.ref p)
  unfold Rep
  exact ⟨p, rfl, by rw [← S'.al, List.getElem?_append_right (Nat.le_refl _)]; simp⟩
end

/-! ### argument lists -/
section
variable {C : Ctx} {E : ER} {Γ : Env} {Λ : Cells}
/-- no star stands there -/
def plainE : Expr → Bool
  | .Starred _ _ => false
  | _ => true
theorem star_plain {e : Expr} {es : List Expr} {env : PySem.Env} (h : plainE e = true) : starEach (e :: es) env = (false, eval e env) :: starEach es env := by
  cases e <;> first | rfl | cases h
theorem wa_nil {P : List D → Cells → Prop} (p : P [] Λ) : WA C E Γ Λ [] P := fun X F W is tk =>
  pa_imp pa_nil fun σ H Q ⟨B, α, S, q, er⟩ => q [] Λ [] B α H p S (Ex.refl B) (List.prefix_refl _) .nil
theorem wa_cons {e : Expr} {es : List Expr} {P : List D → Cells → Prop} (h : WE C E Γ Λ e fun d Λ1 => WA C E Γ Λ1 es fun ds Λ2 => P (d :: ds) Λ2) (he : plainE e = true := by rfl) : WA C E Γ Λ (e :: es) P := fun X F W is tk => by
  refine pa_imp (pa_cons pe_U pa_U (star_plain he)) fun σ H Q ⟨B, α, S, q, er⟩ => ?_
  refine WE.use h is tk S er fun d Λ1 v B1 α1 H1 p1 S1 e1 f1 r1 => ?_
  refine WA.use p1 is tk S1 (er.mono e1) fun ds Λ2 vs B2 α2 H2 p2 S2 e2 f2 r2 => ?_
  exact q _ Λ2 _ B2 α2 H2 p2 S2 (e1.trans e2) (f1.trans f2) (.cons (r1.mono e2 f2) r2)
/-- a list of written items -/
theorem wn_lst {es : List Expr} {pos : Pos} {P : List D → Cells → Prop} (h : WA C E Γ Λ es fun ds Λ' => ds.length ≤ sizeLine ∧ P ds Λ') : WN C E Γ Λ (.List es pos) P := fun X F W is tk => by
  refine pe_imp (pe_lst pa_U) fun σ H Q ⟨B, α, S, q, er⟩ => ?_
  refine WA.use h is tk S er fun ds Λ1 vs B1 α1 H1 p1 S1 e1 f1 r1 => ⟨by rw [r1.length]; exact p1.1, fun p hp => ?_⟩
  exact q ds Λ1 p vs B1 α1 _ p1.2 (S1.grow (Ex.new hp)) e1 f1 upd_same (S1.bh.back hp) (S1.dm p hp) (fun ha => (S1.ah p ha).1 hp) r1
theorem we_tup {es : List Expr} {x1} {pos : Pos} {P : D → Cells → Prop} (h : WA C E Γ Λ es fun ds Λ' => ds.length ≤ sizeLine ∧ P (.tup ds) Λ') : WE C E Γ Λ (.Tuple es x1 pos) P := fun X F W is tk => by
  refine pe_imp (pe_tupX pa_U) fun σ H Q ⟨B, α, S, q, er⟩ => ?_
  refine WA.use h is tk S er fun ds Λ1 vs B1 α1 H1 p1 S1 e1 f1 r1 => ⟨by rw [r1.length]; exact p1.1, fun p its hp => ?_⟩
  have hx : Ex B1 (upd B1 p (.frz (tupO its) (.tup vs))) := Ex.new (S1.bh.back hp)
  refine q _ Λ1 _ (upd B1 p (.frz (tupO its) (.tup vs))) α1 _ p1.2 (S1.lay hp) (e1.trans hx) f1 ?_
  show Rep C.K _ α1 (.tup ds) (.ref p)
  unfold Rep
  exact ⟨p, vs, rfl, SqX.new upd_same, r1.mono hx (List.prefix_refl _)⟩
end

/-! ### two-place operations by data -/
/-- what a two-place operation by values does to data -/
def OpK (K : PySem.W.Frag) (r : R2) (x y : D) (Γ : Env) (Λ : Cells) (P : D → Cells → Prop) : Prop := ∀ F B α σ H vx vy (Q : VK), Sat K F B α Γ Λ σ H → Rep K B α x vx → Rep K B α y vy →
  (∀ d Λ' v B' α' H', P d Λ' → Sat K F B' α' Γ Λ' σ H' → Ex B B' → α <+: α' → Rep K B' α' d v → Q v H') → r vx vy H Q
/-- .. to a value that is no new thing -/
theorem OpK.val {K : PySem.W.Frag} {r : R2} {x y z : D} {Γ : Env} {Λ : Cells} {P : D → Cells → Prop} (p : P z Λ) (h : ∀ F B α σ H vx vy (Q : VK), Sat K F B α Γ Λ σ H → Rep K B α x vx → Rep K B α y vy → (∀ v, Rep K B α z v → Q v H) → r vx vy H Q) : OpK K r x y Γ Λ P :=
  fun F B α σ H vx vy Q S rx ry q => h F B α σ H vx vy Q S rx ry fun v rv => q z Λ v B α H p S (Ex.refl B) (List.prefix_refl _) rv
section
variable {C : Ctx} {E : ER} {Γ : Env} {Λ : Cells} {P : D → Cells → Prop} {pos : Pos} {a b : Expr}
theorem we_opK {op : Operator} {r : R2} (ho : ∀ X, C.Is X → OpR X (binaryOp op) r) (h : WE C E Γ Λ a fun x Λ1 => WE C E Γ Λ1 b fun y Λ2 => OpK C.K r x y Γ Λ2 P) : WE C E Γ Λ (.BinOp a op b pos) P := fun X F W is tk => by
  refine pe_imp (pe_op (ho X is) pe_U pe_U) fun σ H Q ⟨B, α, S, q, er⟩ => ?_
  refine WE.use h is tk S er fun x Λ1 vx B1 α1 H1 p1 S1 e1 f1 r1 => ?_
  refine WE.use p1 is tk S1 (er.mono e1) fun y Λ2 vy B2 α2 H2 p2 S2 e2 f2 r2 => ?_
  exact p2 F B2 α2 σ H2 vx vy Q S2 (r1.mono e2 f2) r2 fun d Λ' v B' α' H' p' S' e' f' r' => q d Λ' v B' α' H' p' S' ((e1.trans e2).trans e') ((f1.trans f2).trans f') r'
theorem we_cmpK {op : CmpOp} {r : R2} (ho : ∀ X, C.Is X → OpR X (compareOp op) r) (h : WE C E Γ Λ a fun x Λ1 => WE C E Γ Λ1 b fun y Λ2 => OpK C.K r x y Γ Λ2 P) (hm : behindInMarks op b = false) : WE C E Γ Λ (.Compare a [op] [b] pos) P := fun X F W is tk => by
  refine pe_imp (pe_cmpR (ho X is) pe_U pe_U hm) fun σ H Q ⟨B, α, S, q, er⟩ => ?_
  refine WE.use h is tk S er fun x Λ1 vx B1 α1 H1 p1 S1 e1 f1 r1 => ?_
  refine WE.use p1 is tk S1 (er.mono e1) fun y Λ2 vy B2 α2 H2 p2 S2 e2 f2 r2 => ?_
  exact p2 F B2 α2 σ H2 vx vy Q S2 (r1.mono e2 f2) r2 fun d Λ' v B' α' H' p' S' e' f' r' => q d Λ' v B' α' H' p' S' ((e1.trans e2).trans e') ((f1.trans f2).trans f') r'
/-- a test that is a comparison -/
theorem wt_cmpK {op : CmpOp} {r : R2} {P : Bool → Cells → Prop} (ho : ∀ X, C.Is X → OpR X (compareOp op) r) (h : WE C E Γ Λ a fun x Λ1 => WE C E Γ Λ1 b fun y Λ2 => OpK C.K r x y Γ Λ2 fun d Λ3 => ∃ c, d = .bl c ∧ P c Λ3) (hm : behindInMarks op b = false) : WT C E Γ Λ (.Compare a [op] [b] pos) P := fun X F W is tk => by
  refine pt_imp (pt_cmpR (ho X is) pe_U pe_U hm) fun σ H Q ⟨B, α, S, q, er⟩ => ?_
  refine WE.use h is tk S er fun x Λ1 vx B1 α1 H1 p1 S1 e1 f1 r1 => ?_
  refine WE.use p1 is tk S1 (er.mono e1) fun y Λ2 vy B2 α2 H2 p2 S2 e2 f2 r2 => ?_
  refine p2 F B2 α2 σ H2 vx vy _ S2 (r1.mono e2 f2) r2 fun d Λ' v B' α' H' p' S' e' f' r' => ?_
  obtain ⟨c, rfl, p'⟩ := p'
  exact ⟨c, r', q c Λ' B' α' H' p' S' ((e1.trans e2).trans e') ((f1.trans f2).trans f')⟩
end
end Pl

namespace Pl
open PySem L2 PyProof.Rows

/-! ### looking through a cell -/
/-- a cell's number is read as what stands in the cell -/
def vw (Λ : Cells) : D → D
  | .loc n => match Λ[n]? with
    | some (.lst ds) => .lst ds
    | some (.dic ks ds) => .dic ks ds
    | some (.ins C ns ds) => .ins C ns ds
    | _ => .loc n
  | d => d
section
variable {K : PySem.W.Frag} {F : Fm} {B : Hp} {α : List Addr} {Γ : Env} {Λ : Cells} {σ : L2.St} {H : Hp}
/-- a list, wherever it stands -/
theorem Sat.lst (S : Sat K F B α Γ Λ σ H) {x : D} {v : V} {ds : List D} (r : Rep K B α x v) (e : vw Λ x = .lst ds) : ∃ a vs, v = .ref a ∧ H a = some (.lst vs) ∧ Reps K B α ds vs := by
  cases x with
  | lst es =>
    cases e
    unfold Rep at r
    obtain ⟨a, vs, h1, h2, h3⟩ := r
    exact ⟨a, vs, h1, S.bh _ _ h2, h3⟩
  | loc n =>
    unfold Rep at r
    obtain ⟨a, h1, h2⟩ := r
    simp only [vw] at e
    cases hc : Λ[n]? with
    | none => rw [hc] at e; cases e
    | some c =>
      rw [hc] at e
      cases c <;> simp at e
      subst e
      obtain ⟨a', q1, q2, q3, q4⟩ := S.ce n _ hc (by simp)
      rw [h2] at q1; cases q1
      obtain ⟨vs, q5, q6⟩ := q4
      exact ⟨a, vs, h1, q5, q6⟩
  | _ => cases e
/-- a sequence: a list, a locked list, a tuple -/
def seqD (Λ : Cells) (x : D) : Option (List D) := match vw Λ x with
  | .lst ds => some ds
  | .fzl ds => some ds
  | .tup ds => some ds
  | _ => none
theorem Sat.seq (S : Sat K F B α Γ Λ σ H) {x : D} {v : V} {ds : List D} (r : Rep K B α x v) (e : seqD Λ x = some ds) : ∃ a vs, v = .ref a ∧ (SqL K H a vs ∨ SqT K H a vs) ∧ Reps K B α ds vs := by
  unfold seqD at e
  split at e
  · rename_i es he
    cases e
    obtain ⟨a, vs, h1, h2, h3⟩ := S.lst r he
    exact ⟨a, vs, h1, .inl (SqL.of h2), h3⟩
  · rename_i es he
    cases e
    cases x with
    | fzl es' =>
      cases he
      unfold Rep at r
      obtain ⟨a, vs, h1, h2, h3⟩ := r
      exact ⟨a, vs, h1, .inl (S.bh.sqL h2), h3⟩
    | loc n =>
      simp only [vw] at he
      cases hc : Λ[n]? with
      | none => rw [hc] at he; cases he
      | some c => rw [hc] at he; cases c <;> simp at he
    | _ => cases he
  · rename_i es he
    cases e
    cases x with
    | tup es' =>
      cases he
      unfold Rep at r
      obtain ⟨a, vs, h1, h2, h3⟩ := r
      exact ⟨a, vs, h1, .inr (S.bh.sqT h2.1), h3⟩
    | loc n =>
      simp only [vw] at he
      cases hc : Λ[n]? with
      | none => rw [hc] at he; cases he
      | some c => rw [hc] at he; cases c <;> simp at he
    | _ => cases he
  · cases e
/-- .. a list alone -/
def lstD (Λ : Cells) (x : D) : Option (List D) := match vw Λ x with
  | .lst ds => some ds
  | .fzl ds => some ds
  | _ => none
theorem Sat.seqL (S : Sat K F B α Γ Λ σ H) {x : D} {v : V} {ds : List D} (r : Rep K B α x v) (e : lstD Λ x = some ds) : ∃ a vs, v = .ref a ∧ SqL K H a vs ∧ Reps K B α ds vs := by
  unfold lstD at e
  split at e
  · rename_i es he
    cases e
    obtain ⟨a, vs, h1, h2, h3⟩ := S.lst r he
    exact ⟨a, vs, h1, SqL.of h2, h3⟩
  · rename_i es he
    cases e
    cases x with
    | fzl es' =>
      cases he
      unfold Rep at r
      obtain ⟨a, vs, h1, h2, h3⟩ := r
      exact ⟨a, vs, h1, S.bh.sqL h2, h3⟩
    | loc n =>
      simp only [vw] at he
      cases hc : Λ[n]? with
      | none => rw [hc] at he; cases he
      | some c => rw [hc] at he; cases c <;> simp at he
    | _ => cases he
  · cases e
end

/-! ### arithmetic -/
section
variable {C : Ctx} {E : ER} {Γ : Env} {Λ : Cells} {P : D → Cells → Prop} {pos : Pos} {a b : Expr}
/-- what + does -/
def addP (Λ : Cells) (x y : D) (P : D → Prop) : Prop := match vw Λ x, vw Λ y with
  | .int i, .int j => P (.int (i + j))
  | .str s, .str t => s.length + t.length ≤ sizeLine ∧ P (.str (s ++ t))
  | .tup xs, .tup ys => xs.length + ys.length ≤ sizeLine ∧ P (.tup (xs ++ ys))
  | .lst xs, .lst ys => xs.length + ys.length ≤ sizeLine ∧ P (.lst (xs ++ ys))
  | _, _ => False
def rAdd (K : PySem.W.Frag) : R2 := fun x y H Q => (rI0 (fun i j => .int (i + j)) x y H Q) ∨ ((∃ i j, x = .str i ∧ y = .str j ∧ i.length + j.length ≤ sizeLine ∧ Q (.str (i ++ j)) H) ∨ (rCatX K x y H Q ∨ rCat x y H Q))
theorem op_addA {X : Cx} : OpR X (binaryOp .Add) (rAdd X.K) := op_add.or (op_add_str.or (op_catX.or op_cat))
theorem add_K {K : PySem.W.Frag} {x y : D} (h : addP Λ x y fun d => P d Λ) : OpK K (rAdd K) x y Γ Λ P := by
  intro F B α σ H vx vy Q S rx ry q
  have keep : ∀ {z : D} {v : V}, P z Λ → Rep K B α z v → Q v H := fun {z v} p r => q z Λ v B α H p S (Ex.refl B) (List.prefix_refl _) r
  have noc : ∀ {z w : D}, vw Λ z = w → (∀ n, w ≠ .loc n) → (∀ ds, w ≠ .lst ds) → (∀ ks ds, w ≠ .dic ks ds) → (∀ c ns ds, w ≠ .ins c ns ds) → z = w := fun {z w} e h1 h2 h3 h4 => by
    cases z with
    | loc n =>
      simp only [vw] at e
      cases hc : Λ[n]? with
      | none => rw [hc] at e; exact absurd e.symm (h1 n)
      | some c =>
        rw [hc] at e
        cases c with
        | lst ds => exact absurd e.symm (h2 ds)
        | dic ks ds => exact absurd e.symm (h3 ks ds)
        | ins c ns ds => exact absurd e.symm (h4 c ns ds)
        | gone => exact absurd e.symm (h1 n)
    | _ => exact e
  unfold addP at h
  split at h
  · rename_i i j hx hy
    have ex := noc hx (by simp) (by simp) (by simp) (by simp)
    have ey := noc hy (by simp) (by simp) (by simp) (by simp)
    subst ex; subst ey
    unfold Rep at rx ry
    exact .inl ⟨i, j, rx, ry, keep h rfl⟩
  · rename_i s t hx hy
    have ex := noc hx (by simp) (by simp) (by simp) (by simp)
    have ey := noc hy (by simp) (by simp) (by simp) (by simp)
    subst ex; subst ey
    unfold Rep at rx ry
    exact .inr (.inl ⟨s, t, rx, ry, h.1, keep h.2 rfl⟩)
  · rename_i xs ys hx hy
    have ex := noc hx (by simp) (by simp) (by simp) (by simp)
    have ey := noc hy (by simp) (by simp) (by simp) (by simp)
    subst ex; subst ey
    unfold Rep at rx ry
    obtain ⟨p1, v1, rfl, q1, r1⟩ := rx
    obtain ⟨p2, v2, rfl, q2, r2⟩ := ry
    refine .inr (.inr (.inl ⟨p1, p2, v1, v2, rfl, rfl, S.bh.sqT q1.1, S.bh.sqT q2.1, by rw [r1.length, r2.length]; exact h.1, fun e => ?_, fun _ e => ?_, fun _ _ t its ht => ?_⟩))
    · have ex : xs = [] := by
        have := r1.length
        rw [e] at this
        exact List.length_eq_zero_iff.mp this.symm
      subst ex
      refine keep h.2 ?_
      rw [List.nil_append]
      unfold Rep
      exact ⟨p2, v2, rfl, q2, r2⟩
    · have ey : ys = [] := by
        have := r2.length
        rw [e] at this
        exact List.length_eq_zero_iff.mp this.symm
      subst ey
      refine keep h.2 ?_
      rw [List.append_nil]
      unfold Rep
      exact ⟨p1, v1, rfl, q1, r1⟩
    · exact q _ Λ _ (upd B t (.frz (tupO its) (.tup (v1 ++ v2)))) α _ h.2 (S.lay ht) (Ex.new (S.bh.back ht)) (List.prefix_refl _) (by
            show Rep K _ α (.tup (xs ++ ys)) (.ref t)
            unfold Rep
            exact ⟨t, v1 ++ v2, rfl, SqX.new upd_same, (r1.append r2).mono (Ex.new (S.bh.back ht)) (List.prefix_refl _)⟩)
  · rename_i xs ys hx hy
    obtain ⟨p1, v1, rfl, q1, r1⟩ := S.lst rx hx
    obtain ⟨p2, v2, rfl, q2, r2⟩ := S.lst ry hy
    refine .inr (.inr (.inr ⟨p1, p2, v1, v2, rfl, rfl, q1, q2, by rw [r1.length, r2.length]; exact h.1, fun t ht => ?_⟩))
    exact q _ Λ _ (upd B t (.lst (v1 ++ v2))) α _ h.2 (S.lay ht) (Ex.new (S.bh.back ht)) (List.prefix_refl _) (by
            show Rep K _ α (.lst (xs ++ ys)) (.ref t)
            unfold Rep
            exact ⟨t, v1 ++ v2, rfl, upd_same, (r1.append r2).mono (Ex.new (S.bh.back ht)) (List.prefix_refl _)⟩)
  · exact h.elim
theorem we_add (h : WE C E Γ Λ a fun x Λ1 => WE C E Γ Λ1 b fun y Λ2 => addP Λ2 x y fun d => P d Λ2) : WE C E Γ Λ (.BinOp a .Add b pos) P :=
  we_opK (r := rAdd C.K) (fun X is => by rw [← is.K]; exact op_addA) (we_mono h fun x Λ1 p => we_mono p fun y Λ2 q => add_K q)

/-- what an operation on two ints does -/
def intP (g : Int → Int → Prop) (f : Int → Int → D) (x y : D) (P : D → Prop) : Prop := match x, y with
  | .int i, .int j => g i j ∧ P (f i j)
  | _, _ => False
theorem int_K {K : PySem.W.Frag} {g : Int → Int → Prop} {f : Int → Int → V} {f' : Int → Int → D} (hf : ∀ i j B α, Rep K B α (f' i j) (f i j)) {x y : D} (h : intP g f' x y fun d => P d Λ) : OpK K (rI g f) x y Γ Λ P := by
  intro F B α σ H vx vy Q S rx ry q
  unfold intP at h
  split at h
  · rename_i i j
    unfold Rep at rx ry
    exact ⟨i, j, rx, ry, h.1, q _ Λ _ B α H h.2 S (Ex.refl B) (List.prefix_refl _) (hf i j B α)⟩
  · exact h.elim
theorem we_intK {op : Operator} {g : Int → Int → Prop} {f : Int → Int → Int} (ho : ∀ X, C.Is X → OpR X (binaryOp op) (rI g fun i j => .int (f i j))) (h : WE C E Γ Λ a fun x Λ1 => WE C E Γ Λ1 b fun y Λ2 => intP g (fun i j => .int (f i j)) x y fun d => P d Λ2) : WE C E Γ Λ (.BinOp a op b pos) P :=
  we_opK ho (we_mono h fun x Λ1 p => we_mono p fun y Λ2 q => int_K (fun i j B α => by unfold Rep; rfl) q)
theorem we_sub (h : WE C E Γ Λ a fun x Λ1 => WE C E Γ Λ1 b fun y Λ2 => intP (fun _ _ => True) (fun i j => .int (i - j)) x y fun d => P d Λ2) : WE C E Γ Λ (.BinOp a .Sub b pos) P :=
  we_intK (fun X is => opI fun _ _ _ _ _ _ _ _ q => sub_int q) h
theorem we_mul (h : WE C E Γ Λ a fun x Λ1 => WE C E Γ Λ1 b fun y Λ2 => intP CMul (fun i j => .int (i * j)) x y fun d => P d Λ2) : WE C E Γ Λ (.BinOp a .Mult b pos) P :=
  we_intK (fun X is => op_mul) h
theorem we_fdiv (h : WE C E Γ Λ a fun x Λ1 => WE C E Γ Λ1 b fun y Λ2 => intP CDivW (fun i j => .int (i / j)) x y fun d => P d Λ2) : WE C E Γ Λ (.BinOp a .FloorDiv b pos) P :=
  we_intK (fun X is => op_fdivW) h
theorem we_mod (h : WE C E Γ Λ a fun x Λ1 => WE C E Γ Λ1 b fun y Λ2 => intP (fun _ j => 0 < j) (fun i j => .int (i % j)) x y fun d => P d Λ2) : WE C E Γ Λ (.BinOp a .Mod b pos) P :=
  we_intK (fun X is => op_mod) h
end

/-! ### data as the library's -/
mutual
def py : D → PyData
  | .non => .none
  | .bl b => .bool b
  | .int i => .int i
  | .str s => .str s
  | .tup ds => .tuple (pys ds)
  | .lst ds => .list (pys ds)
  | .fzl ds => .list (pys ds)
  | .loc _ => .dict []
  | .raw _ => .dict []
  | .ins _ _ _ => .dict []
  | .dic _ _ => .dict []
  | .exc _ _ _ => .dict []
def pys : List D → List PyData
  | [] => []
  | d :: ds => py d :: pys ds
end
mutual
theorem Rep.dp {K : PySem.W.Frag} {B H : Hp} {α : List Addr} (e : Ex B H) : ∀ (d : D) (v : V), (py d).plain = true → Rep K B α d v → Dp K H v (py d)
  | .non, _, _, h => by unfold Rep at h; subst h; exact .non
  | .bl b, _, _, h => by unfold Rep at h; subst h; exact .bl b
  | .int i, _, _, h => by unfold Rep at h; subst h; exact .int i
  | .str s, _, _, h => by unfold Rep at h; subst h; exact .str s
  | .tup ds, _, p, h => by
    unfold Rep at h
    obtain ⟨a, vs, rfl, h1, h2⟩ := h
    exact .tup (e.sqT h1.1) (Reps.dp e ds vs p h2)
  | .lst ds, _, p, h => by
    unfold Rep at h
    obtain ⟨a, vs, rfl, h1, h2⟩ := h
    exact .lst (SqL.of (e _ _ h1)) (Reps.dp e ds vs p h2)
  | .fzl ds, _, p, h => by
    unfold Rep at h
    obtain ⟨a, vs, rfl, h1, h2⟩ := h
    exact .lst (e.sqL h1) (Reps.dp e ds vs p h2)
  | .loc _, _, p, _ => nomatch p
  | .raw _, _, p, _ => nomatch p
  | .ins _ _ _, _, p, _ => nomatch p
  | .dic _ _, _, p, _ => nomatch p
  | .exc _ _ _, _, p, _ => nomatch p
theorem Reps.dp {K : PySem.W.Frag} {B H : Hp} {α : List Addr} (e : Ex B H) : ∀ (ds : List D) (vs : List V), PyData.plainAll (pys ds) = true → Reps K B α ds vs → DpAll K H vs (pys ds)
  | [], _, _, h => by unfold Reps at h; subst h; exact .nil
  | d :: ds, _, p, h => by
    unfold Reps at h
    obtain ⟨v, r, rfl, h1, h2⟩ := h
    have p' : ((py d).plain && PyData.plainAll (pys ds)) = true := p
    rw [Bool.and_eq_true] at p'
    exact .cons (Rep.dp e d v p'.1 h1) (Reps.dp e ds r p'.2 h2)
end
theorem Sat.dp {K : PySem.W.Frag} {F : Fm} {B : Hp} {α : List Addr} {Γ : Env} {Λ : Cells} {σ : L2.St} {H : Hp} (S : Sat K F B α Γ Λ σ H) {x : D} {v : V} (r : Rep K B α x v) (p : (py (vw Λ x)).plain = true) : Dp K H v (py (vw Λ x)) := by
  cases x with
  | loc n =>
    simp only [vw] at p ⊢
    cases hc : Λ[n]? with
    | none => rw [hc] at p; cases p
    | some c =>
      rw [hc] at p
      cases c with
      | lst ds =>
        simp only at p ⊢
        obtain ⟨a, vs, rfl, h1, h2⟩ := S.lst r (ds := ds) (by simp [vw, hc])
        exact .lst (SqL.of h1) (Reps.dp S.bh ds vs p h2)
      | _ => cases p
  | _ => exact Rep.dp S.bh _ v p r

/-! ### comparisons -/
section
variable {C : Ctx} {E : ER} {Γ : Env} {Λ : Cells} {P : D → Cells → Prop} {pos : Pos} {a b : Expr}
/-- what == needs of two data, and what it says -/
def eqP (Λ : Cells) (x y : D) (P : Bool → Prop) : Prop := match x, y with
  | .int i, .int j => P (decide (i = j))
  | .str s, .str t => P (decide (s = t))
  | .bl c, .bl d => P (decide (c = d))
  | x, y => (py (vw Λ x)).plain = true ∧ (py (vw Λ y)).plain = true ∧ min (py (vw Λ x)).depth (py (vw Λ y)).depth ≤ 190 ∧ P (PyData.eqv (py (vw Λ x)) (py (vw Λ y)))
def rEqP (K : PySem.W.Frag) (neg : Bool → Bool) : R2 := fun x y H Q => ∃ d e, Dp K H x d ∧ Dp K H y e ∧ d.plain = true ∧ e.plain = true ∧ min d.depth e.depth ≤ 190 ∧ Q (.bl (neg (PyData.eqv d e))) H
theorem Ctx.Is.u200 {X : Cx} (h : C.Is X) : X.A.units + 200 < cLine := by have := h.roomW.un; omega
theorem op_eqP {X : Cx} (is : C.Is X) : OpR X (compareOp .Eq) (rEqP X.K id) := by
  intro pins s σ H x y v u Q I rx ry h
  obtain ⟨d, e, hd, he, sd, se, hu, q⟩ := h
  obtain ⟨as, r1⟩ := Dp.reads I d x v hd rx
  obtain ⟨bs, r2⟩ := Dp.reads I e y u he ry
  have := is.u200
  refine SeqAt.eq_plain r1 r2 sd se (by omega) ⟨.bl _, H, I, rfl, q⟩
theorem op_neP {X : Cx} (is : C.Is X) : OpR X (compareOp .NotEq) (rEqP X.K not) := by
  intro pins s σ H x y v u Q I rx ry h
  obtain ⟨d, e, hd, he, sd, se, hu, q⟩ := h
  obtain ⟨as, r1⟩ := Dp.reads I d x v hd rx
  obtain ⟨bs, r2⟩ := Dp.reads I e y u he ry
  have := is.u200
  refine SeqAt.ne_plain r1 r2 sd se (by omega) ⟨.bl _, H, I, rfl, q⟩
theorem eq_K {K : PySem.W.Frag} {neg : Bool → Bool} {x y : D} (h : eqP Λ x y fun c => P (.bl (neg c)) Λ) : OpK K (rEqP K neg) x y Γ Λ P := by
  intro F B α σ H vx vy Q S rx ry q
  have fin : ∀ {c : Bool}, P (.bl (neg c)) Λ → Q (.bl (neg c)) H := fun {c} p => q _ Λ _ B α H p S (Ex.refl B) (List.prefix_refl _) (by unfold Rep; rfl)
  have gen : ∀ {x y : D}, Rep K B α x vx → Rep K B α y vy → ((py (vw Λ x)).plain = true ∧ (py (vw Λ y)).plain = true ∧ min (py (vw Λ x)).depth (py (vw Λ y)).depth ≤ 190 ∧ P (.bl (neg (PyData.eqv (py (vw Λ x)) (py (vw Λ y))))) Λ) → rEqP K neg vx vy H Q := fun {x y} rx ry ⟨h1, h2, h3, h4⟩ =>
    ⟨_, _, S.dp rx h1, S.dp ry h2, h1, h2, h3, fin h4⟩
  unfold eqP at h
  split at h
  · refine gen rx ry ⟨rfl, rfl, (by show min 0 0 ≤ 190; decide), ?_⟩
    show P (.bl (neg (PyData.eqv (.int _) (.int _)))) Λ
    rw [PyData.eqv, Bool.beq_eq_decide_eq]; exact h
  · refine gen rx ry ⟨rfl, rfl, (by show min 0 0 ≤ 190; decide), ?_⟩
    show P (.bl (neg (PyData.eqv (.str _) (.str _)))) Λ
    rw [PyData.eqv, Bool.beq_eq_decide_eq]; exact h
  · refine gen rx ry ⟨rfl, rfl, (by show min 0 0 ≤ 190; decide), ?_⟩
    show P (.bl (neg (PyData.eqv (.bool _) (.bool _)))) Λ
    rw [PyData.eqv, Bool.beq_eq_decide_eq]; exact h
  · exact gen rx ry h
theorem we_eq (h : WE C E Γ Λ a fun x Λ1 => WE C E Γ Λ1 b fun y Λ2 => eqP Λ2 x y fun c => P (.bl c) Λ2) : WE C E Γ Λ (.Compare a [.Eq] [b] pos) P :=
  we_cmpK (r := rEqP C.K id) (fun X is => by rw [← is.K]; exact op_eqP is) (we_mono h fun x Λ1 p => we_mono p fun y Λ2 q => eq_K (neg := id) q) (nomark _)
theorem eqP_mono {x y : D} {P P' : Bool → Prop} (h : eqP Λ x y P) (i : ∀ c, P c → P' c) : eqP Λ x y P' := by
  unfold eqP at h ⊢
  split at h
  · exact i _ h
  · exact i _ h
  · exact i _ h
  · exact ⟨h.1, h.2.1, h.2.2.1, i _ h.2.2.2⟩
theorem wt_eq {P : Bool → Cells → Prop} (h : WE C E Γ Λ a fun x Λ1 => WE C E Γ Λ1 b fun y Λ2 => eqP Λ2 x y fun c => P c Λ2) : WT C E Γ Λ (.Compare a [.Eq] [b] pos) P :=
  wt_cmpK (r := rEqP C.K id) (fun X is => by rw [← is.K]; exact op_eqP is) (we_mono h fun x Λ1 p => we_mono p fun y Λ2 q => eq_K (neg := id) (eqP_mono q fun c p => ⟨_, rfl, p⟩)) (nomark _)
theorem wt_ne {P : Bool → Cells → Prop} (h : WE C E Γ Λ a fun x Λ1 => WE C E Γ Λ1 b fun y Λ2 => eqP Λ2 x y fun c => P (!c) Λ2) : WT C E Γ Λ (.Compare a [.NotEq] [b] pos) P :=
  wt_cmpK (r := rEqP C.K not) (fun X is => by rw [← is.K]; exact op_neP is) (we_mono h fun x Λ1 p => we_mono p fun y Λ2 q => eq_K (neg := not) (eqP_mono q fun c p => ⟨_, rfl, p⟩)) (nomark _)

/-- <, <=, >, >= of ints, < of texts -/
def ordP (f : Int → Int → Bool) (g : Str → Str → Bool) (ok : Bool) (x y : D) (P : Bool → Prop) : Prop := match x, y with
  | .int i, .int j => P (f i j)
  | .str s, .str t => ok = true ∧ P (g s t)
  | _, _ => False
def ltP := ordP (fun i j => decide (i < j)) (fun s t => decide (s.cps.toList < t.cps.toList)) true
def gtP := ordP (fun i j => decide (j < i)) (fun _ _ => false) false
def rOrd (f : Int → Int → Bool) (g : Str → Str → Bool) (ok : Bool) : R2 := fun x y H Q => (rI0 (fun i j => .bl (f i j)) x y H Q) ∨ (ok = true ∧ ∃ i j, x = .str i ∧ y = .str j ∧ Q (.bl (g i j)) H)
theorem ord_K {K : PySem.W.Frag} {f : Int → Int → Bool} {g : Str → Str → Bool} {ok : Bool} {x y : D} (h : ordP f g ok x y fun c => P (.bl c) Λ) : OpK K (rOrd f g ok) x y Γ Λ P := by
  intro F B α σ H vx vy Q S rx ry q
  have fin : ∀ {c : Bool}, P (.bl c) Λ → Q (.bl c) H := fun {c} p => q _ Λ _ B α H p S (Ex.refl B) (List.prefix_refl _) (by unfold Rep; rfl)
  unfold ordP at h
  split at h
  · unfold Rep at rx ry
    exact .inl ⟨_, _, rx, ry, fin h⟩
  · unfold Rep at rx ry
    exact .inr ⟨h.1, _, _, rx, ry, fin h.2⟩
  · exact h.elim
theorem OpR.ff {X : Cx} {f : Value → Value → Sem Value} {r : R2} (h : OpR X f r) {g : Str → Str → Bool} : OpR X f (fun x y H Q => r x y H Q ∨ (false = true ∧ ∃ i j, x = .str i ∧ y = .str j ∧ Q (.bl (g i j)) H)) := by
  intro pins s σ H x y v u Q I rx ry q
  rcases q with q | q
  · exact h pins s σ H x y v u Q I rx ry q
  · exact absurd q.1 (by decide)
theorem op_ltA {X : Cx} : OpR X (compareOp .Lt) (rOrd (fun i j => decide (i < j)) (fun s t => decide (s.cps.toList < t.cps.toList)) true) := by
  intro pins s σ H x y v u Q I rx ry q
  rcases q with q | q
  · exact op_lt pins s σ H x y v u Q I rx ry q
  · exact op_lt_str pins s σ H x y v u Q I rx ry q.2
theorem op_gtA {X : Cx} : OpR X (compareOp .Gt) (rOrd (fun i j => decide (j < i)) (fun _ _ => false) false) := OpR.ff op_gt
theorem wt_ltK {op : CmpOp} {f : Int → Int → Bool} {g : Str → Str → Bool} {ok : Bool} {P : Bool → Cells → Prop} (ho : ∀ X, OpR X (compareOp op) (rOrd f g ok)) (hm : ∀ b, behindInMarks op b = false)
    (h : WE C E Γ Λ a fun x Λ1 => WE C E Γ Λ1 b fun y Λ2 => ordP f g ok x y fun c => P c Λ2) : WT C E Γ Λ (.Compare a [op] [b] pos) P :=
  wt_cmpK (fun X is => ho X) (we_mono h fun x Λ1 p => we_mono p fun y Λ2 q => ord_K (by
    unfold ordP at q ⊢
    split at q
    · exact ⟨_, rfl, q⟩
    · exact ⟨q.1, _, rfl, q.2⟩
    · exact q)) (hm b)
theorem wt_lt {P : Bool → Cells → Prop} (h : WE C E Γ Λ a fun x Λ1 => WE C E Γ Λ1 b fun y Λ2 => ltP x y fun c => P c Λ2) : WT C E Γ Λ (.Compare a [.Lt] [b] pos) P := wt_ltK (fun _ => op_ltA) (fun b => nomark b) h
theorem wt_gt {P : Bool → Cells → Prop} (h : WE C E Γ Λ a fun x Λ1 => WE C E Γ Λ1 b fun y Λ2 => gtP x y fun c => P c Λ2) : WT C E Γ Λ (.Compare a [.Gt] [b] pos) P := wt_ltK (fun _ => op_gtA) (fun b => nomark b) h
/-- is None, is not None -/
def isN : D → Option Bool
  | .non => some true
  | .loc _ => some false
  | .raw _ => none
  | _ => some false
theorem isN_rep {K : PySem.W.Frag} {B : Hp} {α : List Addr} {x : D} {v : V} {c : Bool} (r : Rep K B α x v) (e : isN x = some c) : decide (v = .non) = c := by
  cases x <;> simp only [isN] at e <;> (try cases e) <;> unfold Rep at r
  · subst r; rfl
  all_goals first
    | (subst r; rfl)
    | (obtain ⟨_, _, rfl, _⟩ := r; rfl)
    | (obtain ⟨_, rfl, _⟩ := r; rfl)
    | (obtain ⟨_, _, _, rfl, _⟩ := r; rfl)
theorem wt_isK {op : CmpOp} {f : Bool → Bool} {P : Bool → Cells → Prop} (ho : ∀ X, OpR X (compareOp op) (fun x y H Q => y = .non ∧ Q (.bl (f (decide (x = .non)))) H)) (hm : ∀ b, behindInMarks op b = false)
    (h : WE C E Γ Λ a fun x Λ1 => WE C E Γ Λ1 b fun y Λ2 => y = .non ∧ ∃ c, isN x = some c ∧ P (f c) Λ2) : WT C E Γ Λ (.Compare a [op] [b] pos) P :=
  wt_cmpK (fun X is => ho X) (we_mono h fun x Λ1 p => we_mono p fun y Λ2 q => by
    intro F B α σ H vx vy Q S rx ry k
    obtain ⟨rfl, c, hc, p⟩ := q
    unfold Rep at ry
    refine ⟨ry, ?_⟩
    rw [isN_rep rx hc]
    exact k _ Λ2 _ B α H ⟨_, rfl, p⟩ S (Ex.refl B) (List.prefix_refl _) (by unfold Rep; rfl)) (hm b)
theorem wt_isnt {P : Bool → Cells → Prop} (h : WE C E Γ Λ a fun x Λ1 => WE C E Γ Λ1 b fun y Λ2 => y = .non ∧ ∃ c, isN x = some c ∧ P (!c) Λ2) : WT C E Γ Λ (.Compare a [.IsNot] [b] pos) P := wt_isK (f := not) (fun _ => op_notN) (fun b => nomark b) h
end
end Pl

namespace Pl
open PySem L2 PyProof.Rows

/-! ### in, not in -/
section
variable {C : Ctx} {E : ER} {Γ : Env} {Λ : Cells} {P : D → Cells → Prop} {pos : Pos} {a b : Expr}
/-- a text in a text -/
def strIn (x y : Str) : Bool := !(Builtin.Str.occurrences y x 0 y.length 1).isEmpty
def dLook (ks : List Key) (ds : List D) (k : Key) : Option D := ((ks.zip ds).find? fun kv => decide (kv.1 = k)).map (·.2)
def keyD : D → Option Key
  | .int i => some (.inl i)
  | .str s => some (.inr s)
  | _ => none
theorem keyD_rep {K : PySem.W.Frag} {B : Hp} {α : List Addr} {x : D} {v : V} {k : Key} (r : Rep K B α x v) (e : keyD x = some k) : v = kV k := by
  cases x <;> simp only [keyD] at e <;> cases e <;> (unfold Rep at r; subst r; rfl)
theorem dLook_rep {K : PySem.W.Frag} {B : Hp} {α : List Addr} : ∀ {ks : List Key} {ds : List D} {vs : List V} (k : Key), Reps K B α ds vs → 
    (∀ d, dLook ks ds k = some d → ∃ v, valV (ks.zip vs) k = some v ∧ Rep K B α d v) ∧ (dLook ks ds k = none → valV (ks.zip vs) k = none)
  | [], _, _, _, _ => by simp [dLook, valV]
  | _ :: _, [], vs, k, r => by unfold Reps at r; subst r; simp [dLook, valV]
  | q :: ks, d :: ds, vs, k, r => by
    unfold Reps at r
    obtain ⟨v, r', rfl, h1, h2⟩ := r
    have ih := dLook_rep (ks := ks) k h2
    simp only [dLook, valV, List.zip_cons_cons, List.find?_cons] at ih ⊢
    by_cases e : q = k
    · simp only [e, decide_true, Option.map_some]
      exact ⟨fun d' q => by cases q; exact ⟨v, rfl, h1⟩, fun q => by cases q⟩
    · simp only [e, decide_false]
      exact ih
def inP (Λ : Cells) (x y : D) (P : Bool → Prop) : Prop := match vw Λ y with
  | .str t => ∃ s, x = .str s ∧ P (strIn s t)
  | .dic ks ds => ∃ k, keyD x = some k ∧ P (dLook ks ds k).isSome
  | .tup ds => PyData.plainAll (pys ds) = true ∧ (py (vw Λ x)).plain = true ∧ min (PyData.depthAll (pys ds)) (py (vw Λ x)).depth ≤ 190 ∧ P ((pys ds).any fun e => PyData.eqv e (py (vw Λ x)))
  | .lst ds => PyData.plainAll (pys ds) = true ∧ (py (vw Λ x)).plain = true ∧ min (PyData.depthAll (pys ds)) (py (vw Λ x)).depth ≤ 190 ∧ P ((pys ds).any fun e => PyData.eqv e (py (vw Λ x)))
  | .fzl ds => PyData.plainAll (pys ds) = true ∧ (py (vw Λ x)).plain = true ∧ min (PyData.depthAll (pys ds)) (py (vw Λ x)).depth ≤ 190 ∧ P ((pys ds).any fun e => PyData.eqv e (py (vw Λ x)))
  | _ => False
theorem inP_mono {x y : D} {P P' : Bool → Prop} (h : inP Λ x y P) (i : ∀ c, P c → P' c) : inP Λ x y P' := by
  unfold inP at h ⊢
  split at h
  · obtain ⟨s, e, p⟩ := h; exact ⟨s, e, i _ p⟩
  · obtain ⟨s, e, p⟩ := h; exact ⟨s, e, i _ p⟩
  · exact ⟨h.1, h.2.1, h.2.2.1, i _ h.2.2.2⟩
  · exact ⟨h.1, h.2.1, h.2.2.1, i _ h.2.2.2⟩
  · exact ⟨h.1, h.2.1, h.2.2.1, i _ h.2.2.2⟩
  · exact h
def rInP (K : PySem.W.Frag) (f : Bool → Bool) : R2 := fun x y H Q => (∃ s t, x = .str s ∧ y = .str t ∧ Q (.bl (f (strIn s t))) H) ∨ (∃ p o, y = .ref p ∧ DGet H p x o ∧ Q (.bl (f o.isSome)) H) ∨
  (∃ d ds, Dp K H x d ∧ (Dp K H y (.list ds) ∨ Dp K H y (.tuple ds)) ∧ d.plain = true ∧ PyData.plainAll ds = true ∧ min (PyData.depthAll ds) d.depth ≤ 190 ∧ Q (.bl (f (ds.any fun e => PyData.eqv e d))) H)
theorem op_inP {X : Cx} (is : C.Is X) : OpR X (compareOp .In) (rInP X.K id) := by
  intro pins s σ H x y v u Q I rx ry h
  have hu := is.u200
  rcases h with ⟨s', t, rfl, rfl, q⟩ | ⟨p, o, rfl, g, q⟩ | ⟨d, ds, hd, hl, sd, se, hm, q⟩
  · exact op_in_str pins s σ H _ _ v u Q I rx ry ⟨s', t, rfl, rfl, q⟩
  · cases ry
    exact d_in (by omega) I g rx fun s' I' => ⟨.bl _, H, I', rfl, q⟩
  · obtain ⟨as, r1⟩ := Dp.reads I d x v hd rx
    rcases hl with hl | hl
    · obtain ⟨bs, r2⟩ := Dp.reads I _ y u hl ry
      exact SeqAt.in_list_data r2 r1 se sd (by omega) ⟨.bl _, H, I, rfl, q⟩
    · obtain ⟨bs, r2⟩ := Dp.reads I _ y u hl ry
      exact SeqAt.in_tuple_data r2 r1 se sd (by omega) ⟨.bl _, H, I, rfl, q⟩
theorem op_ninP {X : Cx} (is : C.Is X) : OpR X (compareOp .NotIn) (rInP X.K not) := by
  intro pins s σ H x y v u Q I rx ry h
  have hu := is.u200
  rcases h with ⟨s', t, rfl, rfl, q⟩ | ⟨p, o, rfl, g, q⟩ | ⟨d, ds, hd, hl, sd, se, hm, q⟩
  · exact op_notIn_str pins s σ H _ _ v u Q I rx ry ⟨s', t, rfl, rfl, q⟩
  · cases ry
    exact d_notIn (by omega) I g rx fun s' I' => ⟨.bl _, H, I', rfl, q⟩
  · obtain ⟨as, r1⟩ := Dp.reads I d x v hd rx
    rcases hl with hl | hl
    · obtain ⟨bs, r2⟩ := Dp.reads I _ y u hl ry
      exact SeqAt.notIn_list_data r2 r1 se sd (by omega) ⟨.bl _, H, I, rfl, q⟩
    · obtain ⟨bs, r2⟩ := Dp.reads I _ y u hl ry
      exact SeqAt.notIn_tuple_data r2 r1 se sd (by omega) ⟨.bl _, H, I, rfl, q⟩
theorem vw_noc {z w : D} (e : vw Λ z = w) (h1 : ∀ n, w ≠ .loc n) (h2 : ∀ ds, w ≠ .lst ds) (h3 : ∀ ks ds, w ≠ .dic ks ds) (h4 : ∀ c ns ds, w ≠ .ins c ns ds) : z = w := by
  cases z with
  | loc n =>
    simp only [vw] at e
    cases hc : Λ[n]? with
    | none => rw [hc] at e; exact absurd e.symm (h1 n)
    | some c =>
      rw [hc] at e
      cases c with
      | lst ds => exact absurd e.symm (h2 ds)
      | dic ks ds => exact absurd e.symm (h3 ks ds)
      | ins c ns ds => exact absurd e.symm (h4 c ns ds)
      | gone => exact absurd e.symm (h1 n)
  | _ => exact e
/-- a dict, wherever it stands -/
theorem Sat.dic {K : PySem.W.Frag} {F : Fm} {B : Hp} {α : List Addr} {Γ : Env} {Λ : Cells} {σ : L2.St} {H : Hp} (S : Sat K F B α Γ Λ σ H) {x : D} {v : V} {ks : List Key} {ds : List D} (r : Rep K B α x v) (e : vw Λ x = .dic ks ds) : ∃ a vs, v = .ref a ∧ Rd H a (.dK (ks.zip vs)) ∧ Reps K B α ds vs := by
  cases x with
  | dic ks' es =>
    cases e
    unfold Rep at r
    obtain ⟨a, vs, h1, h2, h3, _⟩ := r
    exact ⟨a, vs, h1, S.bh.rd h2, h3⟩
  | loc n =>
    unfold Rep at r
    obtain ⟨a, h1, h2⟩ := r
    simp only [vw] at e
    cases hc : Λ[n]? with
    | none => rw [hc] at e; cases e
    | some c =>
      rw [hc] at e
      cases c <;> simp at e
      obtain ⟨rfl, rfl⟩ := e
      obtain ⟨a', q1, q2, q3, q4⟩ := S.ce n _ hc (by simp)
      rw [h2] at q1; cases q1
      obtain ⟨vs, q5, q6, _⟩ := q4
      exact ⟨a, vs, h1, .inl q5, q6⟩
  | _ => cases e
theorem in_K {K : PySem.W.Frag} {f : Bool → Bool} {x y : D} (h : inP Λ x y fun c => P (.bl (f c)) Λ) : OpK K (rInP K f) x y Γ Λ P := by
  intro F B α σ H vx vy Q S rx ry q
  have fin : ∀ {c : Bool}, P (.bl (f c)) Λ → Q (.bl (f c)) H := fun {c} p => q _ Λ _ B α H p S (Ex.refl B) (List.prefix_refl _) (by unfold Rep; rfl)
  unfold inP at h
  split at h
  · rename_i t hy
    have ey := vw_noc hy (by simp) (by simp) (by simp) (by simp)
    subst ey
    obtain ⟨s, rfl, p⟩ := h
    unfold Rep at rx ry
    exact .inl ⟨s, t, rx, ry, fin p⟩
  · rename_i ks ds hy
    obtain ⟨k, hk, p⟩ := h
    obtain ⟨a, vs, rfl, h1, h2⟩ := S.dic ry hy
    have hl := dLook_rep (ks := ks) k h2
    refine .inr (.inl ⟨a, valV (ks.zip vs) k, rfl, .inl ⟨_, k, h1, keyD_rep rx hk, rfl⟩, ?_⟩)
    have e : (valV (ks.zip vs) k).isSome = (dLook ks ds k).isSome := by
      cases hd : dLook ks ds k with
      | none => rw [hl.2 hd]; rfl
      | some d =>
        obtain ⟨v, e, _⟩ := hl.1 d hd
        rw [e]; rfl
    rw [e]
    exact fin p
  · rename_i ds hy
    have e := S.dp ry (by rw [hy]; exact h.1)
    rw [hy] at e
    exact .inr (.inr ⟨_, _, S.dp rx h.2.1, .inr e, h.2.1, h.1, h.2.2.1, fin h.2.2.2⟩)
  · rename_i ds hy
    have e := S.dp ry (by rw [hy]; exact h.1)
    rw [hy] at e
    exact .inr (.inr ⟨_, _, S.dp rx h.2.1, .inl e, h.2.1, h.1, h.2.2.1, fin h.2.2.2⟩)
  · rename_i ds hy
    have e := S.dp ry (by rw [hy]; exact h.1)
    rw [hy] at e
    exact .inr (.inr ⟨_, _, S.dp rx h.2.1, .inl e, h.2.1, h.1, h.2.2.1, fin h.2.2.2⟩)
  · exact h.elim
theorem wt_in {P : Bool → Cells → Prop} (h : WE C E Γ Λ a fun x Λ1 => WE C E Γ Λ1 b fun y Λ2 => inP Λ2 x y fun c => P c Λ2) (hm : behindInMarks .In b = false := by rfl) : WT C E Γ Λ (.Compare a [.In] [b] pos) P :=
  wt_cmpK (r := rInP C.K id) (fun X is => by rw [← is.K]; exact op_inP is) (we_mono h fun x Λ1 p => we_mono p fun y Λ2 q => in_K (f := id) (inP_mono q fun c p => ⟨_, rfl, p⟩)) hm
theorem wt_nin {P : Bool → Cells → Prop} (h : WE C E Γ Λ a fun x Λ1 => WE C E Γ Λ1 b fun y Λ2 => inP Λ2 x y fun c => P (!c) Λ2) (hm : behindInMarks .NotIn b = false := by rfl) : WT C E Γ Λ (.Compare a [.NotIn] [b] pos) P :=
  wt_cmpK (r := rInP C.K not) (fun X is => by rw [← is.K]; exact op_ninP is) (we_mono h fun x Λ1 p => we_mono p fun y Λ2 q => in_K (f := not) (inP_mono q fun c p => ⟨_, rfl, p⟩)) hm

/-! ### a <= b < c over ints -/
/-! ### and, or, not, if .. else -/
def boolP (x : D) (P : Bool → Prop) : Prop := match x with
  | .bl c => P c
  | _ => False
theorem we_one {op} (h : WE C E Γ Λ a P) : WE C E Γ Λ (.BoolOp op [a] pos) P := fun X F W is tk => pe_one (h X F W is tk)
theorem we_and {rest : List Expr} (h : WE C E Γ Λ a fun x Λ1 => boolP x fun c => if c = true then WE C E Γ Λ1 (.BoolOp .And (b :: rest) pos) P else P (.bl false) Λ1) : WE C E Γ Λ (.BoolOp .And (a :: b :: rest) pos) P := fun X F W is tk => by
  refine pe_imp (pe_and pe_U pe_U) fun σ H Q ⟨B, α, S, q, er⟩ => ?_
  refine WE.use h is tk S er fun x Λ1 vx B1 α1 H1 p1 S1 e1 f1 r1 => ?_
  unfold boolP at p1
  split at p1
  · rename_i c
    unfold Rep at r1
    refine ⟨c, r1, ?_⟩
    cases c with
    | true =>
      rw [if_pos rfl] at p1 ⊢
      exact WE.use p1 is tk S1 (er.mono e1) fun y Λ2 vy B2 α2 H2 p2 S2 e2 f2 r2 => q _ _ _ _ _ _ p2 S2 (e1.trans e2) (f1.trans f2) r2
    | false =>
      rw [if_neg (by simp)] at p1 ⊢
      exact q _ _ _ _ _ _ p1 S1 e1 f1 (by unfold Rep; rfl)
  · exact p1.elim
theorem we_neg (h : WE C E Γ Λ a fun x Λ1 => ∃ i, x = .int i ∧ P (.int (-i)) Λ1) : WE C E Γ Λ (.UnaryOp .USub a pos) P := fun X F W is tk => by
  refine pe_imp (pe_un un_neg pe_U) fun σ H Q ⟨B, α, S, q, er⟩ => ?_
  refine WE.use h is tk S er fun x Λ1 vx B1 α1 H1 p1 S1 e1 f1 r1 => ?_
  obtain ⟨i, rfl, p⟩ := p1
  unfold Rep at r1
  exact ⟨i, r1, q _ _ _ _ _ _ p S1 e1 f1 (by unfold Rep; rfl)⟩
/-! tests -/
theorem wt_val {P : Bool → Cells → Prop} (h : WE C E Γ Λ a fun x Λ1 => boolP x fun c => P c Λ1) (he : ∀ (env : PySem.Env) whole, isTrue a env whole = (do let v ← whole; standAt a.pos; holding [v] (truthy v)) := by intro _ _; rfl) : WT C E Γ Λ a P := fun X F W is tk => by
  refine pt_imp (pt_val pe_U (he X.env)) fun σ H Q ⟨B, α, S, q, er⟩ => ?_
  refine WE.use h is tk S er fun x Λ1 vx B1 α1 H1 p1 S1 e1 f1 r1 => ?_
  unfold boolP at p1
  split at p1
  · rename_i c
    unfold Rep at r1
    exact ⟨c, r1, q _ _ _ _ _ p1 S1 e1 f1⟩
  · exact p1.elim
/-- a chain of and, or as a test -/
def WW (C : Ctx) (E : ER) (Γ : Env) (Λ : Cells) (e : Expr) (P : Bool → Cells → Prop) : Prop := ∀ X F W, C.Is X → Takes X W → PW X e (rdT C.K F W E Γ Λ P)
theorem wt_ww {P : Bool → Cells → Prop} (h : WW C E Γ Λ a P) : WT C E Γ Λ a P := fun X F W is tk => (h X F W is tk).pt
theorem WW.use {X : Cx} {F : Fm} {W : WX} {B : Hp} {α : List Addr} {σ : L2.St} {H : Hp} {e : Expr} {P : Bool → Cells → Prop} {Q : Bool → Hp → Prop} (h : WW C E Γ Λ e P) (is : C.Is X) (tk : Takes X W) (S : Sat C.K F B α Γ Λ σ H) (er : ErOk C.K F W B σ Γ E)
    (q : ∀ b Λ' B' α' H', P b Λ' → Sat C.K F B' α' Γ Λ' σ H' → Ex B B' → α <+: α' → Q b H') : UW X e σ H Q := ⟨_, h X F W is tk, B, α, S, q, er⟩
theorem ww_and1 {P : Bool → Cells → Prop} (h : WT C E Γ Λ a P) : WW C E Γ Λ (.BoolOp .And [a] pos) P := fun X F W is tk => pw_and1 (h X F W is tk)
theorem ww_or1 {P : Bool → Cells → Prop} (h : WT C E Γ Λ a P) : WW C E Γ Λ (.BoolOp .Or [a] pos) P := fun X F W is tk => pw_or1 (h X F W is tk)
theorem ww_and {P : Bool → Cells → Prop} {rest : List Expr} (h : WT C E Γ Λ a fun c Λ1 => if c = true then WW C E Γ Λ1 (.BoolOp .And (b :: rest) pos) P else P false Λ1) : WW C E Γ Λ (.BoolOp .And (a :: b :: rest) pos) P := fun X F W is tk => by
  refine pw_imp (pw_and pt_U pw_U) fun σ H Q ⟨B, α, S, q, er⟩ => ?_
  refine WT.use h is tk S er fun c Λ1 B1 α1 H1 p1 S1 e1 f1 => ?_
  cases c with
  | true =>
    rw [if_pos rfl] at p1 ⊢
    exact WW.use p1 is tk S1 (er.mono e1) fun y Λ2 B2 α2 H2 p2 S2 e2 f2 => q _ _ _ _ _ p2 S2 (e1.trans e2) (f1.trans f2)
  | false =>
    rw [if_neg (by simp)] at p1 ⊢
    exact q _ _ _ _ _ p1 S1 e1 f1
theorem ww_or {P : Bool → Cells → Prop} {rest : List Expr} (h : WT C E Γ Λ a fun c Λ1 => if c = true then P true Λ1 else WW C E Γ Λ1 (.BoolOp .Or (b :: rest) pos) P) : WW C E Γ Λ (.BoolOp .Or (a :: b :: rest) pos) P := fun X F W is tk => by
  refine pw_imp (pw_or pt_U pw_U) fun σ H Q ⟨B, α, S, q, er⟩ => ?_
  refine WT.use h is tk S er fun c Λ1 B1 α1 H1 p1 S1 e1 f1 => ?_
  cases c with
  | false =>
    rw [if_neg (by simp)] at p1 ⊢
    exact WW.use p1 is tk S1 (er.mono e1) fun y Λ2 B2 α2 H2 p2 S2 e2 f2 => q _ _ _ _ _ p2 S2 (e1.trans e2) (f1.trans f2)
  | true =>
    rw [if_pos rfl] at p1 ⊢
    exact q _ _ _ _ _ p1 S1 e1 f1
/-! ### subscripts, slices -/
def ixP (Λ : Cells) (x y : D) (P : D → Prop) : Prop := match y with
  | .int i => match x with
    | .str s => s.length ≤ sizeLine ∧ ∃ c, atI s.cps.toList i = some c ∧ P (.str ⟨#[c]⟩)
    | x => ∃ ds, seqD Λ x = some ds ∧ ∃ d, atI ds i = some d ∧ P d
  | _ => False
theorem Reps.atI {K : PySem.W.Frag} {B : Hp} {α : List Addr} {ds : List D} {vs : List V} {i : Int} {d : D} (r : Reps K B α ds vs) (h : atI ds i = some d) : ∃ v, L2.atI vs i = some v ∧ Rep K B α d v := by
  unfold L2.atI at h ⊢
  rw [r.length]
  cases e : ixN ds.length i with
  | none => rw [e] at h; cases h
  | some j =>
    rw [e] at h
    exact r.get h
theorem ix_K {K : PySem.W.Frag} {x y : D} (h : ixP Λ x y fun d => P d Λ) : OpK K (rIx K) x y Γ Λ P := by
  intro F B α σ H vx vy Q S rx ry q
  unfold ixP at h
  split at h
  · rename_i i
    unfold Rep at ry
    split at h
    · rename_i s
      unfold Rep at rx
      obtain ⟨hl, c, hc, p⟩ := h
      exact .inr (.inr ⟨s, i, c, rx, ry, hl, hc, q _ _ _ _ _ _ p S (Ex.refl B) (List.prefix_refl _) (by unfold Rep; rfl)⟩)
    · obtain ⟨ds, hs, d, hd, p⟩ := h
      obtain ⟨a, vs, rfl, h1, h2⟩ := S.seq rx hs
      obtain ⟨v, hv, rv⟩ := h2.atI hd
      have fin := q _ _ _ _ _ _ p S (Ex.refl B) (List.prefix_refl _) rv
      rcases h1 with h1 | h1
      · exact .inl ⟨a, vs, i, v, rfl, ry, h1, hv, fin⟩
      · exact .inr (.inl ⟨a, vs, i, v, rfl, ry, h1, hv, fin⟩)
  · exact h.elim
theorem we_ix (h : WE C E Γ Λ a fun x Λ1 => WE C E Γ Λ1 b fun y Λ2 => ixP Λ2 x y fun d => P d Λ2) (hs : PlainIx b := by intro _ _; rfl) : WE C E Γ Λ (.Subscript a b pos) P := fun X F W is tk => by
  refine pe_imp (pe_ix ix_seq pe_U pe_U hs) fun σ H Q ⟨B, α, S, q, er⟩ => ?_
  refine WE.use h is tk S er fun x Λ1 vx B1 α1 H1 p1 S1 e1 f1 r1 => ?_
  refine WE.use p1 is tk S1 (er.mono e1) fun y Λ2 vy B2 α2 H2 p2 S2 e2 f2 r2 => ?_
  rw [is.K]
  exact ix_K (K := C.K) p2 F B2 α2 σ H2 vx vy Q S2 (r1.mono e2 f2) r2 fun d Λ' v B' α' H' p' S' e' f' r' => q d Λ' v B' α' H' p' S' ((e1.trans e2).trans e') ((f1.trans f2).trans f') r'
/-- d[k] -/
theorem we_ixd (h : WE C E Γ Λ a fun x Λ1 => WE C E Γ Λ1 b fun y Λ2 => ∃ ks ds k d, vw Λ2 x = .dic ks ds ∧ keyD y = some k ∧ dLook ks ds k = some d ∧ P d Λ2) (hs : NoSl b := by intro _ _; rfl) : WE C E Γ Λ (.Subscript a b pos) P := fun X F W is tk => by
  have hu := is.u200
  refine pe_imp (pe_dget (by omega) pe_U pe_U hs) fun σ H Q ⟨B, α, S, q, er⟩ => ?_
  refine WE.use h is tk S er fun x Λ1 vx B1 α1 H1 p1 S1 e1 f1 r1 => ?_
  refine WE.use p1 is tk S1 (er.mono e1) fun y Λ2 vy B2 α2 H2 p2 S2 e2 f2 r2 => ?_
  obtain ⟨ks, ds, k, d, hx, hk, hd, p⟩ := p2
  obtain ⟨p', vs, rfl, h1, h2⟩ := S2.dic (r1.mono e2 f2) hx
  obtain ⟨v, hv, rv⟩ := (dLook_rep (ks := ks) k h2).1 d hd
  exact ⟨p', v, rfl, .inl ⟨_, k, h1, keyD_rep r2 hk, hv.symm⟩, q _ _ _ _ _ _ p S2 (e1.trans e2) (f1.trans f2) rv⟩
/-- what stands at a slice's end -/
def WO (C : Ctx) (E : ER) (Γ : Env) (Λ : Cells) : Option Expr → (Option Int → Cells → Prop) → Prop
  | none, P => P none Λ
  | some e, P => WE C E Γ Λ e fun d Λ' => ∃ i, d = .int i ∧ P (some i) Λ'
def cutD (xs : List D) (lo hi : Option Int) : List D := (xs.drop (HT.sIx xs.length 0 lo)).take (HT.sIx xs.length xs.length hi - HT.sIx xs.length 0 lo)
theorem Reps.cut {K : PySem.W.Frag} {B : Hp} {α : List Addr} {ds : List D} {vs : List V} (r : Reps K B α ds vs) (lo hi : Option Int) : Reps K B α (cutD ds lo hi) (cutV vs lo hi) := by
  unfold cutD cutV
  rw [r.length]
  exact (r.drop _).take _
def UO (X : Cx) (o : Option Expr) : TO := match o with
  | none => tNoPart
  | some e => tPart (UE X e)
theorem po_U {X : Cx} {o : Option Expr} : PO X o (UO X o) := by
  cases o with
  | none => exact po_none
  | some e => exact po_some pe_U
theorem WO.use {X : Cx} {F : Fm} {W : WX} {B : Hp} {α : List Addr} {σ : L2.St} {H : Hp} {o : Option Expr} {P : Option Int → Cells → Prop} {Q : Option Int → Hp → Prop} (h : WO C E Γ Λ o P) (is : C.Is X) (tk : Takes X W) (S : Sat C.K F B α Γ Λ σ H) (er : ErOk C.K F W B σ Γ E)
    (q : ∀ i Λ' B' α' H', P i Λ' → Sat C.K F B' α' Γ Λ' σ H' → Ex B B' → α <+: α' → Q i H') : UO X o σ H Q := by
  cases o with
  | none => exact q none Λ B α H h S (Ex.refl B) (List.prefix_refl _)
  | some e =>
    refine WE.use (C := C) (E := E) (Γ := Γ) (Λ := Λ) h is tk S er fun d Λ' v B' α' H' p S' e f r => ?_
    obtain ⟨i, rfl, p⟩ := p
    unfold Rep at r
    exact ⟨i, r, q _ _ _ _ _ p S' e f⟩
end
end Pl

namespace Pl
open PySem L2 PyProof.Rows

/-! ### data without cells -/
mutual
def nl : D → Bool
  | .tup ds => nls ds
  | .lst ds => nls ds
  | .fzl ds => nls ds
  | .loc _ => false
  | .ins _ _ ds => nls ds
  | .dic _ ds => nls ds
  | .exc _ _ ds => nls ds
  | _ => true
def nls : List D → Bool
  | [] => true
  | d :: ds => nl d && nls ds
end
section
variable {K : PySem.W.Frag} {B : Hp} {α α' : List Addr}
mutual
theorem Rep.nl : ∀ (d : D) (v : V), Pl.nl d = true → Rep K B α d v → Rep K B α' d v
  | .non, _, _, h => h
  | .bl _, _, _, h => h
  | .int _, _, _, h => h
  | .str _, _, _, h => h
  | .tup ds, v, n, h => by
    unfold Rep at h ⊢
    obtain ⟨a, vs, rfl, h1, h2⟩ := h
    exact ⟨a, vs, rfl, h1, Reps.nl ds vs n h2⟩
  | .lst ds, v, n, h => by
    unfold Rep at h ⊢
    obtain ⟨a, vs, rfl, h1, h2⟩ := h
    exact ⟨a, vs, rfl, h1, Reps.nl ds vs n h2⟩
  | .fzl ds, v, n, h => by
    unfold Rep at h ⊢
    obtain ⟨a, vs, rfl, h1, h2⟩ := h
    exact ⟨a, vs, rfl, h1, Reps.nl ds vs n h2⟩
  | .loc _, _, n, _ => nomatch n
  | .raw _, _, _, h => h
  | .ins C ns ds, v, n, h => by
    unfold Rep at h ⊢
    obtain ⟨a, dx, vs, rfl, h1, h2, h3⟩ := h
    exact ⟨a, dx, vs, rfl, h1, Reps.nl ds vs n h2, h3⟩
  | .dic ks ds, v, n, h => by
    unfold Rep at h ⊢
    obtain ⟨a, vs, rfl, h1, h2, h3⟩ := h
    exact ⟨a, vs, rfl, h1, Reps.nl ds vs n h2, h3⟩
  | .exc C ns ds, v, n, h => by
    unfold Rep at h ⊢
    obtain ⟨a, d, vs, rfl, h1, h2, h3, h4⟩ := h
    exact ⟨a, d, vs, rfl, h1, Reps.nl ds vs n h2, h3, h4⟩
theorem Reps.nl : ∀ (ds : List D) (vs : List V), nls ds = true → Reps K B α ds vs → Reps K B α' ds vs
  | [], _, _, h => h
  | d :: ds, vs, n, h => by
    have n' : (Pl.nl d && nls ds) = true := n
    rw [Bool.and_eq_true] at n'
    unfold Reps at h ⊢
    obtain ⟨v, r, rfl, h1, h2⟩ := h
    exact ⟨v, r, rfl, Rep.nl d v n'.1 h1, Reps.nl ds r n'.2 h2⟩
end
end

/-! ### what a def promises -/
abbrev Spec := List D → Cells → (Res → Cells → Prop) → (Err → Cells → Prop) → Prop
def spOf (K : PySem.W.Frag) (n : Nat) (S : Spec) : Sp := fun vs H Q E => ∃ F ds Λ, vs.length = n ∧ F.H0 = H ∧ Sat K F F.B0 F.α0 [] Λ [] H ∧ Reps K F.B0 F.α0 ds vs ∧
  S ds Λ (fun r Λ' => ∀ v H' B' α', Sat K F B' α' [] Λ' [] H' → ResAt K F B' α' H' v r → Q v H')
    (fun err Λ' => ∀ B' α' H' c dx, Sat K F B' α' [] Λ' [] H' → ErrAt K F B' α' H' err c dx → E c dx H')

/-- a def of the module, by its name: n arguments, at most level k -/
structure Fn (P : Program) (w : World) (K : PySem.W.Frag) (mg : Str → Option Value) (base : Heap) (k : Nat) (x : Str) (n : Nat) (S : Spec) : Prop where
  ex : ∃ f fd ps, FnG P w K mg base (L2.CX P w) k f fd ps (spOf K n S) ∧ mg x = some (.ref f) ∧ PySem.W.keepIn K (.ref f) = true ∧ Binds K fd ps [] ∧ ps.length = n
theorem Fn.mono {P : Program} {w : World} {K : PySem.W.Frag} {mg : Str → Option Value} {base : Heap} {k k' : Nat} {x : Str} {n : Nat} {S : Spec} (h : Fn P w K mg base k x n S) (hk : k ≤ k') : Fn P w K mg base k' x n S := by
  obtain ⟨f, fd, ps, h1, h2⟩ := h.ex
  exact ⟨f, fd, ps, h1.mono hk, h2⟩
theorem Fn.imp {P : Program} {w : World} {K : PySem.W.Frag} {mg : Str → Option Value} {base : Heap} {k : Nat} {x : Str} {n : Nat} {S S' : Spec} (h : Fn P w K mg base k x n S) (i : ∀ ds Λ Q E, S' ds Λ Q E → S ds Λ Q E) : Fn P w K mg base k x n S' := by
  obtain ⟨f, fd, ps, h1, h2⟩ := h.ex
  exact ⟨f, fd, ps, h1.imp fun vs H Q E ⟨F, ds, Λ, a, b, c, d, e⟩ => ⟨F, ds, Λ, a, b, c, d, i _ _ _ _ e⟩, h2⟩
abbrev Ctx.fn (C : Ctx) (k : Nat) (x : Str) (n : Nat) (S : Spec) : Prop := Fn C.P C.w C.K C.mg C.base k x n S

/-! ### a call: the callee's state behind it, told for the caller -/
section
variable {K : PySem.W.Frag} {F : Fm} {B B' : Hp} {α : List Addr} {Γ : Env} {Λ : Cells} {σ : L2.St} {H H' : Hp}
/-- the callee's entry -/
theorem Sat.enter (S : Sat K F B α Γ Λ σ H) : Sat K ⟨H, B, []⟩ B [] [] [] [] H :=
  ⟨Ex.refl B, S.bh, fun a o h => .inl h, fun a o h _ _ => h, fun a h => h, List.prefix_refl _, List.nodup_nil, rfl, fun n c h => by simp at h, fun a h => by simp at h, fun i d h => by simp at h, rfl, S.tb.start fun a h => by simp at h⟩
/-- behind a call that leaves no cells -/
theorem Sat.back (S : Sat K F B α Γ Λ σ H) (T : Sat K ⟨H, B, []⟩ B' [] [] [] [] H') : Sat K F B' α Γ Λ σ H' := by
  have hB : ∀ a, H a ≠ none → B a = none → B' a = none := fun a h1 h2 => by
    cases q : B' a with
    | none => rfl
    | some o =>
      rcases T.fr a o q with z | z
      · have : B a = some o := z
        rw [h2] at this; cases this
      · exact absurd z h1
  refine ⟨S.bb.trans T.bb, T.bh, fun a o h => ?_, fun a o h ha n => T.kp a o (S.kp a o h ha n) (by simp) n, fun a h => S.dm a (T.dm a h), S.pf, S.nd, S.al, fun n c h hg => ?_, fun a ha => ⟨fun z => (S.ah a ha).1 (T.dm a z), (S.ah a ha).2⟩, fun i d h => ?_, S.ln, S.tb.back T.tb T.kp (fun a h => by simp at h) fun a h => .inl h⟩
  · rcases T.fr a o h with z | z
    · exact S.fr a o z
    · exact .inr (S.dm a z)
  · obtain ⟨a, h1, h2, h3, h4⟩ := S.ce n c h hg
    exact ⟨a, h1, hB a (S.ah a (List.mem_of_getElem? h1)).1 h2, h3, h4.mono T.bb (List.prefix_refl _) fun o q n => T.kp a o q (by simp) n⟩
  · obtain ⟨v, h1, h2⟩ := S.sl i d h
    exact ⟨v, h1, h2.mono T.bb (List.prefix_refl _)⟩
theorem Sat.nil_al (S : Sat K F B α Γ [] σ H) : α = [] := List.length_eq_zero_iff.mp S.al
end

section
variable {C : Ctx} {E : ER} {Γ : Env} {Λ : Cells} {pos p : Pos}
theorem back_plain : ∀ {es : List Expr} {env : PySem.Env}, es.all plainE = true → (backTo pos (starEach es env)).any (·.1) = false
  | [], _, _ => rfl
  | e :: es, env, h => by
    rw [List.all_cons, Bool.and_eq_true] at h
    rw [star_plain h.1]
    show (false || (backTo pos (starEach es env)).any (·.1)) = false
    rw [back_plain h.2]; rfl
/-- what the callee wants of the caller -/
theorem call_sp {F : Fm} {W : WX} {B : Hp} {α : List Addr} {σ : L2.St} {H : Hp} {ds : List D} {vs : List V} {n : Nat} {S : Spec} {Q : VK} {Pr : Res → Prop} {E' : ER} (T : Sat C.K F B α Γ Λ σ H) (r : Reps C.K B α ds vs) (hn : nls ds = true) (hl : ds.length = n)
    (h : S ds [] (fun r Λ' => Λ' = [] ∧ Pr r) fun err Λ' => Λ' = [] ∧ E' err Γ Λ)
    (mono : ∀ Q Q' E E', S ds [] Q E → (∀ r Λ', Q r Λ' → Q' r Λ') → (∀ e Λ', E e Λ' → E' e Λ') → S ds [] Q' E')
    (er : ErOk C.K F W B σ Γ E')
    (q : ∀ r v B' H', Pr r → Sat C.K F B' α Γ Λ σ H' → Ex B B' → ResAt C.K ⟨H, B, []⟩ B' [] H' v r → Q v H') : spOf C.K n S (vs ++ []) H Q fun c dx H' => W c dx σ H' := by
  refine ⟨⟨H, B, []⟩, ds, [], by rw [List.append_nil, r.length, hl], rfl, T.enter, by rw [List.append_nil]; exact Reps.nl ds vs hn r, mono _ _ _ _ h (fun r Λ' p v H' B' α' T' ra => ?_) fun err Λ' p B' α' H' c dx T' ea => ?_⟩
  · obtain ⟨rfl, p⟩ := p
    have e := T'.nil_al
    subst e
    exact q r v B' H' p (T.back T') T'.bb ra
  · obtain ⟨rfl, p⟩ := p
    have e := T'.nil_al
    subst e
    refine er err Λ B' α H' c dx p (T.back T') T'.bb ?_
    obtain ⟨e1, e2⟩ := ea
    refine ⟨e1, ?_⟩
    cases hf : err.fs with
    | none => rw [hf] at e2; exact e2
    | some z =>
      rw [hf] at e2
      obtain ⟨a, vs, q1, q2, q3, q4, q5⟩ := e2
      exact ⟨a, vs, q1, q2, q3.mono (Ex.refl _) List.nil_prefix, q4, fun z => have h : H a = none := (q5 z).1; ⟨T.dm a h, fun hm => (T.ah a hm).1 h⟩⟩
/-- a promise that asks less where less is wished -/
def Mono (S : Spec) : Prop := ∀ ds Λ Q Q' E E', S ds Λ Q E → (∀ r Λ', Q r Λ' → Q' r Λ') → (∀ e Λ', E e Λ' → E' e Λ') → S ds Λ Q' E'

/-- f(e, ..) of a def of the module that takes and leaves no cells: a value -/
theorem we_call [Cool C] {k n : Nat} {x : Str} {S : Spec} {e : Expr} {es : List Expr} {P : D → Cells → Prop} (G : C.fn k x n S) (hk : k ≤ C.k) (hj : GlAt C x) (m : Mono S)
    (h : WA C E Γ Λ (e :: es) fun ds Λ1 => nls ds = true ∧ ds.length = n ∧ S ds [] (fun r Λ' => Λ' = [] ∧ ∃ d, r = .val d ∧ P d Λ1) fun err Λ' => Λ' = [] ∧ E err Γ Λ1)
    (he : plainE e = true := by rfl) (hes : es.all plainE = true := by rfl) (hdb : (x == ("__debug__" : Str)) = false := by decide) : WE C E Γ Λ (.Call (.Name x p) (e :: es) [] pos) P := fun X F W is tk => by
  obtain ⟨f, fd, ps, h1, h2, h3, h4, h5⟩ := G.ex
  have e1 := is.prog; have e2 := is.w; have e3 := is.K; have e4 := is.mg; have e5 := is.base
  refine pe_imp (pe_callSDG (E := fun σ c dx H' => W c dx σ H') (dvs := []) (ds := []) (by rw [e1, e2, e3, e4, e5]; exact h1) (is.room.mono hk) (is.gl hj) (by rw [e4]; exact h2) (by rw [e3]; exact h3) (by rw [e3]; exact h4) .nil
    (fun σ => by rw [← e1, ← e2]; exact passAt tk σ) pa_U hdb (star_plain he) (back_plain hes)) fun σ H Q ⟨B, α, T, q, er⟩ => ?_
  refine WA.use h is tk T er fun ds Λ1 vs B1 α1 H1 p1 T1 x1 f1 r1 => ?_
  obtain ⟨n1, n2, s1⟩ := p1
  refine call_sp T1 r1 n1 n2 s1 (m ds []) (er.mono x1) fun r v B' H' p' T' x' ra => ?_
  obtain ⟨d, rfl, p'⟩ := p'
  exact q d Λ1 v B' α1 H' p' T' (x1.trans x') f1 (Rep.mono (Ex.refl _) List.nil_prefix d v ra)
/-- .. a new list -/
theorem wn_call [Cool C] {k n : Nat} {x : Str} {S : Spec} {e : Expr} {es : List Expr} {P : List D → Cells → Prop} (G : C.fn k x n S) (hk : k ≤ C.k) (hj : GlAt C x) (m : Mono S)
    (h : WA C E Γ Λ (e :: es) fun ds Λ1 => nls ds = true ∧ ds.length = n ∧ S ds [] (fun r Λ' => Λ' = [] ∧ ∃ ds', r = .new ds' ∧ P ds' Λ1) fun err Λ' => Λ' = [] ∧ E err Γ Λ1)
    (he : plainE e = true := by rfl) (hes : es.all plainE = true := by rfl) (hdb : (x == ("__debug__" : Str)) = false := by decide) : WN C E Γ Λ (.Call (.Name x p) (e :: es) [] pos) P := fun X F W is tk => by
  obtain ⟨f, fd, ps, h1, h2, h3, h4, h5⟩ := G.ex
  have e1 := is.prog; have e2 := is.w; have e3 := is.K; have e4 := is.mg; have e5 := is.base
  refine pe_imp (pe_callSDG (E := fun σ c dx H' => W c dx σ H') (dvs := []) (ds := []) (by rw [e1, e2, e3, e4, e5]; exact h1) (is.room.mono hk) (is.gl hj) (by rw [e4]; exact h2) (by rw [e3]; exact h3) (by rw [e3]; exact h4) .nil
    (fun σ => by rw [← e1, ← e2]; exact passAt tk σ) pa_U hdb (star_plain he) (back_plain hes)) fun σ H Q ⟨B, α, T, q, er⟩ => ?_
  refine WA.use h is tk T er fun ds Λ1 vs B1 α1 H1 p1 T1 x1 f1 r1 => ?_
  obtain ⟨n1, n2, s1⟩ := p1
  refine call_sp T1 r1 n1 n2 s1 (m ds []) (er.mono x1) fun r v B' H' p' T' x' ra => ?_
  obtain ⟨ds', rfl, p'⟩ := p'
  obtain ⟨pa, ws, rfl, q1, q2, q3, q4, q5⟩ := ra
  have q3 : H1 pa = none := q3
  exact q ds' Λ1 pa ws B' α1 H' p' T' (x1.trans x') f1 q1 q2 (T1.dm pa q3) (fun hm => (T1.ah pa hm).1 q3) (q5.mono (Ex.refl _) List.nil_prefix)
end

/-! ### statements -/
section
variable {C : Ctx} {Γ : Env} {Λ : Cells} {R : Rs} {pos : Pos}
theorem wss_nil (h : R.nx Γ Λ) : WSs C Γ Λ [] R := fun X F W is hm tk => pss_imp pss_nil fun D σ H ⟨B, α, S, q⟩ => q.nx Γ Λ B α σ H h S (Ex.refl B)
theorem wss_cons {s : Stmt} {rest : List Stmt} (h : WS C Γ Λ s { R with nx := fun Γ' Λ' => WSs C Γ' Λ' rest R }) : WSs C Γ Λ (s :: rest) R := fun X F W is hm tk => by
  refine pss_imp (pss_cons ps_U pss_U) fun D σ H ⟨B, α, S, q⟩ => ?_
  refine WS.use h is hm tk S ⟨fun Γ' Λ' B' α' σ' H' r S' e => ?_, q.rt, q.bk, q.ct, q.er⟩
  exact WSs.use r is hm tk S' (q.mono e)
theorem ws_if {c : Expr} {a b : List Stmt} (h : WT C R.er Γ Λ c fun k Λ1 => if k = true then WSs C Γ Λ1 a R else WSs C Γ Λ1 b R) : WS C Γ Λ (.If c a b pos) R := fun X F W is hm tk => by
  refine ps_imp (ps_if pt_U pss_U pss_U) fun D σ H ⟨B, α, S, q⟩ => ?_
  refine WT.use h is tk S q.er.at fun k Λ1 B1 α1 H1 p1 S1 e1 f1 => ?_
  cases k with
  | true =>
    rw [if_pos rfl] at p1 ⊢
    exact WSs.use p1 is hm tk S1 (q.mono e1)
  | false =>
    rw [if_neg (by simp)] at p1 ⊢
    exact WSs.use p1 is hm tk S1 (q.mono e1)
/-- no comprehension stands there -/
def noComp : Expr → Bool
  | .ListComp _ _ _ _ => false
  | .SetComp _ _ _ _ => false
  | .DictComp _ _ _ _ _ => false
  | _ => true
theorem noSwap {e : Expr} {t : Option Expr} {l : Nat} {env : PySem.Env} (h : noComp e = true) : swapsWith e t l env = pure false := by
  cases e <;> first | rfl | cases h
theorem ws_expr {e : Expr} (h : WE C R.er Γ Λ e fun _ Λ' => R.nx Γ Λ') (hc : noComp e = true := by rfl) : WS C Γ Λ (.Expr e pos) R := fun X F W is hm tk => by
  refine ps_imp (ps_expr pe_U (noSwap hc)) fun D σ H ⟨B, α, S, q⟩ => ?_
  exact WE.use h is tk S q.er.at fun d Λ' v B' α' H' p S' e f r => q.nx Γ Λ' B' α' σ H' p S' e
theorem ws_set {i : Nat} {x : Str} {e : Expr} {pos' : Pos} (hi : C.N[i]? = some x) (hl : C.ls[i]? = some true) (h : WE C R.er Γ Λ e fun d Λ' => R.nx (Γ.set i (some d)) Λ') (hc : noComp e = true := by rfl) : WS C Γ Λ (.Assign [.Name x pos'] e pos) R := fun X F W is hm tk => by
  refine ps_imp (ps_set is.nd (is.ni hi) (is.loc hi hl) pe_U (noSwap hc) (is.fn i x hi hl)) fun D σ H ⟨B, α, S, q⟩ => ?_
  exact WE.use h is tk S q.er.at fun d Λ' v B' α' H' p S' e f r => q.nx _ Λ' B' α' _ H' p (S'.set r) e
theorem ws_ret {e : Expr} (h : WE C R.er Γ Λ e fun d Λ' => R.rt (.val d) Λ') : WS C Γ Λ (.Return (some e) pos) R := fun X F W is hm tk => by
  refine ps_imp (ps_ret pe_U) fun D σ H ⟨B, α, S, q⟩ => ?_
  exact WE.use h is tk S q.er.at fun d Λ' v B' α' H' p S' e f r => q.rt _ Λ' v Γ B' α' σ H' p S' e r
theorem ws_retn {e : Expr} (h : WN C R.er Γ Λ e fun ds Λ' => R.rt (.new ds) Λ') : WS C Γ Λ (.Return (some e) pos) R := fun X F W is hm tk => by
  refine ps_imp (ps_ret pe_U) fun D σ H ⟨B, α, S, q⟩ => ?_
  exact WN.use h is tk S q.er.at fun ds Λ' p vs B' α' H' hp S' e f h1 h2 h3 h4 h5 => q.rt _ Λ' _ Γ B' α' σ H' hp S' e ⟨p, vs, rfl, h1, h2, h3, h4, h5⟩
end

/-! ### cells thrown away -/
/-- the last cells are dropped, the slots that told them forgotten -/
theorem Sat.cut {K : PySem.W.Frag} {F : Fm} {B : Hp} {α : List Addr} {Γ Γ' : Env} {Λ : Cells} {σ σ' : L2.St} {H : Hp} {m : Nat} (S : Sat K F B α Γ Λ σ H) (hm : F.α0.length ≤ m) 
    (hc : ∀ c ∈ Λ.take m, match c with | .lst ds => nls ds = true | .dic _ ds => nls ds = true | .ins _ _ ds => nls ds = true | .gone => True) (hl : Γ'.length = σ'.length)
    (hs : ∀ (i : Nat) (d : D), Γ'[i]? = some (some d) → ∃ v, σ'[i]? = some (some v) ∧ Rep K B (α.take m) d v) : Sat K F B (α.take m) Γ' (Λ.take m) σ' H := by
  refine { S with pf := ?_, nd := S.nd.sublist (List.take_sublist _ _), al := by simp [S.al], ce := fun n c h hg => ?_, ah := fun a ha => S.ah a (List.mem_of_mem_take ha), sl := hs, ln := hl, tb := S.tb.sub fun a ha => List.mem_of_mem_take ha }
  · obtain ⟨t, ht⟩ := S.pf
    rw [← ht, List.take_append]
    rw [List.take_of_length_le hm]
    exact List.prefix_append _ _
  · have hn : n < m := by
      by_cases z : n < m
      · exact z
      · have := (List.getElem?_eq_some_iff.mp h).1
        rw [List.length_take] at this; omega
    rw [List.getElem?_take_of_lt hn] at h
    obtain ⟨a, h1, h2, h3, h4⟩ := S.ce n c h hg
    refine ⟨a, by rw [List.getElem?_take_of_lt hn]; exact h1, h2, h3, ?_⟩
    have hm' := hc c (by rw [← List.getElem?_take_of_lt hn] at h; exact List.mem_of_getElem? h)
    cases c with
    | lst ds => obtain ⟨vs, q1, q2⟩ := h4; exact ⟨vs, q1, Reps.nl ds vs hm' q2⟩
    | dic ks ds => obtain ⟨vs, q1, q2, q3⟩ := h4; exact ⟨vs, q1, Reps.nl ds vs hm' q2, q3⟩
    | ins C ns ds => obtain ⟨dx, vs, q1, q2, q3⟩ := h4; exact ⟨dx, vs, q1, Reps.nl ds vs hm' q2, q3⟩
    | gone => trivial

def nlC : Cell → Bool
  | .lst ds => nls ds
  | .dic _ ds => nls ds
  | .ins _ _ ds => nls ds
  | .gone => true
def nlR : Res → Bool
  | .val d => nl d
  | .new ds => nls ds
def nlE (e : Err) : Bool := match e.fs with
  | none => true
  | some (_, ds) => nls ds
/-- what a def's body is to reach: the wish at the cells that it was handed -/
def rtX (Λ0 : Cells) (Q : Res → Cells → Prop) (r : Res) (Λ' : Cells) : Prop := nlR r = true ∧ (Λ'.take Λ0.length).all nlC = true ∧ Q r (Λ'.take Λ0.length)
def erX (Λ0 : Cells) (Q : Err → Cells → Prop) (e : Err) (_ : Env) (Λ' : Cells) : Prop := nlE e = true ∧ (Λ'.take Λ0.length).all nlC = true ∧ Q e (Λ'.take Λ0.length)
theorem all_nlC {Λ : Cells} (h : Λ.all nlC = true) : ∀ c ∈ Λ, match c with | .lst ds => nls ds = true | .dic _ ds => nls ds = true | .ins _ _ ds => nls ds = true | .gone => True := fun c hc => by
  have := List.all_eq_true.mp h c hc
  cases c <;> first | exact this | trivial
/-- a def's slots at its entry -/
def Γ0 (N : List Str) (ds : List D) : Env := ds.map some ++ List.replicate (N.length - ds.length) none

/-- THE RULE: a def of the module keeps its promise, by its body -/
theorem fn_ok {P : Program} {w : World} {K : PySem.W.Frag} {mg : Str → Option Value} {base : Heap} {x qual : Str} {st : Stmt} {f : Addr} {fd : FuncData} {N ps : List Str} {k : Nat} {S : Spec} (F : Fun K x qual st f fd) (sc : FnScope N ps (defScope st)) (C : Ctx)
    (hC : C.P = P ∧ C.w = w ∧ C.K = K ∧ C.mg = mg ∧ C.base = base ∧ C.N = N ∧ C.sc = defScope st ∧ C.k = k) (good : C.Good) (hm : ∀ ds Λ Q E, S ds Λ Q E → Λ.length ≤ C.m)
    (hb : ∀ ds Λ Q E, ds.length = ps.length → S ds Λ Q E → WSs C (Γ0 N ds) Λ (defBody st) ⟨fun _ Λ' => rtX Λ Q (.val .non) Λ', rtX Λ Q, fun _ _ => False, fun _ _ => False, erX Λ E⟩)
    (hcd : ∀ q c, C.cd = some (q, c) → qual ++ ".<locals>." = q ∧ fd.code = .ref c := by intro _ _ h; cases h) : FnG P w K mg base (L2.CX P w) (k + 1) f fd ps (spOf K ps.length S) := by
  obtain ⟨rfl, rfl, rfl, rfl, rfl, rfl, hsc, rfl⟩ := hC
  refine F.okXG sc (fun vs H Q E h => by obtain ⟨_, _, _, h, _⟩ := h; exact h) fun cdv A outer s H vs Q E ecd hr h => ?_
  obtain ⟨Fm', ds, Λ, hl, hH, T, r, sp⟩ := h
  have hds : ds.length = ps.length := by rw [← r.length]; exact hl
  have hN : ps.length ≤ C.N.length := by have := congrArg List.length sc.pre; rw [List.length_take] at this; omega
  let X := cxOf (L2.CX C.P C.w) C.P C.w C.K C.mg C.base C.N qual (defScope st) f cdv A outer s H E
  have is : C.Is X := ⟨rfl, rfl, rfl, rfl, rfl, rfl, hsc.symm, fun _ => rfl, fun _ => hr.hd, hr.w, fun _ _ _ _ => .inl rfl, good, passes_of rfl, fun _ => ⟨rfl, rfl, rfl⟩, fun q c e => ⟨(hcd q c e).1, ecd.symm.trans (hcd q c e).2⟩⟩
  have tk : Takes X (fun c d _ H => E c d H) := takes_of rfl rfl rfl rfl
  have T' : Sat C.K Fm' Fm'.B0 Fm'.α0 (Γ0 C.N ds) Λ (L2.start C.N vs) H := by
    refine T.env ?_ fun i d hi => ?_
    · unfold Γ0 L2.start
      simp only [List.length_append, List.length_map, List.length_replicate]
      omega
    · unfold Γ0 at hi
      by_cases hlt : i < ds.length
      · rw [List.getElem?_append_left (by simpa using hlt), List.getElem?_map] at hi
        cases q : ds[i]? with
        | none => rw [q] at hi; cases hi
        | some e =>
          rw [q] at hi
          cases hi
          obtain ⟨v, h1, h2⟩ := r.get q
          refine ⟨v, ?_, h2⟩
          unfold L2.start
          rw [List.getElem?_append_left (by have := (List.getElem?_eq_some_iff.mp h1).1; simpa using this), List.getElem?_map, h1]
          rfl
      · rw [List.getElem?_append_right (by simpa using hlt), List.getElem?_replicate] at hi
        split at hi <;> cases hi
  have hlen : Fm'.α0.length = Λ.length := T.al
  have cut : ∀ {Γ' : Env} {Λ' : Cells} {B' : Hp} {α' : List Addr} {σ' : L2.St} {H' : Hp}, Sat C.K Fm' B' α' Γ' Λ' σ' H' → (Λ'.take Λ.length).all nlC = true → Sat C.K Fm' B' (α'.take Λ.length) [] (Λ'.take Λ.length) [] H' := fun S' h =>
    S'.cut (by omega) (all_nlC h) rfl fun i d h => by simp at h
  refine ⟨_, hb ds Λ _ _ hds sp X Fm' _ is (by rw [T.al]; exact hm _ _ _ _ sp) tk, Fm'.B0, Fm'.α0, T', ⟨fun Γ' Λ' B' α' σ' H' h S' e => ?_, fun r Λ' v Γ' B' α' σ' H' h S' e ra => ?_, fun Γ' Λ' B' α' σ' H' h => h.elim, fun Γ' Λ' B' α' σ' H' h => h.elim, fun err Γ' Λ' B' α' σ' H' c dx h S' e ea => ?_⟩⟩
  · obtain ⟨h1, h2, h3⟩ := h
    exact h3 .non H' B' _ (cut S' h2) (by unfold ResAt Rep; rfl)
  · obtain ⟨h1, h2, h3⟩ := h
    refine h3 v H' B' _ (cut S' h2) ?_
    cases r with
    | val d => exact Rep.nl d v h1 ra
    | new ds =>
      obtain ⟨p, vs, q1, q2, q3, q4, q5, q6⟩ := ra
      exact ⟨p, vs, q1, q2, q3, q4, fun hm => q5 (List.mem_of_mem_take hm), Reps.nl ds vs h1 q6⟩
  · obtain ⟨h1, h2, h3⟩ := h
    refine h3 B' _ H' c dx (cut S' h2) ?_
    obtain ⟨e1, e2⟩ := ea
    refine ⟨e1, ?_⟩
    unfold nlE at h1
    cases hf : err.fs with
    | none => rw [hf] at e2; exact e2
    | some z =>
      obtain ⟨ns, ds⟩ := z
      rw [hf] at e2 h1
      obtain ⟨a, vs, q1, q2, q3, q4, q5⟩ := e2
      exact ⟨a, vs, q1, q2, Reps.nl ds vs h1 q3, q4, fun z => ⟨(q5 z).1, fun hm => (q5 z).2 (List.mem_of_mem_take hm)⟩⟩
theorem fn_mk {P : Program} {w : World} {K : PySem.W.Frag} {mg : Str → Option Value} {base : Heap} {k : Nat} {x : Str} {f : Addr} {fd : FuncData} {ps : List Str} {S : Spec} (h : FnG P w K mg base (L2.CX P w) k f fd ps (spOf K ps.length S)) (hm : mg x = some (.ref f)) (hk : PySem.W.keepIn K (.ref f) = true) (hb : Binds K fd ps []) :
    Fn P w K mg base k x ps.length S := ⟨f, fd, ps, h, hm, hk, hb, rfl⟩
end Pl

namespace Pl
open PySem L2 PyProof.Rows

/-! ### the frame told anew -/
section
variable {K : PySem.W.Frag} {F : Fm} {B B' : Hp} {α α' : List Addr} {Γ Γ' : Env} {Λ Λ' : Cells} {σ σ' : L2.St} {H H' : Hp}
theorem pre_mem {l l' : List Addr} {a : Addr} (h : l <+: l') (m : a ∈ l) : a ∈ l' := by
  obtain ⟨t, rfl⟩ := h
  exact List.mem_append_left _ m
theorem Sat.rebase (S : Sat K F B α Γ Λ σ H) : Sat K ⟨H, B, α⟩ B α Γ Λ σ H :=
  ⟨Ex.refl B, S.bh, fun a o h => .inl h, fun a o h _ _ => h, fun a h => h, List.prefix_refl _, S.nd, S.al, fun n c h hg => by
    obtain ⟨a, h1, h2, _, h4⟩ := S.ce n c h hg
    exact ⟨a, h1, h2, .inr (List.mem_of_getElem? h1), h4⟩, fun a ha => ⟨(S.ah a ha).1, .inr ha⟩, S.sl, S.ln, S.tb.start fun a h => h⟩
theorem Sat.unbase (S : Sat K F B α Γ Λ σ H) (T : Sat K ⟨H, B, α⟩ B' α' Γ' Λ' σ' H') : Sat K F B' α' Γ' Λ' σ' H' := by
  have al : ∀ a ∈ α, F.H0 a = none ∨ a ∈ F.α0 := fun a ha => (S.ah a ha).2
  have al' : ∀ a ∈ α', F.H0 a = none ∨ a ∈ F.α0 := fun a ha => by
    rcases (T.ah a ha).2 with z | z
    · exact .inl (S.dm a z)
    · exact al a z
  refine ⟨S.bb.trans T.bb, T.bh, fun a o h => ?_, fun a o h ha n => ?_, fun a h => S.dm a (T.dm a h), S.pf.trans T.pf, T.nd, T.al, fun n c h hg => ?_, fun a ha => ⟨(T.ah a ha).1, al' a ha⟩, T.sl, T.ln, S.tb.back T.tb T.kp (fun a h => pre_mem T.pf h) fun a h => .inr h⟩
  · rcases T.fr a o h with z | z
    · exact S.fr a o z
    · exact .inr (S.dm a z)
  · refine T.kp a o (S.kp a o h ha n) (fun z => ?_) n
    rcases al a z with q | q
    · rw [h] at q; cases q
    · exact ha q
  · obtain ⟨a, h1, h2, h3, h4⟩ := T.ce n c h hg
    exact ⟨a, h1, h2, al' a (List.mem_of_getElem? h1), h4⟩
end

/-! ### targets -/
/-- all slots but those told are as they were -/
def Agree (vs : List Nat) (σ σ' : L2.St) : Prop := σ'.length = σ.length ∧ ∀ j : Nat, j ∉ vs → σ'[j]? = σ[j]?
theorem Agree.refl (vs : List Nat) (σ : L2.St) : Agree vs σ σ := ⟨rfl, fun _ _ => rfl⟩
theorem Agree.trans {vs ws : List Nat} {σ σ' σ'' : L2.St} (h : Agree vs σ σ') (k : Agree ws σ' σ'') : Agree (vs ++ ws) σ σ'' := ⟨k.1.trans h.1, fun j hj => by
  rw [k.2 j (fun z => hj (List.mem_append_right _ z)), h.2 j (fun z => hj (List.mem_append_left _ z))]⟩
def WG (C : Ctx) (Γ : Env) (Λ : Cells) (tg : Expr) (d : D) (vs : List Nat) (P : Env → Prop) : Prop := ∀ X F, C.Is X → PG X tg fun v σ H Q => ∃ B α, Sat C.K F B α Γ Λ σ H ∧ Rep C.K B α d v ∧
  ∀ Γ' σ', P Γ' → Sat C.K F B α Γ' Λ σ' H → Agree vs σ σ' → Q σ' H
def WGs (C : Ctx) (Γ : Env) (Λ : Cells) (tg : List Expr) (ds : List D) (vs : List Nat) (P : Env → Prop) : Prop := ∀ X F, C.Is X → PGs X tg fun us σ H Q => ∃ B α, Sat C.K F B α Γ Λ σ H ∧ Reps C.K B α ds us ∧
  ∀ Γ' σ', P Γ' → Sat C.K F B α Γ' Λ σ' H → Agree vs σ σ' → Q σ' H
def UG (X : Cx) (e : Expr) : TG := fun v σ H Q => ∃ t, PG X e t ∧ t v σ H Q
def UGs (X : Cx) (e : List Expr) : TGs := fun v σ H Q => ∃ t, PGs X e t ∧ t v σ H Q
theorem pg_U {X : Cx} {e : Expr} : PG X e (UG X e) := ⟨fun pins s σ H v u Q I r ⟨_, h, q⟩ => h.run pins s σ H v u Q I r q⟩
theorem pgs_U {X : Cx} {e : List Expr} : PGs X e (UGs X e) := ⟨fun pins s σ H v u Q I r ⟨_, h, q⟩ => h.run pins s σ H v u Q I r q⟩
theorem pg_imp {X : Cx} {e : Expr} {t t' : TG} (h : PG X e t) (i : ∀ v σ H Q, t' v σ H Q → t v σ H Q) : PG X e t' := ⟨fun pins s σ H v u Q I r q => h.run pins s σ H v u Q I r (i v σ H Q q)⟩
theorem pgs_imp {X : Cx} {e : List Expr} {t t' : TGs} (h : PGs X e t) (i : ∀ v σ H Q, t' v σ H Q → t v σ H Q) : PGs X e t' := ⟨fun pins s σ H v u Q I r q => h.run pins s σ H v u Q I r (i v σ H Q q)⟩
section
variable {C : Ctx} {Γ : Env} {Λ : Cells} {P : Env → Prop} {pos : Pos}
theorem wg_name {i : Nat} {x : Str} {d : D} (hi : C.N[i]? = some x) (hl : C.ls[i]? = some true) (p : P (Γ.set i (some d))) : WG C Γ Λ (.Name x pos) d [i] P := fun X F is =>
  pg_imp (pg_name is.nd (is.ni hi) (is.loc hi hl) (is.fn i x hi hl)) fun v σ H Q ⟨B, α, S, r, q⟩ => q _ _ p (S.set r) ⟨by simp, fun j hj => by rw [List.getElem?_set_ne (fun e => hj (by simp [e]))]⟩
theorem wgs_nil (p : P Γ) : WGs C Γ Λ [] [] [] P := fun X F is => pgs_imp pgs_nil fun v σ H Q ⟨B, α, S, r, q⟩ => ⟨by unfold Reps at r; exact r, q _ _ p S (Agree.refl _ _)⟩
/-- no star, no attribute .. : stored by itself -/
def plainT : Expr → Bool
  | .Starred _ _ => false
  | _ => true
theorem each_plain {e : Expr} {es : List Expr} {env : PySem.Env} (h : plainT e = true) : (assignEach (e :: es) env).map (·.2) = assign e env :: (assignEach es env).map (·.2) := by
  cases e <;> first | rfl | cases h
theorem wgs_cons {e : Expr} {es : List Expr} {d : D} {ds : List D} {vs ws : List Nat} (h : WG C Γ Λ e d vs fun Γ' => WGs C Γ' Λ es ds ws P) (he : plainT e = true := by rfl) : WGs C Γ Λ (e :: es) (d :: ds) (vs ++ ws) P := fun X F is => by
  refine pgs_imp (pgs_cons pg_U pgs_U (each_plain he)) fun us σ H Q ⟨B, α, S, r, q⟩ => ?_
  unfold Reps at r
  obtain ⟨v, r', rfl, h1, h2⟩ := r
  refine ⟨v, r', rfl, _, h X F is, B, α, S, h1, fun Γ' σ' p S' ag => ?_⟩
  exact ⟨_, p X F is, B, α, S', h2, fun Γ'' σ'' p' S'' ag' => q Γ'' σ'' p' S'' (ag.trans ag')⟩
theorem each_len {es : List Expr} {env : PySem.Env} : (assignEach es env).length = es.length := by
  induction es with
  | nil => rfl
  | cons e es ih => cases e <;> (show (assignEach es env).length + 1 = es.length + 1; rw [ih])
theorem each_star {es : List Expr} {env : PySem.Env} (h : es.all plainT = true) : (assignEach es env).findIdx? (·.1) = none := by
  induction es with
  | nil => rfl
  | cons e es ih =>
    rw [List.all_cons, Bool.and_eq_true] at h
    have q := ih h.2
    cases e <;> first
      | (cases h.1; done)
      | (rw [List.findIdx?_eq_none_iff] at q ⊢
         intro y hy
         rcases List.mem_cons.mp hy with z | z
         · rw [z]
         · exact q y z)
/-- (a, b, ..): a tuple's items -/
theorem wg_tup [Cool C] {es : List Expr} {k : Nat} {ds : List D} {vs : List Nat} (h : WGs C Γ Λ es ds vs P) (hl : es.length = ds.length) (hp : es.all plainT = true := by rfl) : WG C Γ Λ (.Tuple es k pos) (.tup ds) vs P := fun X F is => by
  refine pg_imp (pg_tup is.calm pgs_U (n := ds.length) (by rw [each_len, hl]) (each_star hp)) fun v σ H Q ⟨B, α, S, r, q⟩ => ?_
  unfold Rep at r
  obtain ⟨a, us, rfl, h1, h2⟩ := r
  exact ⟨a, us, rfl, by rw [is.K]; exact S.bh.sqT h1.1, h2.length, _, h X F is, B, α, S, h2, q⟩
end

/-! ### what is walked -/
/-- a tuple made anew: known to its object, or one not of truths alone -/
def TupHO (o : HO) (vs : List V) (es : List D) : Prop := (o = .tup vs ∧ allBl es = false) ∨ ∃ its, o = .frz (tupO its) (.tup vs)
theorem TupHO.nt {o : HO} {vs : List V} {es : List D} (h : TupHO o vs es) : NoTbl o := fun ps q => by
  rcases h with ⟨rfl, _⟩ | ⟨its, rfl⟩ <;> cases q
theorem TupHO.sq {K : PySem.W.Frag} {B : Hp} {a : Addr} {o : HO} {vs : List V} {es : List D} (h : TupHO o vs es) (e : B a = some o) : SqX K B a vs es := by
  rcases h with ⟨rfl, q⟩ | ⟨its, rfl⟩
  · exact .odd (SqT.of e) q
  · exact .new e
structure ItsOk (K : PySem.W.Frag) (B : Hp) (J : It) (ds : List D) : Prop where
  go : ∀ (i : Nat) (H : Hp), i < ds.length → Ex B H → J.go i H
  stop : ∀ H : Hp, Ex B H → J.stop ds.length H
  yld : ∀ (i : Nat) (H : Hp) (x : V) (H' : Hp) (d : D), ds[i]? = some d → Ex B H → J.yld i H x H' →
    (H' = H ∧ Rep K B [] d x) ∨ (∃ p o vs es, x = .ref p ∧ H p = none ∧ H' = upd H p o ∧ TupHO o vs es ∧ d = .tup es ∧ Reps K B [] es vs)
def WI (C : Ctx) (E : ER) (Γ : Env) (Λ : Cells) (tg iter : Expr) (P : List D → Cells → Prop) : Prop := ∀ X F W, C.Is X → Takes X W → PI X tg iter fun σ H R => ∃ B α, Sat C.K F B α Γ Λ σ H ∧
  (∀ ds Λ' J B' α' H', P ds Λ' → Sat C.K F B' α' Γ Λ' σ H' → Ex B B' → α <+: α' → ItsOk C.K B' J ds → R J H') ∧ ErOk C.K F W B σ Γ E
def UI (X : Cx) (tg e : Expr) : TI := fun σ H R => ∃ t, PI X tg e t ∧ t σ H R
theorem pi_U {X : Cx} {tg e : Expr} : PI X tg e (UI X tg e) := ⟨fun pins s σ H R I ⟨_, h, q⟩ => h.run pins s σ H R I q⟩
theorem pi_imp {X : Cx} {tg e : Expr} {t t' : TI} (h : PI X tg e t) (i : ∀ σ H R, t' σ H R → t σ H R) : PI X tg e t' := ⟨fun pins s σ H R I q => h.run pins s σ H R I (i σ H R q)⟩
/-- what a turn's item is, for the body -/
theorem ItsOk.take {K : PySem.W.Frag} {F : Fm} {B B0 : Hp} {α : List Addr} {Γ : Env} {Λ : Cells} {σ : L2.St} {H H' : Hp} {J : It} {ds : List D} {i : Nat} {d : D} {x : V} (I : ItsOk K B0 J ds) (S : Sat K F B α Γ Λ σ H) (e : Ex B0 B) (hd : ds[i]? = some d) (y : J.yld i H x H') :
    ∃ B', Sat K F B' α Γ Λ σ H' ∧ Ex B B' ∧ Rep K B' α d x := by
  rcases I.yld i H x H' d hd (e.trans S.bh) y with ⟨rfl, r⟩ | ⟨p, o, vs, es, rfl, hp, rfl, ho, rfl, r⟩
  · exact ⟨B, S, Ex.refl B, r.mono e List.nil_prefix⟩
  · have hB := S.bh.back hp
    refine ⟨upd B p o, S.lay hp ho.nt, Ex.new hB, ?_⟩
    unfold Rep
    exact ⟨p, vs, rfl, ho.sq upd_same, r.mono (e.trans (Ex.new hB)) List.nil_prefix⟩
section
variable {C : Ctx} {E : ER} {Γ : Env} {Λ : Cells} {tg : Expr} {P : List D → Cells → Prop} {pos p : Pos}
theorem itl_ok' {K : PySem.W.Frag} {B : Hp} {a : Addr} {vs : List V} {ds : List D} (h : SqL K B a vs) (r : Reps K B [] ds vs) : ItsOk K B (Itl K a) ds where
  go := fun i H hi e => by
    obtain ⟨v, hv, _⟩ := r.get (List.getElem?_eq_getElem hi)
    exact ⟨vs, v, e.sqL h, hv⟩
  stop := fun H e => ⟨vs, e.sqL h, by rw [r.length]; exact Nat.le_refl _⟩
  yld := fun i H x H' d hd e y => by
    obtain ⟨rfl, y⟩ := y
    obtain ⟨v, hv, rv⟩ := r.get hd
    have q := y vs (e.sqL h)
    rw [hv] at q; cases q
    exact .inl ⟨rfl, rv⟩
theorem itt_ok {K : PySem.W.Frag} {B : Hp} {a : Addr} {vs : List V} {ds : List D} (h : SqT K B a vs) (r : Reps K B [] ds vs) : ItsOk K B (Itt K a) ds where
  go := fun i H hi e => by
    obtain ⟨v, hv, _⟩ := r.get (List.getElem?_eq_getElem hi)
    exact ⟨vs, v, e.sqT h, hv⟩
  stop := fun H e => ⟨vs, e.sqT h, by rw [r.length]; exact Nat.le_refl _⟩
  yld := fun i H x H' d hd e y => by
    obtain ⟨rfl, y⟩ := y
    obtain ⟨v, hv, rv⟩ := r.get hd
    have q := y vs (e.sqT h)
    rw [hv] at q; cases q
    exact .inl ⟨rfl, rv⟩
/-- over a list's value -/
theorem wi_list {e : Expr} (h : WE C E Γ Λ e fun d Λ' => ∃ ds, (d = .lst ds ∨ d = .fzl ds) ∧ nls ds = true ∧ P ds Λ') : WI C E Γ Λ tg e P := fun X F W is tk => by
  refine pi_imp (pi_list pe_U) fun σ H R ⟨B, α, S, q, er⟩ => ?_
  refine WE.use h is tk S er fun d Λ' v B' α' H' p S' e f r => ?_
  obtain ⟨ds, hd, hn, p⟩ := p
  have key : ∃ a vs, v = .ref a ∧ SqL C.K B' a vs ∧ Reps C.K B' α' ds vs := by
    rcases hd with rfl | rfl
    · unfold Rep at r
      obtain ⟨a, vs, h1, h2, h3⟩ := r
      exact ⟨a, vs, h1, SqL.of h2, h3⟩
    · unfold Rep at r
      exact r
  obtain ⟨a, vs, rfl, h1, h2⟩ := key
  refine ⟨a, rfl, ⟨vs, by rw [is.K]; exact S'.bh.sqL h1⟩, ?_⟩
  rw [is.K]
  exact q ds Λ' _ B' α' H' p S' e f (itl_ok' h1 (Reps.nl ds vs hn h2))
theorem wi_tup {e : Expr} (h : WE C E Γ Λ e fun d Λ' => ∃ ds, d = .tup ds ∧ nls ds = true ∧ P ds Λ') : WI C E Γ Λ tg e P := fun X F W is tk => by
  refine pi_imp (pi_tup pe_U) fun σ H R ⟨B, α, S, q, er⟩ => ?_
  refine WE.use h is tk S er fun d Λ' v B' α' H' p S' e f r => ?_
  obtain ⟨ds, rfl, hn, p⟩ := p
  unfold Rep at r
  obtain ⟨a, vs, rfl, h1, h2⟩ := r
  refine ⟨a, rfl, ⟨vs, by rw [is.K]; exact S'.bh.sqT h1.1⟩, ?_⟩
  rw [is.K]
  exact q ds Λ' _ B' α' H' p S' e f (itt_ok h1.1 (Reps.nl ds vs hn h2))
/-- lo, lo + 1, .. n of them -/
def rangeD (lo : Int) (n : Nat) : List D := (List.range n).map fun i => .int (lo + (i : Nat))
theorem itr_ok {K : PySem.W.Frag} {B : Hp} {lo : Int} {n : Nat} : ItsOk K B (Itr lo n) (rangeD lo n) where
  go := fun i H hi _ => by show i < n; unfold rangeD at hi; simpa using hi
  stop := fun H _ => by show n ≤ _; unfold rangeD; simp
  yld := fun i H x H' d hd _ y => by
    obtain ⟨rfl, rfl⟩ := y
    unfold rangeD at hd
    rw [List.getElem?_map] at hd
    have hi : i < n := by
      by_cases z : i < n
      · exact z
      · rw [List.getElem?_eq_none (by simpa using z)] at hd; cases hd
    rw [List.getElem?_range hi] at hd
    cases hd
    exact .inl ⟨rfl, by unfold Rep; rfl⟩
theorem wi_range1 {a : Expr} (hj : GlAt C "range") (hm : C.mg "range" = none) (h : WE C E Γ Λ a fun d Λ' => ∃ n : Int, d = .int n ∧ -(2 ^ 62) ≤ n ∧ n < 2 ^ 62 ∧ P (rangeD 0 n.toNat) Λ') (ha : plainE a = true := by rfl) : WI C E Γ Λ tg (.Call (.Name "range" p) [a] [] pos) P := fun X F W is tk => by
  refine pi_imp (pi_range1 (is.gl hj) (by rw [is.mg]; exact hm) (pa_cons pe_U pa_nil (star_plain ha)) (star_plain ha)) fun σ H R ⟨B, α, S, q, er⟩ => ?_
  refine WE.use h is tk S er fun d Λ' v B' α' H' p S' e f r => ?_
  obtain ⟨n, rfl, h1, h2, p⟩ := p
  unfold Rep at r
  subst r
  exact ⟨n, rfl, h1, h2, q _ Λ' _ B' α' H' p S' e f itr_ok⟩
end

/-! ### for -/
section
variable {C : Ctx} {Γ : Env} {Λ : Cells} {R : Rs} {pos : Pos}
/-- what a loop's body has to do at each item that is left -/
def LoopP (C : Ctx) (tg : Expr) (vs : List Nat) (body : List Stmt) (R : Rs) : List D → Env → Cells → Prop
  | [], Γ, Λ => R.nx Γ Λ
  | d :: ds, Γ, Λ => WG C Γ Λ tg d vs fun Γ' => WSs C Γ' Λ body { R with nx := LoopP C tg vs body R ds, ct := LoopP C tg vs body R ds, bk := R.nx }
theorem ws_for [Cool C] {tg iter : Expr} {body : List Stmt} (vs : List Nat) (h : WI C R.er Γ Λ tg iter fun ds Λ' => LoopP C tg vs body R ds Γ Λ') (hs : ∀ (env : PySem.Env) x, foldedSetIterable iter env x = pure x := by intro _ _; rfl) : WS C Γ Λ (.For tg iter body [] pos) R := fun X F W is hm tk => by
  refine ps_imp (ps_for is.po is.calm pi_U pg_U pss_U (hs X.env)) fun Dn σ H ⟨B, α, S, q⟩ => ?_
  refine ⟨_, h X F W is tk, B, α, S, fun ds Λ' J B' α' H' p S' e f it => ?_, q.er.at⟩
  refine ⟨fun i m σ1 H1 => m = ds.length - i ∧ i ≤ ds.length ∧ ∃ B1 α1 Γ1 Λ1, Sat C.K F B1 α1 Γ1 Λ1 σ1 H1 ∧ Ex B' B1 ∧ LoopP C tg vs body R (ds.drop i) Γ1 Λ1, ⟨_, rfl, Nat.zero_le _, B', α', Γ, Λ', S', Ex.refl _, p⟩, ?_⟩
  rintro i m σ1 H1 ⟨rfl, hi, B1, α1, Γ1, Λ1, S1, e1, lp⟩
  by_cases hlt : i < ds.length
  · refine .inr ⟨it.go i H1 hlt (e1.trans S1.bh), fun σ2 H2 => i + 1 ≤ ds.length ∧ ∃ B2 α2 Γ2 Λ2, Sat C.K F B2 α2 Γ2 Λ2 σ2 H2 ∧ Ex B' B2 ∧ LoopP C tg vs body R (ds.drop (i + 1)) Γ2 Λ2, fun σ2 H2 ⟨h1, h2⟩ => ⟨ds.length - (i + 1), by omega, rfl, h1, h2⟩, fun x H2 y => ?_⟩
    obtain ⟨B2, S2, e2, r2⟩ := it.take S1 e1 (List.getElem?_eq_getElem hlt) y
    rw [List.drop_eq_getElem_cons hlt] at lp
    refine ⟨_, lp X F is, B2, α1, S2, r2, fun Γ3 σ3 p3 S3 ag => ?_⟩
    refine WSs.use p3 is hm tk S3 ⟨fun Γ' Λ' B4 α4 σ4 H4 hr S4 e4 => ?_, (q.rt.mono e).mono (e1.trans e2), fun Γ' Λ' B4 α4 σ4 H4 hr S4 e4 => q.nx Γ' Λ' B4 α4 σ4 H4 hr S4 (((e.trans e1).trans e2).trans e4), fun Γ' Λ' B4 α4 σ4 H4 hr S4 e4 => ?_, (q.er.mono e).mono (e1.trans e2)⟩
    · exact ⟨hlt, B4, α4, Γ', Λ', S4, (e1.trans e2).trans e4, hr⟩
    · exact ⟨hlt, B4, α4, Γ', Λ', S4, (e1.trans e2).trans e4, hr⟩
  · have e' : i = ds.length := by omega
    subst e'
    rw [List.drop_length] at lp
    exact .inl ⟨it.stop H1 (e1.trans S1.bh), q.nx Γ1 Λ1 B1 α1 σ1 H1 lp S1 (e.trans e1)⟩
/-- while, by a word that falls -/
theorem ws_while {c : Expr} {body : List Stmt} (V : Nat → Env → Cells → Prop) (h0 : ∃ m, V m Γ Λ)
    (hs : ∀ m Γ Λ, V m Γ Λ → WT C R.er Γ Λ c fun b Λ' => if b = true then WSs C Γ Λ' body { R with nx := fun Γ' Λ'' => ∃ m', m' < m ∧ V m' Γ' Λ'', ct := fun Γ' Λ'' => ∃ m', m' < m ∧ V m' Γ' Λ'', bk := R.nx } else R.nx Γ Λ') : WS C Γ Λ (.While c body [] pos) R := fun X F W is hm tk => by
  refine ps_imp (ps_while is.po pt_U pss_U) fun Dn σ H ⟨B, α, S, q⟩ => ?_
  obtain ⟨m0, h0⟩ := h0
  refine ⟨fun m σ1 H1 => ∃ B1 α1 Γ1 Λ1, Sat C.K F B1 α1 Γ1 Λ1 σ1 H1 ∧ Ex B B1 ∧ V m Γ1 Λ1, ⟨m0, B, α, Γ, Λ, S, Ex.refl _, h0⟩, ?_⟩
  rintro m σ1 H1 ⟨B1, α1, Γ1, Λ1, S1, e1, v1⟩
  refine WT.use (hs m Γ1 Λ1 v1) is tk S1 (q.er.mono e1).at fun b Λ2 B2 α2 H2 p2 S2 e2 f2 => ?_
  cases b with
  | true =>
    rw [if_pos rfl] at p2 ⊢
    refine ⟨fun σ3 H3 => ∃ m', m' < m ∧ ∃ B3 α3 Γ3 Λ3, Sat C.K F B3 α3 Γ3 Λ3 σ3 H3 ∧ Ex B B3 ∧ V m' Γ3 Λ3, fun σ3 H3 h => h, ?_⟩
    refine WSs.use p2 is hm tk S2 ⟨fun Γ' Λ' B4 α4 σ4 H4 hr S4 e4 => ?_, q.rt.mono (e1.trans e2), fun Γ' Λ' B4 α4 σ4 H4 hr S4 e4 => q.nx Γ' Λ' B4 α4 σ4 H4 hr S4 ((e1.trans e2).trans e4), fun Γ' Λ' B4 α4 σ4 H4 hr S4 e4 => ?_, q.er.mono (e1.trans e2)⟩
    · obtain ⟨m', h1, h2⟩ := hr
      exact ⟨m', h1, B4, α4, Γ', Λ', S4, (e1.trans e2).trans e4, h2⟩
    · obtain ⟨m', h1, h2⟩ := hr
      exact ⟨m', h1, B4, α4, Γ', Λ', S4, (e1.trans e2).trans e4, h2⟩
  | false =>
    rw [if_neg (by simp)] at p2 ⊢
    exact q.nx Γ1 Λ2 B2 α2 σ1 H2 p2 S2 (e1.trans e2)
end

/-! ### list comprehensions -/
def wipeΓ (Γ : Env) : List Nat → Env
  | [] => Γ
  | v :: vs => (wipeΓ Γ vs).set v none
theorem wipeΓ_len (Γ : Env) : ∀ vs : List Nat, (wipeΓ Γ vs).length = Γ.length
  | [] => rfl
  | v :: vs => by unfold wipeΓ; rw [List.length_set, wipeΓ_len Γ vs]
theorem wipeΓ_some {Γ : Env} {i : Nat} {x : D} : ∀ {vs : List Nat}, (wipeΓ Γ vs)[i]? = some (some x) → Γ[i]? = some (some x) ∧ i ∉ vs
  | [], h => ⟨h, by simp⟩
  | v :: vs, h => by
    unfold wipeΓ at h
    by_cases hi : v = i
    · subst hi
      by_cases hv : v < (wipeΓ Γ vs).length
      · rw [List.getElem?_set_self hv] at h; cases h
      · rw [List.getElem?_eq_none (by simpa using hv)] at h; cases h
    · rw [List.getElem?_set_ne hi] at h
      obtain ⟨h1, h2⟩ := wipeΓ_some h
      exact ⟨h1, by simp only [List.mem_cons, not_or]; exact ⟨fun e => hi e.symm, h2⟩⟩
theorem wipe_at {σ : L2.St} {i : Nat} : ∀ {vs : List Nat}, i ∉ vs → (wipe σ vs)[i]? = σ[i]?
  | [], _ => rfl
  | v :: vs, h => by
    unfold wipe
    simp only [List.mem_cons, not_or] at h
    rw [List.getElem?_set_ne (fun e => h.1 e.symm), wipe_at h.2]
theorem wipe_in {σ : L2.St} {i : Nat} : ∀ {vs : List Nat}, i ∈ vs → i < σ.length → (wipe σ vs)[i]? = some none
  | v :: vs, h, hl => by
    unfold wipe
    by_cases e : v = i
    · subst e; rw [List.getElem?_set_self (by rw [wipe_length]; exact hl)]
    · rw [List.getElem?_set_ne e]
      rcases List.mem_cons.mp h with q | q
      · exact absurd q.symm e
      · exact wipe_in q hl
theorem wipe_agree {σ σ' : L2.St} {vs ws : List Nat} (hs : ∀ v ∈ ws, v ∈ vs) (h : Agree ws (wipe σ vs) σ') : wipe σ' vs = wipe σ vs := by
  apply List.ext_getElem?
  intro i
  have hl : σ'.length = σ.length := by rw [h.1, wipe_length]
  by_cases hi : i ∈ vs
  · by_cases hlt : i < σ.length
    · rw [wipe_in hi hlt, wipe_in hi (by omega)]
    · rw [List.getElem?_eq_none (by rw [wipe_length]; omega), List.getElem?_eq_none (by rw [wipe_length]; omega)]
  · rw [wipe_at hi, h.2 i (fun z => hi (hs i z)), wipe_at hi]
theorem Sat.wipe {K : PySem.W.Frag} {F : Fm} {B : Hp} {α : List Addr} {Γ : Env} {Λ : Cells} {σ : L2.St} {H : Hp} (S : Sat K F B α Γ Λ σ H) (vs : List Nat) : Sat K F B α (wipeΓ Γ vs) Λ (wipe σ vs) H :=
  S.env (by rw [wipeΓ_len, wipe_length, S.ln]) fun i d h => by
    obtain ⟨h1, h2⟩ := wipeΓ_some h
    obtain ⟨v, q1, q2⟩ := S.sl i d h1
    exact ⟨v, by rw [wipe_at h2]; exact q1, q2⟩

/-- the context of a comprehension's block -/
@[reducible] def Ctx.blk (C : Ctx) (scope : Scope) (vs ls : List Bool) (gl : List Str) : Ctx := { C with sc := relS scope C.sc, vs := vs, ls := ls, gl := gl, tp := false, cd := none }
instance {C : Ctx} {scope : Scope} {vs ls : List Bool} {gl : List Str} [c : Cool C] : Cool (C.blk scope vs ls gl) := ⟨c.h⟩
/-- what a comprehension has to do at each item that is left; acc: what is made so far -/
def CompP (C : Ctx) (Γ : Env) (Λ : Cells) (tg : Expr) (ws : List Nat) (ifs : List Expr) (elt : Expr) (P : List D → Prop) : List D → List D → Prop
  | [], acc => P acc
  | d :: ds, acc => acc.length < 10000000 ∧ WG C Γ Λ tg d ws fun Γ' => match ifs with
    | [] => WE C ER.none Γ' Λ elt fun y Λ' => Λ' = Λ ∧ CompP C Γ Λ tg ws ifs elt P ds (acc ++ [y])
    | [c] => WT C ER.none Γ' Λ c fun b Λ' => Λ' = Λ ∧ if b = true then WE C ER.none Γ' Λ elt fun y Λ' => Λ' = Λ ∧ CompP C Γ Λ tg ws ifs elt P ds (acc ++ [y]) else CompP C Γ Λ tg ws ifs elt P ds acc
    | _ => False
/-- a thing of the heap that nobody tells is written -/
theorem Sat.poke {K : PySem.W.Frag} {F : Fm} {B : Hp} {α : List Addr} {Γ : Env} {Λ : Cells} {σ : L2.St} {H : Hp} {p : Addr} {o : HO} (S : Sat K F B α Γ Λ σ H) (hB : B p = none) (h0 : F.H0 p = none) (hα : p ∉ α) (hC : Celly (H p)) : Sat K F B α Γ Λ σ (upd H p o) := by
  refine { S with bh := S.bh.mut hB, tb := S.tb.put hC fun z => absurd z hα, kp := fun a u h ha n => ?_, dm := fun a h => ?_, ce := fun n c h hg => ?_, ah := fun a ha => ?_ }
  · rw [upd_ne (fun e => by subst e; rw [h0] at h; cases h)]; exact S.kp a u h ha n
  · by_cases e : a = p
    · subst e; exact h0
    · rw [upd_ne e] at h; exact S.dm a h
  · obtain ⟨a, h1, h2, h3, h4⟩ := S.ce n c h hg
    have hap : a ≠ p := fun e => hα (e ▸ List.mem_of_getElem? h1)
    exact ⟨a, h1, h2, h3, h4.mono (Ex.refl B) (List.prefix_refl _) fun u q _ => by rw [upd_ne hap]; exact q⟩
  · have hap : a ≠ p := fun e => hα (e ▸ ha)
    rw [upd_ne hap]; exact S.ah a ha
theorem pre_len {α α' : List Addr} (h : α <+: α') (e : α'.length = α.length) : α' = α := by
  obtain ⟨t, rfl⟩ := h
  have : t = [] := by
    rw [List.length_append] at e
    exact List.length_eq_zero_iff.mp (by omega)
  rw [this, List.append_nil]
section
variable {C : Ctx} {E : ER} {Γ : Env} {Λ : Cells}
theorem blk_is {X : Cx} {scope : Scope} {vs ls : List Bool} {gl : List Str} (is : C.Is X) (good : (C.blk scope vs ls gl).Good) (hst : ∀ (i : Nat) (x : Str), C.N[i]? = some x → ls[i]? = some true → scope.names.lookup x = some .local ∨ scope.names.lookup x = some .cell)
    (s : Shared) (H : Hp) (c : Addr) (cl : List (Str × Addr)) (fp : List Addr) : (C.blk scope vs ls gl).Is (X.blk s H scope (compEnvC scope cl c X.env) fp) where
  prog := is.prog
  w := is.w
  K := is.K
  mg := is.mg
  base := is.base
  N := is.N
  sc := by
    show relS scope X.env.scope = relS scope C.sc
    rw [is.sc]
  calmW := is.calmW
  hdW := is.hdW
  tp := fun h => Bool.noConfusion (h : false = true)
  cdv := fun q c h => nomatch h
  roomW := is.roomW
  fn := fun i x hi hl => by
    rcases hst i x hi hl with h | h
    · exact .inr (lookup_relS_keep (by simp) h)
    · refine .inl ?_
      show (scope.names.lookup x == some .cell) = true
      rw [h]; rfl
  good := good
  po := PassesOwn.never
def UEb (X : Cx) (scope : Scope) (e : Expr) : TE := fun σ H Q => ∃ t, (∀ s H c cl fp, PE (X.blk s H scope (compEnvC scope cl c X.env) fp) e t) ∧ t σ H Q
def UGb (X : Cx) (scope : Scope) (e : Expr) : TG := fun v σ H Q => ∃ t, (∀ s H c cl fp, PG (X.blk s H scope (compEnvC scope cl c X.env) fp) e t) ∧ t v σ H Q
def UTb (X : Cx) (scope : Scope) (e : List Expr) : TT := fun σ H Q => ∃ t, (∀ s H c cl fp, PTs (X.blk s H scope (compEnvC scope cl c X.env) fp) e t) ∧ t σ H Q
theorem pgb {X : Cx} {scope : Scope} {e : Expr} (s : Shared) (H : Hp) (c : Addr) (cl : List (Str × Addr)) (fp : List Addr) : PG (X.blk s H scope (compEnvC scope cl c X.env) fp) e (UGb X scope e) := ⟨fun pins s' σ' H' v u Q I r ⟨t, ht, q⟩ => (ht s H c cl fp).run pins s' σ' H' v u Q I r q⟩
theorem ptb {X : Cx} {scope : Scope} {e : List Expr} (s : Shared) (H : Hp) (c : Addr) (cl : List (Str × Addr)) (fp : List Addr) : PTs (X.blk s H scope (compEnvC scope cl c X.env) fp) e (UTb X scope e) := ⟨fun pins s' σ' H' Q I ⟨t, ht, q⟩ => (ht s H c cl fp).run pins s' σ' H' Q I q⟩
theorem peb {X : Cx} {scope : Scope} {e : Expr} (s : Shared) (H : Hp) (c : Addr) (cl : List (Str × Addr)) (fp : List Addr) : PE (X.blk s H scope (compEnvC scope cl c X.env) fp) e (UEb X scope e) := ⟨fun pins s' σ' H' Q I ⟨t, ht, q⟩ => (ht s H c cl fp).run pins s' σ' H' Q I q⟩
/-- [elt for tg in iter if ..] -/
theorem lc_core' {X : Cx} {F : Fm} {W : WX} {Q : VK} {σ : L2.St} {H : Hp} {elt tg iter : Expr} {ifs : List Expr} {scope : Scope} {own : List (Str × Nat)} {vs ls : List Bool} {gl : List Str} {ws : List Nat} {P : List D → Cells → Prop} {B : Hp} {α : List Addr}
    (good : (C.blk scope vs ls gl).Good) (hst : ∀ (i : Nat) (x : Str), C.N[i]? = some x → ls[i]? = some true → scope.names.lookup x = some .local ∨ scope.names.lookup x = some .cell) (hws : ∀ v ∈ ws, v ∈ own.map (·.2))
    (is : C.Is X) (tk : Takes X W) (S : Sat C.K F B α Γ Λ σ H) (er : ErOk C.K F W B σ Γ E)
    (h : WI C E Γ Λ tg iter fun ds Λ' => CompP (C.blk scope vs ls gl) (wipeΓ Γ (own.map (·.2))) Λ' tg ws ifs elt (fun ys => P ys Λ') ds [])
    (q : ∀ ds Λ' p vs B' α' H', P ds Λ' → Sat C.K F B' α' Γ Λ' σ H' → Ex B B' → α <+: α' → H' p = some (.lst vs) → B' p = none → F.H0 p = none → p ∉ α' → Reps C.K B' α' ds vs → Q (.ref p) H') :
    tLc (UI X tg iter) (UGb X scope tg) (UTb X scope ifs) (UEb X scope elt) (own.map (·.2)) σ H Q := by
  refine ⟨_, h X F W is tk, B, α, S, fun ds Λ' J B' α' H1 p S' e f it D hD => ?_, er⟩
  have h0 : F.H0 D = none := S'.dm D hD
  have hα : D ∉ α' := fun ha => (S'.ah D ha).1 hD
  have S0 := (S'.grow (Ex.new hD (o := .lst []))).wipe (own.map (·.2))
  refine ⟨fun i m H2 => m = ds.length - i ∧ i ≤ ds.length ∧ ∃ B2 acc av, Sat C.K F B2 α' (wipeΓ Γ (own.map (·.2))) Λ' (wipe σ (own.map (·.2))) H2 ∧ Ex B' B2 ∧ H2 D = some (.lst av) ∧ B2 D = none ∧ Reps C.K B2 α' acc av ∧
      CompP (C.blk scope vs ls gl) (wipeΓ Γ (own.map (·.2))) Λ' tg ws ifs elt (fun ys => P ys Λ') (ds.drop i) acc,
    ⟨_, rfl, Nat.zero_le _, B', [], [], S0, Ex.refl _, upd_same, S'.bh.back hD, .nil, p⟩, ?_⟩
  rintro i m H2 ⟨rfl, hi, B2, acc, av, S2, e2, hD2, hB2, ra, cp⟩
  by_cases hlt : i < ds.length
  · refine .inr ⟨it.go i H2 hlt (e2.trans S2.bh), fun H3 => i + 1 ≤ ds.length ∧ ∃ B3 acc av, Sat C.K F B3 α' (wipeΓ Γ (own.map (·.2))) Λ' (wipe σ (own.map (·.2))) H3 ∧ Ex B' B3 ∧ H3 D = some (.lst av) ∧ B3 D = none ∧ Reps C.K B3 α' acc av ∧
      CompP (C.blk scope vs ls gl) (wipeΓ Γ (own.map (·.2))) Λ' tg ws ifs elt (fun ys => P ys Λ') (ds.drop (i + 1)) acc, fun H3 ⟨k1, k2⟩ => ⟨ds.length - (i + 1), by omega, rfl, k1, k2⟩, fun x H3 y => ?_⟩
    have tk3 : ∃ B3, Sat C.K F B3 α' (wipeΓ Γ (own.map (·.2))) Λ' (wipe σ (own.map (·.2))) H3 ∧ Ex B2 B3 ∧ Rep C.K B3 α' ds[i] x ∧ H3 D = some (.lst av) ∧ B3 D = none := by
      rcases it.yld i H2 x H3 ds[i] (List.getElem?_eq_getElem hlt) (e2.trans S2.bh) y with ⟨rfl, r⟩ | ⟨p', o', vs', es, rfl, hp, rfl, ho, he, r⟩
      · exact ⟨B2, S2, Ex.refl _, r.mono e2 List.nil_prefix, hD2, hB2⟩
      · have hb := S2.bh.back hp
        have hne : D ≠ p' := fun z => by rw [← z, hD2] at hp; cases hp
        refine ⟨upd B2 p' o', S2.lay hp ho.nt, Ex.new hb, ?_, by rw [upd_ne hne]; exact hD2, by rw [upd_ne hne]; exact hB2⟩
        rw [he]
        unfold Rep
        exact ⟨p', vs', rfl, ho.sq upd_same, r.mono (e2.trans (Ex.new hb)) List.nil_prefix⟩
    obtain ⟨B3, S3, e3, r3, hD3, hB3⟩ := tk3
    rw [List.drop_eq_getElem_cons hlt] at cp
    obtain ⟨hl, cp⟩ := cp
    have T3 := S3.rebase
    refine ⟨_, fun s H c cl fp => cp _ ⟨H3, B3, α'⟩ (blk_is is good hst s H c cl fp), B3, α', T3, r3, fun Γ4 σ4 p4 T4 ag => ?_⟩
    refine ⟨wipe_agree hws ag, ?_⟩
    -- behind the element
    have fin : ∀ (y : Pl.D) (B5 : Hp) (α5 : List Addr) (H5 : Hp) (v : V), CompP (C.blk scope vs ls gl) (wipeΓ Γ (own.map (·.2))) Λ' tg ws ifs elt (fun ys => P ys Λ') (ds.drop (i + 1)) (acc ++ [y]) → Sat C.K ⟨H3, B3, α'⟩ B5 α5 Γ4 Λ' σ4 H5 → Ex B3 B5 → Rep C.K B5 α5 y v →
        ∃ acc', H5 D = some (.lst acc') ∧ acc'.length < sizeLine ∧ i + 1 ≤ ds.length ∧ ∃ B3 acc av, Sat C.K F B3 α' (wipeΓ Γ (own.map (·.2))) Λ' (wipe σ (own.map (·.2))) (upd H5 D (.lst (acc' ++ [v]))) ∧ Ex B' B3 ∧ (upd H5 D (.lst (acc' ++ [v]))) D = some (.lst av) ∧ B3 D = none ∧ Reps C.K B3 α' acc av ∧
          CompP (C.blk scope vs ls gl) (wipeΓ Γ (own.map (·.2))) Λ' tg ws ifs elt (fun ys => P ys Λ') (ds.drop (i + 1)) acc := fun y B5 α5 H5 v cp5 T5 e5 r5 => by
      have hα5 : α5 = α' := pre_len T5.pf (by rw [T5.al, S3.al])
      subst hα5
      have hD5 : H5 D = some (.lst av) := T5.kp D _ hD3 hα (fun _ q => nomatch q)
      have hB5 : B5 D = none := by
        cases z : B5 D with
        | none => rfl
        | some o =>
          rcases T5.fr D o z with k | k
          · have : B3 D = some o := k
            rw [hB3] at this; cases this
          · have : H3 D = none := k
            rw [hD3] at this; cases this
      have S5 := S3.unbase T5
      have S5' : Sat C.K F B5 α5 (wipeΓ Γ (own.map (·.2))) Λ' (wipe σ (own.map (·.2))) H5 := S5.env S3.ln fun j d hj => by
        obtain ⟨u, q1, q2⟩ := S3.sl j d hj
        exact ⟨u, q1, q2.mono e5 (List.prefix_refl _)⟩
      refine ⟨av, hD5, by rw [ra.length]; exact Nat.lt_of_lt_of_le hl (by rw [sizeLine_eq]; decide), hlt, B5, acc ++ [y], av ++ [v], S5'.poke hB5 h0 hα (by rw [hD5]; trivial), (e2.trans e3).trans e5, upd_same, hB5, (ra.mono (e3.trans e5) (List.prefix_refl _)).append (.one r5), cp5⟩
    cases ifs with
    | nil =>
      refine ⟨tYes, fun _ _ _ _ _ => pts_nil, ?_⟩
      dsimp only [tYes]
      rw [if_pos rfl]
      refine ⟨_, fun s H c cl fp => p4 _ ⟨H3, B3, α'⟩ _ (blk_is is good hst s H c cl fp) takes0, B3, α', T4, fun y Λ5 v B5 α5 H5 p5 T5 e5 f5 r5 => ?_, fun _ _ _ _ _ _ _ z => z.elim⟩
      obtain ⟨rfl, cp5⟩ := p5
      exact fin y B5 α5 H5 v cp5 T5 e5 r5
    | cons c r =>
      cases r with
      | nil =>
        refine ⟨_, fun s H c' cl fp => pts_one (p4 _ ⟨H3, B3, α'⟩ _ (blk_is is good hst s H c' cl fp) takes0), B3, α', T4, fun b Λ5 B5 α5 H5 p5 T5 e5 f5 => ?_, fun _ _ _ _ _ _ _ z => z.elim⟩
        obtain ⟨rfl, p5⟩ := p5
        cases b with
        | true =>
          rw [if_pos rfl] at p5 ⊢
          refine ⟨_, fun s H c cl fp => p5 _ ⟨H3, B3, α'⟩ _ (blk_is is good hst s H c cl fp) takes0, B5, α5, T5, fun y Λ6 v B6 α6 H6 p6 T6 e6 f6 r6 => ?_, fun _ _ _ _ _ _ _ z => z.elim⟩
          obtain ⟨rfl, cp6⟩ := p6
          exact fin y B6 α6 H6 v cp6 T6 (e5.trans e6) r6
        | false =>
          rw [if_neg (by simp)] at p5 ⊢
          have hα5 : α5 = α' := pre_len T5.pf (by rw [T5.al, S3.al])
          subst hα5
          have hD5 : H5 D = some (.lst av) := T5.kp D _ hD3 hα (fun _ q => nomatch q)
          have hB5 : B5 D = none := by
            cases z : B5 D with
            | none => rfl
            | some o =>
              rcases T5.fr D o z with k | k
              · have : B3 D = some o := k
                rw [hB3] at this; cases this
              · have : H3 D = none := k
                rw [hD3] at this; cases this
          have S5 := S3.unbase T5
          refine ⟨hlt, B5, acc, av, S5.env S3.ln fun j d hj => ?_, (e2.trans e3).trans e5, hD5, hB5, ra.mono (e3.trans e5) (List.prefix_refl _), p5⟩
          obtain ⟨u, q1, q2⟩ := S3.sl j d hj
          exact ⟨u, q1, q2.mono e5 (List.prefix_refl _)⟩
      | cons _ _ => exact p4.elim
  · have e' : i = ds.length := by omega
    subst e'
    rw [List.drop_length] at cp
    refine .inl ⟨it.stop H2 (e2.trans S2.bh), ?_⟩
    exact q acc Λ' D av B2 α' H2 cp (S2.env S'.ln fun j d hj => by
      obtain ⟨u, q1, q2⟩ := S'.sl j d hj
      exact ⟨u, q1, q2.mono e2 (List.prefix_refl _)⟩) (e.trans e2) f hD2 hB2 h0 hα ra
theorem wn_lc [Cool C] {elt tg iter : Expr} {ifs : List Expr} {scope : Scope} {pos : Pos} {P : List D → Cells → Prop} (own : List (Str × Nat)) (vs ls : List Bool) (gl : List Str) (ws : List Nat)
    (ok : BlkOk C.N C.sc scope own) (good : (C.blk scope vs ls gl).Good) (hst : ∀ (i : Nat) (x : Str), C.N[i]? = some x → ls[i]? = some true → scope.names.lookup x = some .local ∨ scope.names.lookup x = some .cell) (hws : ∀ v ∈ ws, v ∈ own.map (·.2))
    (h : WI C E Γ Λ tg iter fun ds Λ' => CompP (C.blk scope vs ls gl) (wipeΓ Γ (own.map (·.2))) Λ' tg ws ifs elt (fun ys => P ys Λ') ds [])
    (hs : ∀ (env : PySem.Env) x, foldedSetIterable iter env x = pure x := by intro _ _; rfl) : WN C E Γ Λ (.ListComp elt [⟨tg, iter, ifs, 0⟩] scope pos) P := fun X F W is tk =>
  pe_imp (pe_lc (own := own) is.calm is.nd pi_U (by rw [is.N, is.sc]; exact ok) pgb ptb peb (hs X.env))
    fun σ H Q ⟨B, α, S, q, er⟩ => lc_core' good hst hws is tk S er h q
end
end Pl

namespace Pl
open PySem L2 PyProof.Rows

/-! ### calls of built-ins -/
/-- what a call by values does to data -/
def CK (K : PySem.W.Frag) (r : List V → Hp → VK → Prop) (ds : List D) (Γ : Env) (Λ : Cells) (P : D → Cells → Prop) : Prop := ∀ F B α σ H vs (Q : VK), Sat K F B α Γ Λ σ H → Reps K B α ds vs →
  (∀ d Λ' v B' α' H', P d Λ' → Sat K F B' α' Γ Λ' σ H' → Ex B B' → α <+: α' → Rep K B' α' d v → Q v H') → r vs H Q
def CKn (K : PySem.W.Frag) (r : List V → Hp → VK → Prop) (ds : List D) (Γ : Env) (Λ : Cells) (P : List D → Cells → Prop) : Prop := ∀ F B α σ H vs (Q : VK), Sat K F B α Γ Λ σ H → Reps K B α ds vs →
  (∀ ds Λ' p ws B' α' H', P ds Λ' → Sat K F B' α' Γ Λ' σ H' → Ex B B' → α <+: α' → H' p = some (.lst ws) → B' p = none → F.H0 p = none → p ∉ α' → Reps K B' α' ds ws → Q (.ref p) H') → r vs H Q
section
variable {C : Ctx} {E : ER} {Γ : Env} {Λ : Cells} {P : D → Cells → Prop} {pos p : Pos} {e : Expr} {es : List Expr} {x : Str} {id T : String} {r : List V → Hp → VK → Prop}
theorem we_callB (hc : ∀ X, C.Is X → CallR X (.builtin id) r) (hj : GlAt C x) (hm : C.mg x = none) (hv : bootBuiltins x = some (.builtin id)) (h : WA C E Γ Λ (e :: es) fun ds Λ1 => CK C.K r ds Γ Λ1 P)
    (hn : x ≠ "__name__" := by decide) (hdb : (x == ("__debug__" : Str)) = false := by decide) (he : plainE e = true := by rfl) (hes : es.all plainE = true := by rfl) : WE C E Γ Λ (.Call (.Name x p) (e :: es) [] pos) P := fun X F W is tk => by
  refine pe_imp (pe_callB (hc X is) (is.gl hj) (by rw [is.mg]; exact hm) hv pa_U hn hdb (star_plain he) (back_plain hes)) fun σ H Q ⟨B, α, S, q, er⟩ => ?_
  refine WA.use h is tk S er fun ds Λ1 vs B1 α1 H1 p1 S1 e1 f1 r1 => ?_
  exact p1 F B1 α1 σ H1 vs Q S1 r1 fun d Λ' v B' α' H' p' S' e' f' r' => q d Λ' v B' α' H' p' S' (e1.trans e') (f1.trans f') r'
theorem we_callTy (hc : ∀ X, C.Is X → CallR X (.type T) r) (hj : GlAt C x) (hm : C.mg x = none) (hv : bootBuiltins x = some (.type T)) (h : WA C E Γ Λ (e :: es) fun ds Λ1 => CK C.K r ds Γ Λ1 P)
    (hn : x ≠ "__name__" := by decide) (hdb : (x == ("__debug__" : Str)) = false := by decide) (he : plainE e = true := by rfl) (hes : es.all plainE = true := by rfl) : WE C E Γ Λ (.Call (.Name x p) (e :: es) [] pos) P := fun X F W is tk => by
  refine pe_imp (pe_callTy (hc X is) (is.gl hj) (by rw [is.mg]; exact hm) hv pa_U hn hdb (star_plain he) (back_plain hes)) fun σ H Q ⟨B, α, S, q, er⟩ => ?_
  refine WA.use h is tk S er fun ds Λ1 vs B1 α1 H1 p1 S1 e1 f1 r1 => ?_
  exact p1 F B1 α1 σ H1 vs Q S1 r1 fun d Λ' v B' α' H' p' S' e' f' r' => q d Λ' v B' α' H' p' S' (e1.trans e') (f1.trans f') r'
theorem wn_callB {P : List D → Cells → Prop} (hc : ∀ X, C.Is X → CallR X (.builtin id) r) (hj : GlAt C x) (hm : C.mg x = none) (hv : bootBuiltins x = some (.builtin id)) (h : WA C E Γ Λ (e :: es) fun ds Λ1 => CKn C.K r ds Γ Λ1 P)
    (hn : x ≠ "__name__" := by decide) (hdb : (x == ("__debug__" : Str)) = false := by decide) (he : plainE e = true := by rfl) (hes : es.all plainE = true := by rfl) : WN C E Γ Λ (.Call (.Name x p) (e :: es) [] pos) P := fun X F W is tk => by
  refine pe_imp (pe_callB (hc X is) (is.gl hj) (by rw [is.mg]; exact hm) hv pa_U hn hdb (star_plain he) (back_plain hes)) fun σ H Q ⟨B, α, S, q, er⟩ => ?_
  refine WA.use h is tk S er fun ds Λ1 vs B1 α1 H1 p1 S1 e1 f1 r1 => ?_
  exact p1 F B1 α1 σ H1 vs Q S1 r1 fun ds Λ' p ws B' α' H' p' S' e' f' => q ds Λ' p ws B' α' H' p' S' (e1.trans e') (f1.trans f')
theorem wn_callTy {P : List D → Cells → Prop} (hc : ∀ X, C.Is X → CallR X (.type T) r) (hj : GlAt C x) (hm : C.mg x = none) (hv : bootBuiltins x = some (.type T)) (h : WA C E Γ Λ (e :: es) fun ds Λ1 => CKn C.K r ds Γ Λ1 P)
    (hn : x ≠ "__name__" := by decide) (hdb : (x == ("__debug__" : Str)) = false := by decide) (he : plainE e = true := by rfl) (hes : es.all plainE = true := by rfl) : WN C E Γ Λ (.Call (.Name x p) (e :: es) [] pos) P := fun X F W is tk => by
  refine pe_imp (pe_callTy (hc X is) (is.gl hj) (by rw [is.mg]; exact hm) hv pa_U hn hdb (star_plain he) (back_plain hes)) fun σ H Q ⟨B, α, S, q, er⟩ => ?_
  refine WA.use h is tk S er fun ds Λ1 vs B1 α1 H1 p1 S1 e1 f1 r1 => ?_
  exact p1 F B1 α1 σ H1 vs Q S1 r1 fun ds Λ' p ws B' α' H' p' S' e' f' => q ds Λ' p ws B' α' H' p' S' (e1.trans e') (f1.trans f')
/-- .. to a value, the heap as it is -/
theorem ck_val {K : PySem.W.Frag} {ds : List D} {z : D} (p : P z Λ) (h : ∀ F B α σ H vs (Q : VK), Sat K F B α Γ Λ σ H → Reps K B α ds vs → (∀ v, Rep K B α z v → Q v H) → r vs H Q) : CK K r ds Γ Λ P :=
  fun F B α σ H vs Q S rs q => h F B α σ H vs Q S rs fun v rv => q z Λ v B α H p S (Ex.refl B) (List.prefix_refl _) rv
theorem reps1 {K : PySem.W.Frag} {B : Hp} {α : List Addr} {d : D} {vs : List V} (h : Reps K B α [d] vs) : ∃ v, vs = [v] ∧ Rep K B α d v := by
  unfold Reps Reps at h
  obtain ⟨v, r, rfl, h1, rfl⟩ := h
  exact ⟨v, rfl, h1⟩
theorem reps2 {K : PySem.W.Frag} {B : Hp} {α : List Addr} {d e : D} {vs : List V} (h : Reps K B α [d, e] vs) : ∃ v w, vs = [v, w] ∧ Rep K B α d v ∧ Rep K B α e w := by
  unfold Reps at h
  obtain ⟨v, r, rfl, h1, h2⟩ := h
  obtain ⟨w, rfl, h3⟩ := reps1 h2
  exact ⟨v, w, rfl, h1, h3⟩

/-! #### len -/
def lenP (Λ : Cells) (x : D) (P : Int → Prop) : Prop := match x with
  | .str s => s.length ≤ sizeLine ∧ P s.length
  | x => ∃ ds, seqD Λ x = some ds ∧ P ds.length
theorem len_K {K : PySem.W.Frag} {ds : List D} (h : ∃ x, ds = [x] ∧ lenP Λ x fun n => P (.int n) Λ) : CK K (fun xs H Q => (∃ p ys, xs = [.ref p] ∧ (SqL K H p ys ∨ SqT K H p ys) ∧ Q (.int ys.length) H) ∨ (∃ z, xs = [.str z] ∧ z.length ≤ sizeLine ∧ Q (.int z.length) H)) ds Γ Λ P := by
  intro F B α σ H vs Q S rs q
  obtain ⟨x, rfl, h⟩ := h
  obtain ⟨v, rfl, rv⟩ := reps1 rs
  have keep : ∀ {i : Int}, P (.int i) Λ → Q (.int i) H := fun {i} p => q _ Λ _ B α H p S (Ex.refl B) (List.prefix_refl _) (by unfold Rep; rfl)
  unfold lenP at h
  split at h
  · rename_i s
    unfold Rep at rv
    subst rv
    exact .inr ⟨s, rfl, h.1, keep h.2⟩
  · obtain ⟨ds, hs, p⟩ := h
    obtain ⟨a, vs, rfl, h1, h2⟩ := S.seq rv hs
    refine .inl ⟨a, vs, rfl, h1, ?_⟩
    rw [h2.length]
    exact keep p
theorem crK {X : Cx} {f : Value} (r : PySem.W.Frag → List V → Hp → VK → Prop) (is : C.Is X) (h : CallR X f (r X.K)) : CallR X f (r C.K) := by rw [← is.K]; exact h
theorem we_len (hj : GlAt C "len") (hm : C.mg "len" = none) (h : WE C E Γ Λ e fun x Λ1 => lenP Λ1 x fun n => P (.int n) Λ1) (he : plainE e = true := by rfl) : WE C E Γ Λ (.Call (.Name "len" p) [e] [] pos) P :=
  we_callB (r := fun xs H Q => (∃ p ys, xs = [.ref p] ∧ (SqL C.K H p ys ∨ SqT C.K H p ys) ∧ Q (.int ys.length) H) ∨ (∃ z, xs = [.str z] ∧ z.length ≤ sizeLine ∧ Q (.int z.length) H))
    (fun X is => crK (fun K xs H Q => (∃ p ys, xs = [.ref p] ∧ (SqL K H p ys ∨ SqT K H p ys) ∧ Q (.int ys.length) H) ∨ (∃ z, xs = [.str z] ∧ z.length ≤ sizeLine ∧ Q (.int z.length) H)) is (call_len_seq.or call_len_str)) hj hm PySem.boot_len
    (wa_cons (we_mono h fun x Λ1 q => wa_nil (len_K ⟨x, rfl, q⟩)) he) (he := he)

/-! #### list(x), tuple(x) -/
theorem boot_list' : bootBuiltins "list" = some (.type "list") := by decide +kernel
theorem boot_tuple' : bootBuiltins "tuple" = some (.type "tuple") := by decide +kernel
theorem boot_int' : bootBuiltins "int" = some (.type "int") := by decide +kernel
theorem boot_sum' : bootBuiltins "sum" = some (.builtin "sum") := by decide +kernel
theorem boot_isi' : bootBuiltins "isinstance" = some (.builtin "isinstance") := by decide +kernel
theorem list_K {K : PySem.W.Frag} {ds : List D} {P : List D → Cells → Prop} (h : ∃ x zs, ds = [x] ∧ seqD Λ x = some zs ∧ P zs Λ) : CKn K (fun xs H Q => ∃ p ys, xs = [.ref p] ∧ (SqL K H p ys ∨ SqT K H p ys) ∧ ∀ l, H l = none → Q (.ref l) (upd H l (.lst ys))) ds Γ Λ P := by
  intro F B α σ H vs Q S rs q
  obtain ⟨x, zs, rfl, hz, p⟩ := h
  obtain ⟨v, rfl, rv⟩ := reps1 rs
  obtain ⟨a, ws, rfl, h1, h2⟩ := S.seq rv hz
  refine ⟨a, ws, rfl, h1, fun l hl => ?_⟩
  exact q zs Λ l ws B α _ p (S.grow (Ex.new hl)) (Ex.refl B) (List.prefix_refl _) upd_same (S.bh.back hl) (S.dm l hl) (fun ha => (S.ah l ha).1 hl) h2
theorem wn_list {P : List D → Cells → Prop} (hj : GlAt C "list") (hm : C.mg "list" = none) (h : WE C E Γ Λ e fun x Λ1 => ∃ zs, seqD Λ1 x = some zs ∧ P zs Λ1) (he : plainE e = true := by rfl) : WN C E Γ Λ (.Call (.Name "list" p) [e] [] pos) P :=
  wn_callTy (fun X is => crK (fun K xs H Q => ∃ p ys, xs = [.ref p] ∧ (SqL K H p ys ∨ SqT K H p ys) ∧ ∀ l, H l = none → Q (.ref l) (upd H l (.lst ys))) is call_list_of) hj hm boot_list'
    (wa_cons (we_mono h fun x Λ1 ⟨zs, h1, h2⟩ => wa_nil (list_K ⟨x, zs, rfl, h1, h2⟩)) he) (he := he)
/-! #### sum, max, min, all, any -/
theorem reps_int {K : PySem.W.Frag} {B : Hp} {α : List Addr} : ∀ {ns : List Int} {vs : List V}, Reps K B α (ns.map D.int) vs → vs = ns.map V.int
  | [], _, h => by unfold List.map Reps at h; exact h
  | n :: ns, _, h => by
    rw [List.map_cons] at h
    unfold Reps at h
    obtain ⟨v, r, rfl, h1, h2⟩ := h
    unfold Rep at h1
    rw [h1, reps_int h2, List.map_cons]
theorem we_sum [Cool C] (hj : GlAt C "sum") (hm : C.mg "sum" = none) (h : WE C E Γ Λ e fun x Λ1 => ∃ ns : List Int, lstD Λ1 x = some (ns.map .int) ∧ P (.int ns.sum) Λ1) (he : plainE e = true := by rfl) : WE C E Γ Λ (.Call (.Name "sum" p) [e] [] pos) P :=
  we_callB (fun X is => crK rSum is (cr_sum is.calm)) hj hm boot_sum' (wa_cons (we_mono h fun x Λ1 ⟨ns, h1, h2⟩ => wa_nil (ck_val h2 fun F B α σ H vs Q S rs q => by
    obtain ⟨v, rfl, rv⟩ := reps1 rs
    obtain ⟨a, ws, rfl, g1, g2⟩ := S.seqL rv h1
    have e := reps_int g2
    subst e
    exact ⟨a, ns, rfl, g1, q _ (by unfold Rep; rfl)⟩)) he) (he := he)
variable {e2 : Expr}
/-! #### int(x), isinstance -/
def intOf (x : D) (P : Int → Prop) : Prop := match x with
  | .int i => P i
  | .bl b => P (if b then 1 else 0)
  | _ => False
theorem we_toInt (hj : GlAt C "int") (hm : C.mg "int" = none) (h : WE C E Γ Λ e fun x Λ1 => intOf x fun i => P (.int i) Λ1) (he : plainE e = true := by rfl) : WE C E Γ Λ (.Call (.Name "int" p) [e] [] pos) P :=
  we_callTy (fun X is => call_int1) hj hm boot_int' (wa_cons (we_mono h fun x Λ1 h => wa_nil (by
    intro F B α σ H vs Q S rs q
    obtain ⟨v, rfl, rv⟩ := reps1 rs
    unfold intOf at h
    split at h
    · unfold Rep at rv
      exact .inl ⟨_, by rw [rv], q _ Λ1 _ B α H h S (Ex.refl B) (List.prefix_refl _) (by unfold Rep; rfl)⟩
    · unfold Rep at rv
      exact .inr ⟨_, by rw [rv], q _ Λ1 _ B α H h S (Ex.refl B) (List.prefix_refl _) (by unfold Rep; rfl)⟩
    · exact h.elim)) he) (he := he)
/-- a datum's type, by name -/
def tyD (Λ : Cells) (x : D) : Option String := match vw Λ x with
  | .non => some "NoneType"
  | .bl _ => some "bool"
  | .int _ => some "int"
  | .str _ => some "str"
  | .tup _ => some "tuple"
  | .lst _ => some "list"
  | .fzl _ => some "list"
  | .dic _ _ => some "dict"
  | _ => none
theorem tyx_of {K : PySem.W.Frag} {H : Hp} {F : Fm} {B : Hp} {α : List Addr} {σ : L2.St} (S : Sat K F B α Γ Λ σ H) {x : D} {v : V} {t : String} (r : Rep K B α x v) (h : tyD Λ x = some t) : TyX K H v (.type t) := by
  unfold tyD at h
  split at h
  all_goals first | (cases h; done) | skip
  all_goals rename_i hx
  · have ex := vw_noc hx (by simp) (by simp) (by simp) (by simp); subst ex; cases h; unfold Rep at r; subst r; exact .base .non
  · have ex := vw_noc hx (by simp) (by simp) (by simp) (by simp); subst ex; cases h; unfold Rep at r; subst r; exact .base (.bl _)
  · have ex := vw_noc hx (by simp) (by simp) (by simp) (by simp); subst ex; cases h; unfold Rep at r; subst r; exact .base (.int _)
  · have ex := vw_noc hx (by simp) (by simp) (by simp) (by simp); subst ex; cases h; unfold Rep at r; subst r; exact .base (.str _)
  · have ex := vw_noc hx (by simp) (by simp) (by simp) (by simp); subst ex; cases h; unfold Rep at r
    obtain ⟨a, vs, rfl, h1, _⟩ := r
    rcases S.bh.sqT h1.1 with (h2 | ⟨o, h2⟩) | ⟨o, its, n, h2, h3, _⟩
    · exact .base (.tup h2)
    · exact .fTuple h2
    · exact .kTuple h2 h3
  · cases h
    obtain ⟨a, vs, rfl, h1, _⟩ := S.lst r hx
    exact .base (.lst h1)
  · have ex := vw_noc hx (by simp) (by simp) (by simp) (by simp); subst ex; cases h; unfold Rep at r
    obtain ⟨a, vs, rfl, h1, _⟩ := r
    rcases S.bh.sqL h1 with (h2 | ⟨o, h2⟩) | ⟨o, its, n, h2, h3, _⟩
    · exact .base (.lst h2)
    · exact .base (.frz h2)
    · exact .kList h2 h3
  · cases h
    obtain ⟨a, vs, rfl, h1, _⟩ := S.dic r hx
    rcases h1 with h2 | ⟨o, h2⟩
    · exact .base (.dK h2)
    · exact .fDict h2
def isiB (a b : String) : Option Bool :=
  if b = "int" then some (a == "int" || a == "bool") else if b = "bool" then some (a == "bool") else if b = "str" then some (a == "str") else if b = "list" then some (a == "list") else if b = "tuple" then some (a == "tuple") else none
theorem isi_ok {Λ : Cells} {x : D} {a b : String} {r : Bool} (ha : tyD Λ x = some a) (h : isiB a b = some r) : kitB a b = some r := by
  have fa : a = "NoneType" ∨ a = "bool" ∨ a = "int" ∨ a = "str" ∨ a = "tuple" ∨ a = "list" ∨ a = "dict" := by
    unfold tyD at ha
    split at ha <;> cases ha <;> simp
  unfold isiB at h
  have fb : b = "int" ∨ b = "bool" ∨ b = "str" ∨ b = "list" ∨ b = "tuple" := by
    by_cases h1 : b = "int"; · exact .inl h1
    by_cases h2 : b = "bool"; · exact .inr (.inl h2)
    by_cases h3 : b = "str"; · exact .inr (.inr (.inl h3))
    by_cases h4 : b = "list"; · exact .inr (.inr (.inr (.inl h4)))
    by_cases h5 : b = "tuple"; · exact .inr (.inr (.inr (.inr h5)))
    rw [if_neg h1, if_neg h2, if_neg h3, if_neg h4, if_neg h5] at h; cases h
  rcases fb with rfl | rfl | rfl | rfl | rfl <;> rcases fa with rfl | rfl | rfl | rfl | rfl | rfl | rfl <;> (cases h; decide +kernel)
theorem we_isi (hj : GlAt C "isinstance") (hm : C.mg "isinstance" = none) (h : WE C E Γ Λ e fun x Λ1 => WE C E Γ Λ1 e2 fun y Λ2 => ∃ t T b, y = .raw (.ty T) ∧ tyD Λ2 x = some t ∧ isiB t T = some b ∧ P (.bl b) Λ2) (he : plainE e = true := by rfl) (he2 : plainE e2 = true := by rfl) : WE C E Γ Λ (.Call (.Name "isinstance" p) [e, e2] [] pos) P :=
  we_callB (fun X is => crK rIsi is call_isi) hj hm boot_isi' (wa_cons (we_mono h fun x Λ1 h => wa_cons (we_mono h fun y Λ2 ⟨t, T, b, hy, ht, hb, h2⟩ => wa_nil (ck_val h2 fun F B α σ H vs Q S rs q => by
    subst hy
    obtain ⟨v, w, rfl, r1, r2⟩ := reps2 rs
    have r2' := r2
    unfold Rep at r2'
    exact ⟨v, w, .type t, .type T, b, rfl, by rw [r2']; exact .ty T, tyx_of S r1 ht, kit_ty (isi_ok ht hb), q _ (by unfold Rep; rfl)⟩)) he2) he) (he := he) (hes := by simp [he2])
end

/-! ### methods of lists -/
/-- no call of a bare name stands there -/
def plainO : Expr → Bool
  | .Call (.Name _ _) [] [] _ => false
  | _ => true
theorem base_plain {o : Expr} {x : Str} {env : PySem.Env} (h : plainO o = true) : attributeBase o x env (eval o env) = eval o env := by
  unfold attributeBase
  split
  · cases h
  · rfl
theorem few1 {e : Expr} {env : PySem.Env} {cpos : Pos} (h : plainE e = true) : ((backTo cpos (starEach [e] env)).all (fun x => !x.1) && (backToKw cpos (keywordEach [] env)).all (fun x => x.1.isSome)
      && decide ([e].length + ([] : List Keyword).length + (if ([] : List Keyword).isEmpty then 0 else 1) < 30)) = true := by
  rw [star_plain h]; rfl
section
variable {C : Ctx} {E : ER} {Γ : Env} {Λ : Cells} {P : D → Cells → Prop} {apos cpos : Pos} {o e : Expr}
theorem Sat.cellL {K : PySem.W.Frag} {F : Fm} {B : Hp} {α : List Addr} {σ : L2.St} {H : Hp} (S : Sat K F B α Γ Λ σ H) {n : Nat} {v : V} {ds : List D} (r : Rep K B α (.loc n) v) (h : Λ[n]? = some (.lst ds)) : ∃ a vs, v = .ref a ∧ α[n]? = some a ∧ B a = none ∧ H a = some (.lst vs) ∧ Reps K B α ds vs := by
  unfold Rep at r
  obtain ⟨a, rfl, h1⟩ := r
  obtain ⟨a', q1, q2, q3, vs, q4, q5⟩ := S.ce n _ h (by simp)
  rw [h1] at q1; cases q1
  exact ⟨a, vs, rfl, h1, q2, q4, q5⟩
/-- o.append(e) -/
theorem we_append (h : WE C E Γ Λ o fun x Λ1 => ∃ n ds0, x = .loc n ∧ Λ1[n]? = some (.lst ds0) ∧ WE C E Γ Λ1 e fun y Λ2 => ∃ ds, Λ2[n]? = some (.lst ds) ∧ ds.length < sizeLine ∧ P .non (Λ2.set n (.lst (ds ++ [y]))))
    (ho : plainO o = true := by rfl) (he : plainE e = true := by rfl) (hl : (apos.endLine == cpos.line) = true := by rfl) : WE C E Γ Λ (.Call (.Attribute o "append" apos) [e] [] cpos) P := fun X F W is tk => by
  refine pe_imp (pe_bm PySem.F.plainAttrs_list PySem.F.slot_list_append PySem.F.type_list_append mt_append pe_U (pa_cons pe_U pa_nil (star_plain he)) (base_plain ho) (few1 he) hl (star_plain he) rfl) fun σ H Q ⟨B, α, S, q, er⟩ => ?_
  refine WE.use h is tk S er fun x Λ1 vx B1 α1 H1 p1 S1 e1 f1 r1 => ?_
  obtain ⟨n, ds0, rfl, hn, p1⟩ := p1
  obtain ⟨a, vs, rfl, g1, g2, g3, g4⟩ := S1.cellL r1 hn
  refine ⟨.inl ⟨rfl, _, by exact SqL.of g3⟩, ?_⟩
  refine WE.use p1 is tk S1 (er.mono e1) fun y Λ2 vy B2 α2 H2 p2 S2 e2 f2 r2 => ?_
  obtain ⟨ds, hn2, hz, p⟩ := p2
  obtain ⟨a', vs2, ea, k1, k2, k3, k4⟩ := S2.cellL (Rep.mono e2 f2 _ _ r1) hn2
  cases ea
  refine ⟨a, vs2, vy, rfl, rfl, k3, by rw [k4.length]; exact hz, ?_⟩
  exact q _ _ _ B2 α2 _ p (S2.put k1 k2 ⟨vs2 ++ [vy], upd_same, k4.append (.one r2)⟩) (e1.trans e2) (f1.trans f2) (by unfold Rep; rfl)
/-- o.extend(e), e a list that is seen -/
theorem we_extend (h : WE C E Γ Λ o fun x Λ1 => ∃ n ds0, x = .loc n ∧ Λ1[n]? = some (.lst ds0) ∧ WE C E Γ Λ1 e fun y Λ2 => ∃ ds zs, Λ2[n]? = some (.lst ds) ∧ vw Λ2 y = .lst zs ∧ ds.length + zs.length ≤ sizeLine ∧ P .non (Λ2.set n (.lst (ds ++ zs))))
    (ho : plainO o = true := by rfl) (he : plainE e = true := by rfl) (hl : (apos.endLine == cpos.line) = true := by rfl) : WE C E Γ Λ (.Call (.Attribute o "extend" apos) [e] [] cpos) P := fun X F W is tk => by
  refine pe_imp (pe_bm PySem.F.plainAttrs_list PySem.F.slot_list_extend PySem.F.type_list_extend mt_extend pe_U (pa_cons pe_U pa_nil (star_plain he)) (base_plain ho) (few1 he) hl (star_plain he) rfl) fun σ H Q ⟨B, α, S, q, er⟩ => ?_
  refine WE.use h is tk S er fun x Λ1 vx B1 α1 H1 p1 S1 e1 f1 r1 => ?_
  obtain ⟨n, ds0, rfl, hn, p1⟩ := p1
  obtain ⟨a, vs, rfl, g1, g2, g3, g4⟩ := S1.cellL r1 hn
  refine ⟨.inl ⟨rfl, _, by exact SqL.of g3⟩, ?_⟩
  refine WE.use p1 is tk S1 (er.mono e1) fun y Λ2 vy B2 α2 H2 p2 S2 e2 f2 r2 => ?_
  obtain ⟨ds, zs, hn2, hy, hz, p⟩ := p2
  obtain ⟨a', vs2, ea, k1, k2, k3, k4⟩ := S2.cellL (Rep.mono e2 f2 _ _ r1) hn2
  cases ea
  obtain ⟨b, ws, rfl, m1, m2⟩ := S2.lst r2 hy
  refine ⟨a, b, vs2, ws, rfl, rfl, k3, m1, by rw [k4.length, m2.length]; exact hz, ?_⟩
  exact q _ _ _ B2 α2 _ p (S2.put k1 k2 ⟨vs2 ++ ws, upd_same, k4.append m2⟩) (e1.trans e2) (f1.trans f2) (by unfold Rep; rfl)
end

/-! ### stores -/
section
variable {C : Ctx} {Γ : Env} {Λ : Cells} {R : Rs} {pos pos' : Pos} {o i e : Expr}
/-- no tuple display stands there -/
def noTup : Expr → Bool
  | .Tuple _ _ _ => false
  | _ => true
theorem swapped_none {t e : Expr} {env : PySem.Env} (h : noTup e = true) : swappedStores [t] e env = pure none := by
  cases t <;> cases e <;> first | rfl | cases h
/-- a, b = e -/
theorem ws_sett {tgs : List Expr} {k : Nat} (vs : List Nat) (h : WE C R.er Γ Λ e fun d Λ' => WG C Γ Λ' (.Tuple tgs k pos') d vs fun Γ' => R.nx Γ' Λ') (hc : noComp e = true := by rfl) (ht : noTup e = true := by rfl) : WS C Γ Λ (.Assign [.Tuple tgs k pos'] e pos) R := fun X F W is hm tk => by
  refine ps_imp (ps_asg pe_U pg_U (by unfold swapsWithSole; exact noSwap hc) (swapped_none ht) rfl) fun Dn σ H ⟨B, α, S, q⟩ => ?_
  refine WE.use h is tk S q.er.at fun d Λ1 vd B1 α1 H1 p1 S1 e1 f1 r1 => ?_
  exact ⟨_, p1 X F is, B1, α1, S1, r1, fun Γ' σ' p' S' ag => q.nx Γ' Λ1 B1 α1 σ' H1 p' S' e1⟩
/-- a list that was owned is seen from now on -/
theorem wss_freeze {st : List Stmt} (n : Nat) (ds : List D) (hm0 : C.m ≤ n) (hn : Λ[n]? = some (.lst ds)) (Γ' : Env) (hl : Γ'.length = Γ.length) (hΓ : ∀ (i : Nat) (d : D), Γ'[i]? = some (some d) → Γ[i]? = some (some d) ∨ (Γ[i]? = some (some (.loc n)) ∧ d = .lst ds)) (h : WSs C Γ' (Λ.set n .gone) st R) : WSs C Γ Λ st R := fun X F W is hm tk => by
  refine pss_imp pss_U fun Dn σ H ⟨B, α, S, q⟩ => ?_
  obtain ⟨a, q1, q2, q3, vs, q4, q5⟩ := S.ce n _ hn (by simp)
  have h0 : F.H0 a = none := by
    rcases q3 with z | z
    · exact z
    · exfalso
      obtain ⟨i, hi⟩ := List.getElem?_of_mem z
      have hi' := pre_get S.pf hi
      have : i = n := (List.getElem?_inj (List.getElem?_eq_some_iff.mp hi').1 S.nd).mp (hi'.trans q1.symm)
      have := (List.getElem?_eq_some_iff.mp hi).1
      omega
  have hx : Ex B (upd B a (.lst vs)) := Ex.new q2
  have nl : n < Λ.length := (List.getElem?_eq_some_iff.mp hn).1
  refine WSs.use h is hm tk (B := upd B a (.lst vs)) (α := α) ⟨S.bb.trans hx, fun b u hb => ?_, fun b u hb => ?_, S.kp, S.dm, S.pf, S.nd, by simp [S.al], fun m c hc hg => ?_, S.ah, fun i d hi => ?_, by rw [hl]; exact S.ln, S.tb.see fun _ q => nomatch q⟩ (q.mono hx)
  · by_cases e : b = a
    · subst e; rw [upd_same] at hb; rw [← hb]; exact q4
    · rw [upd_ne e] at hb; exact S.bh b u hb
  · by_cases e : b = a
    · subst e; exact .inr h0
    · rw [upd_ne e] at hb; exact S.fr b u hb
  · by_cases e : n = m
    · subst e
      rw [List.getElem?_set_self nl] at hc
      cases hc
      exact absurd rfl hg
    · rw [List.getElem?_set_ne e] at hc
      obtain ⟨b, k1, k2, k3, k4⟩ := S.ce m c hc hg
      have hba : b ≠ a := fun z => by
        subst z
        exact e ((List.getElem?_inj (by rw [S.al]; exact nl) S.nd).mp (q1.trans k1.symm))
      exact ⟨b, k1, by rw [upd_ne hba]; exact k2, k3, k4.mono hx (List.prefix_refl _) fun u z _ => z⟩
  · rcases hΓ i d hi with z | ⟨z, rfl⟩
    · obtain ⟨v, k1, k2⟩ := S.sl i d z
      exact ⟨v, k1, k2.mono hx (List.prefix_refl _)⟩
    · obtain ⟨v, k1, k2⟩ := S.sl i _ z
      unfold Rep at k2
      obtain ⟨a', rfl, k3⟩ := k2
      rw [q1] at k3; cases k3
      exact ⟨_, k1, by unfold Rep; exact ⟨a, vs, rfl, upd_same, q5.mono hx (List.prefix_refl _)⟩⟩
end
end Pl

namespace Pl
open PySem L2 PyProof.Rows

/-! ### the program's top -/
/-- a def of the module stands where its name says -/
structure DefAt (K : PySem.W.Frag) (mg : Str → Option Value) (x : Str) (st : Stmt) (ps : List Str) (q : Str := x) : Prop where
  ex : ∃ f fd, Fun K q q st f fd ∧ mg x = some (.ref f) ∧ ∀ us : List Value, us.length = ps.length → bindArgs fd ⟨us, []⟩ = pure (ps.zip us)
theorem defAt_mk {K : PySem.W.Frag} {mg : Str → Option Value} {h : Heap} {x : Str} {st : Stmt} {ps : List Str} {f : Addr} {oc : Value} {od an : Option Addr} {osl : Array (Option Value)} {kV doc pm cdv ct : Value} (X : K.In h) (G : h.Ns mainGlobals mg)
    (hb : ∀ (kV doc pm : Value) (an : Option Addr) (cdv ct : Value) (us : List Value), us.length = ps.length → bindArgs (PySem.W.fnOf x x (defArgs st) (defBody st) (defScope st) .none kV doc pm an cdv ct) ⟨us, []⟩ = pure (ps.zip us))
    (a : PySem.W.nsIn K mainGlobals x = some (some (.ref f))) (l : K.lookup f = some ⟨oc, od, .func (PySem.W.fnOf x x (defArgs st) (defBody st) (defScope st) .none kV doc pm an cdv ct), osl⟩) (c : PySem.W.codeIn K cdv x = true) (k : PySem.W.keepIn K (.ref f) = true) :
    DefAt K mg x st ps := ⟨f, _, fun_mk l c k, PySem.W.mg_of X G a, fun us hl => hb kV doc pm an cdv ct us hl⟩
/-- a def of the module, by its body: the rule for a place of the text -/
theorem DefAt.fn {P : Program} {w : World} {K : PySem.W.Frag} {mg : Str → Option Value} {base : Heap} {x q : Str} {st : Stmt} {ps : List Str} (h : DefAt K mg x st ps q) {k : Nat} {S : Spec}
    (H : ∀ (f : Addr) (fd : FuncData), Fun K q q st f fd → FnG P w K mg base (L2.CX P w) k f fd ps (spOf K ps.length S)) : Fn P w K mg base k x ps.length S := by
  obtain ⟨f, fd, h1, h2, h3⟩ := h.ex
  exact fn_mk (H f fd h1) h2 h1.kp (.all h3)

/-- what a law asks: True for every script -/
def lawSpec (n : Nat) : Spec := fun ds Λ Q _ => ∃ ns : List Int, ns.length ≤ n ∧ ds = [.fzl (ns.map .int)] ∧ Λ = [] ∧ Q (.val (.bl true)) []
theorem reps_ints {K : PySem.W.Frag} {B : Hp} {α : List Addr} : ∀ ns : List Int, Reps K B α (ns.map D.int) (ns.map V.int)
  | [] => .nil
  | n :: ns => .cons (by unfold Rep; rfl) (reps_ints ns)
/-- the heap without the tables -/
def noT (H : Hp) : Hp := fun a => match H a with
  | some (.tbl _) => none
  | x => x
theorem noT_ne {H : Hp} {a : Addr} {o : HO} (h : H a = some o) (n : NoTbl o) : noT H a = some o := by
  unfold noT
  rw [h]
  cases o <;> first | rfl | exact absurd rfl (n _)
theorem noT_ex {H : Hp} : Ex (noT H) H := fun a o h => by
  unfold noT at h
  cases e : H a with
  | none => rw [e] at h; cases h
  | some u => rw [e] at h; cases u <;> first | exact h | (cases h; done)
theorem noT_tbl {H : Hp} (a : Addr) (ps : Array Value) : noT H a ≠ some (.tbl ps) := fun h => by
  unfold noT at h
  cases e : H a with
  | none => rw [e] at h; cases h
  | some u => rw [e] at h; cases u <;> cases h
theorem noT_sq {K : PySem.W.Frag} {H : Hp} {a : Addr} {xs : List V} (h : SqL K H a xs) : SqL K (noT H) a xs := by
  rcases h with (h | ⟨o, h⟩) | h
  · exact .inl (.inl (noT_ne h fun _ q => nomatch q))
  · exact .inl (.inr ⟨o, noT_ne h fun _ q => nomatch q⟩)
  · exact .inr h
theorem law_sp {K : PySem.W.Frag} {H : Hp} {a : Addr} {ns : List Int} {n : Nat} (h : ns.length ≤ n) (hS : SqL K H a (ns.map V.int)) (hT : LamX.Tabs Tbl.T H) : spOf K 1 (lawSpec n) [.ref a] H (fun v _ => v = V.bl true) fun _ _ _ => False := by
  refine ⟨⟨H, noT H, []⟩, [.fzl (ns.map .int)], [], rfl, rfl, ?_, ?_, ns, h, rfl, rfl, fun v H' B' α' S r => ?_⟩
  · exact ⟨Ex.refl _, noT_ex, fun a o h => .inl h, fun a o h _ _ => h, fun a h => h, List.prefix_refl _, List.nodup_nil, rfl, fun n c h => by simp at h, fun a h => by simp at h, fun i d h => by simp at h, rfl, hT, fun p hp => by
      obtain ⟨ps, e, _⟩ := hT p hp
      show H p.1 ≠ none
      rw [e]; simp, noT_tbl, fun a h => by simp at h⟩
  · refine .one ?_
    unfold Rep
    exact ⟨a, _, rfl, noT_sq hS, reps_ints ns⟩
  · unfold ResAt Rep at r
    exact r
theorem law_end {l : PySem.W.OpenLaw} {n k : Nat} {q : Program} {loose : List Str} {XP : (Str → Option Value) → Heap → Prop} {YP : World → Heap → Prop} {d : DefRec} {K : Params → PySem.W.Frag} {st : Stmt} {x : Str}
    (hn : l.most = some n) (hn2 : n ≤ sizeLine) (hdf : d.params.defaults = []) (hr : RoomG k callerA) (hT0 : Tbl.T = [])
    (hY : ∀ (w : World) (h : Heap), YP w h → (K w.params).In h)
    (F : ∀ (w : World) (mg : Str → Option Value) (h : Heap), (K w.params).In h → h.Ns mainGlobals mg → DefAt (K w.params) mg d.name st [x] ∧ ∀ base : Heap, (K w.params).In base → base.Ns mainGlobals mg →
      ∀ (f : Addr) (fd : FuncData), Fun (K w.params) d.name d.name st f fd → FnG l.prog w (K w.params) mg base (L2.CX l.prog w) k f fd [x] (spOf (K w.params) 1 (lawSpec n))) :
    PySem.W.WalkO q loose XP YP l.row.toRowW d [] (fun f vs => PySem.call f vs) := by
  refine L2.walk_ofG (n := n) (k := k) (x := x) (CX := fun w => L2.CX l.prog w) (sp := fun w => spOf (K w.params) 1 (lawSpec n)) hn hn2 hdf hr hY (fun w mg fa h KX G hfa => ?_) (fun w H a ns hl _ hS => law_sp hl hS fun p hp => by rw [hT0] at hp; cases hp) fun w H s e s' z => ?_
  · obtain ⟨D, B⟩ := F w mg h KX G
    obtain ⟨f, fd, h1, h2, h3⟩ := D.ex
    rw [hfa] at h2
    cases h2
    exact ⟨fd, fun s u => .of_eq (h3 [u] rfl), fun base KB GB => B base KB GB _ fd h1⟩
  · obtain ⟨_, _, _, _, _, _, _, _, _, _, _, _, z⟩ := z
    exact z.elim

/-! ### deciders of a context's lists -/
def goodC (N : List Str) (sc : Scope) (vs ls : List Bool) (gl : List Str) : Bool :=
  decide N.Nodup && ((List.range N.length).all fun i => match N[i]? with
    | none => true
    | some x => (vs[i]? != some true || (sc.names.lookup x == some .local || sc.names.lookup x == some .cell || sc.names.lookup x == some .free)) && (ls[i]? != some true || (sc.names.lookup x == some .local || sc.names.lookup x == some .cell)))
  && gl.all fun x => sc.names.lookup x == some .globalImplicit
theorem good_by {C : Ctx} (h : goodC C.N C.sc C.vs C.ls C.gl = true) : C.Good := by
  unfold goodC at h
  simp only [Bool.and_eq_true, List.all_eq_true, decide_eq_true_eq] at h
  obtain ⟨⟨h1, h2⟩, h3⟩ := h
  have at_ : ∀ (i : Nat) (x : Str), C.N[i]? = some x → ((C.vs[i]? != some true || (C.sc.names.lookup x == some .local || C.sc.names.lookup x == some .cell || C.sc.names.lookup x == some .free)) && (C.ls[i]? != some true || (C.sc.names.lookup x == some .local || C.sc.names.lookup x == some .cell))) = true := fun i x hi => by
    have := h2 i (List.mem_range.mpr (List.getElem?_eq_some_iff.mp hi).1)
    rw [hi] at this
    simpa using this
  refine ⟨h1, fun i x hi hv => ?_, fun i x hi hv => ?_, fun j x hj => ?_⟩
  · have := at_ i x hi
    rw [hv] at this
    simp only [Bool.and_eq_true, Bool.or_eq_true, bne_self_eq_false, Bool.false_eq_true, false_or, beq_iff_eq] at this
    rcases this.1 with (z | z) | z
    · exact .inl z
    · exact .inr (.inl z)
    · exact .inr (.inr z)
  · have := at_ i x hi
    rw [hv] at this
    simp only [Bool.and_eq_true, Bool.or_eq_true, bne_self_eq_false, Bool.false_eq_true, false_or, beq_iff_eq] at this
    rcases this.2 with z | z
    · exact .inl z
    · exact .inr z
  · have := h3 x (List.mem_of_getElem? hj)
    exact beq_iff_eq.mp this
def stoC (N : List Str) (scope : Scope) (ls : List Bool) : Bool :=
  (List.range N.length).all fun i => match N[i]? with
    | none => true
    | some x => ls[i]? != some true || (scope.names.lookup x == some .local || scope.names.lookup x == some .cell)
theorem sto_by {N : List Str} {scope : Scope} {ls : List Bool} (h : stoC N scope ls = true) (i : Nat) (x : Str) (hi : N[i]? = some x) (hl : ls[i]? = some true) : scope.names.lookup x = some .local ∨ scope.names.lookup x = some .cell := by
  unfold stoC at h
  rw [List.all_eq_true] at h
  have := h i (List.mem_range.mpr (List.getElem?_eq_some_iff.mp hi).1)
  rw [hi] at this
  simp only [hl] at this
  simp only [Bool.or_eq_true, bne_self_eq_false, Bool.false_eq_true, false_or, beq_iff_eq] at this
  exact this
/-- what stands fast while a law is walked -/
structure Gl where
  P : Program
  w : World
  K : PySem.W.Frag
  mg : Str → Option Value
  base : Heap
@[reducible] def Gl.cx (G : Gl) (N : List Str) (sc : Scope) (vs ls : List Bool) (gl : List Str) (k : Nat) (m : Nat := 0) (cd : Option (Str × Addr) := none) : Ctx := ⟨G.P, G.w, G.K, G.mg, G.base, N, sc, vs, ls, gl, k, m, true, cd, false⟩
instance {G : Gl} {N : List Str} {sc : Scope} {vs ls : List Bool} {gl : List Str} {k m : Nat} {cd : Option (Str × Addr)} : Cool (G.cx N sc vs ls gl k m cd) := ⟨rfl⟩
abbrev Gl.fn (G : Gl) (k : Nat) (x : Str) (n : Nat) (S : Spec) : Prop := Fn G.P G.w G.K G.mg G.base k x n S
end Pl

/-! Pl8t: the end of a law whose defs make lambdas. -/
namespace L2
open PySem PySem.Spec PyProof.Rows LamX
end L2
namespace Pl
open PySem L2 PyProof.Rows
end Pl

namespace Pl
open PySem L2 PyProof.Rows

/-! ### steps over data, for the driver -/
section
variable {Λ : Cells} {P : D → Prop} {Pb : Bool → Prop} {i j : Int} {s t : Str} {c d : Bool}
theorem ixP_seq {x : D} {ds : List D} {e : D} (hs : seqD Λ x = some ds) (he : atI ds i = some e) (h : P e) : ixP Λ x (.int i) P := by
  unfold ixP
  split
  · rename_i i' heq
    cases heq
    split
    · simp only [seqD, vw] at hs; cases hs
    · exact ⟨ds, hs, e, he, h⟩
  · rename_i hne; exact absurd rfl (hne i)
theorem ixP_str {k : Nat} (hl : s.length ≤ sizeLine) (he : atI s.cps.toList i = some k) (h : P (.str ⟨#[k]⟩)) : ixP Λ (.str s) (.int i) P := ⟨hl, k, he, h⟩
theorem lenP_seq {x : D} {ds : List D} {Pi : Int → Prop} (hs : seqD Λ x = some ds) (h : Pi ds.length) : lenP Λ x Pi := by
  unfold lenP
  split
  · simp only [seqD, vw] at hs; cases hs
  · exact ⟨ds, hs, h⟩
theorem lenP_str {Pi : Int → Prop} (hl : s.length ≤ sizeLine) (h : Pi s.length) : lenP Λ (.str s) Pi := ⟨hl, h⟩
theorem inP_seq {x y : D} {ds : List D} (hs : seqD Λ y = some ds) (hp : PyData.plainAll (pys ds) = true) (hx : (py (vw Λ x)).plain = true) (hd : min (PyData.depthAll (pys ds)) (py (vw Λ x)).depth ≤ 190) (h : Pb ((pys ds).any fun e => PyData.eqv e (py (vw Λ x)))) : inP Λ x y Pb := by
  unfold seqD at hs
  unfold inP
  split at hs
  · rename_i e; cases hs; rw [e]; exact ⟨hp, hx, hd, h⟩
  · rename_i e; cases hs; rw [e]; exact ⟨hp, hx, hd, h⟩
  · rename_i e; cases hs; rw [e]; exact ⟨hp, hx, hd, h⟩
  · cases hs
end

/-! ### comprehensions and loops over mapped items -/
section
variable {C : Ctx} {Γ : Env} {Λ : Cells} {tg elt : Expr} {ws : List Nat} {P : List D → Prop} {β : Type}
theorem wg_mono {d : D} {P P' : Env → Prop} (h : WG C Γ Λ tg d ws P) (i : ∀ Γ', P Γ' → P' Γ') : WG C Γ Λ tg d ws P' := fun X F is =>
  pg_imp (h X F is) fun v σ H Q ⟨B, α, S, r, q⟩ => ⟨B, α, S, r, fun Γ' σ' p' S' ag => q Γ' σ' (i Γ' p') S' ag⟩
end
/-- no call can be asked for -/
theorem DefAt.none {G : Gl} {x : Str} {st : Stmt} {ps : List Str} {qn : Str} (h : DefAt G.K G.mg x st ps qn) {k : Nat} {S : Spec} (hS : ∀ ds Λ Q E, ¬ S ds Λ Q E) : G.fn k x ps.length S :=
  h.fn fun f fd F => ⟨fun vs H Q E ⟨_, _, _, _, _, _, _, z⟩ => absurd z (hS _ _ _ _), fun A outer s H args us vs Q E _ _ _ _ ⟨_, _, _, _, _, _, _, z⟩ => absurd z (hS _ _ _ _)⟩
end Pl

/-! max(xs, default=d) -/
namespace Mxd
open PySem PyProof.Rows
section
variable {prog : Program} {w : World} {A : Around} {R : Result → Shared → Prop} {it : Addr} {fp wr : List Addr} {n : Nat} {P : Nat → Value → Prop} {St : Nat → Heap → Prop} {dk : List (Str × Value)}
theorem hnm : (toString "max" ++ toString ".loop" : String) = "max.loop" := by decide
theorem turns (W : Walks prog w A.in1 it fp wr n P St) (bt : Nat → Nat → Bool) (cmp : CmpOf prog w A.in1 .Gt P bt) (b : Addr) (nb : b ∉ fp) : ∀ (k j : Nat) (s : Shared) (u : Value) (c : Nat), n - (j + 1) = k → j + 1 ≤ n → St (j + 1) s.heap → P (argBest bt j) u →
    s.heap.get? b = some { cls := .type "list", dict := none, data := .seq #[u, u] c, slots := #[] } →
    (∀ v h' tk, P (argBest bt (n - 1)) v → (∀ a o, a ∉ wr → a ≠ b → s.heap.get? a = some o → h'.get? a = some o) → R (.ok (.ret v)) { s with heap := h', toks := tk }) → codeAny (model prog w) A (.builtin "max.loop" ⟨[.ref it, .none, .ref b], dk⟩) R s := by
  have nbw : b ∉ wr := fun h => nb (W.sub _ h)
  intro k
  induction k with
  | zero =>
    intro j s u c e hj st pu hb q
    have ej : j + 1 = n := by omega
    refine codeAny_builtin F.entry_max_loop ?_
    rw [Around.under_plainId F.plain_max_loop _]
    show wpAny _ A.in1 (seqItems? (.ref b) >>= fun _ => _) _ _ s
    refine wpAny_bind (wpAny_seqItems hb rfl ?_)
    show wpAny _ A.in1 (tryCatch (pyNext (.ref it)) _ >>= fun _ => _) _ _ s
    refine wpAny_bind (wpAny_tryCatch (W.done s _ _ (ej ▸ st) fun h1 tk k1 => ?_))
    have hb1 := k1 b _ nbw hb
    show wpAny _ A.in1 (updateSeq b (fun _ => #[]) >>= fun _ => _) _ _ _
    refine wpAny_bind ?_
    refine wpAny_updateSeq hb1 rfl (wpAny_bind (wpAny_letGo (wpAny_pure ?_)))
    exact q u _ tk (by rw [← ej]; exact pu) fun a o ha hab e => (Heap.get?_update_other _ _ (Ne.symm hab)).trans (k1 a o ha e)
  | succ k ih =>
    intro j s u c e hj st pu hb q
    have lt : j + 1 < n := by omega
    refine codeAny_builtin F.entry_max_loop ?_
    rw [Around.under_plainId F.plain_max_loop _]
    show wpAny _ A.in1 (seqItems? (.ref b) >>= fun _ => _) _ _ s
    refine wpAny_bind (wpAny_seqItems hb rfl ?_)
    show wpAny _ A.in1 (tryCatch (pyNext (.ref it)) _ >>= fun _ => _) _ _ s
    refine wpAny_bind (wpAny_tryCatch (W.item (j + 1) s _ _ lt st fun v h1 tk pv st1 k1 => ?_))
    have hb1 := k1 b _ nbw hb
    show wpAny _ A.in1 (tryCatch (holding [v, v] (richCompare .Gt v u >>= fun _ => _)) _ >>= fun _ => _) _ _ _
    refine wpAny_bind (wpAny_tryCatch (wpAny_holding (wpAny_bind (cmp (j + 1) (argBest bt j) v u _ _ _ pv pu ?_))))
    refine wpAny_bind (wpAny_holding (wpAny_truthy_bool ?_))
    refine wpAny_bind (wpAny_letGo (wpAny_pure ?_))
    cases hc : bt (j + 1) (argBest bt j) with
    | true =>
      simp only [if_true]
      refine wpAny_bind ?_
      refine wpAny_updateSeq hb1 rfl (wpAny_bind (wpAny_letGo ?_))
      rw [hnm]
      refine wpAny_pure ⟨plainId_quiet F.plain_max_loop _, ih (j + 1) _ v _ (by omega) lt (W.frame _ _ _ st1 fun a ha o e => ?_) (by simp only [argBest, hc, if_true]; exact pv) (Heap.get?_update_self _ hb1 rfl) fun z h2 tk2 pz k2 => ?_⟩
      · exact (Heap.get?_update_other _ _ (fun h : b = a => nb (by rw [h]; exact ha))).trans e
      · exact q z h2 tk2 pz fun a o ha hab e => k2 a o ha hab ((Heap.get?_update_other _ _ (Ne.symm hab)).trans (k1 a o ha e))
    | false =>
      simp only [Bool.false_eq_true, if_false]
      refine wpAny_bind (wpAny_letGo ?_)
      rw [hnm]
      refine wpAny_pure ⟨plainId_quiet F.plain_max_loop _, ih (j + 1) _ u c (by omega) lt st1 (by simp only [argBest, hc, Bool.false_eq_true, if_false]; exact pu) hb1 fun z h2 tk2 pz k2 => ?_⟩
      exact q z h2 tk2 pz fun a o ha hab e => k2 a o ha hab (k1 a o ha e)
theorem first (W : Walks prog w A.in1 it fp wr n P St) (bt : Nat → Nat → Bool) (cmp : CmpOf prog w A.in1 .Gt P bt) (b : Addr) (nb : b ∉ fp) (h0 : 0 < n) {s : Shared} {c : Nat} (st : St 0 s.heap)
    (hb : s.heap.get? b = some { cls := .type "list", dict := none, data := .seq #[] c, slots := #[] })
    (q : ∀ v h' tk, P (argBest bt (n - 1)) v → (∀ a o, a ∉ wr → a ≠ b → s.heap.get? a = some o → h'.get? a = some o) → R (.ok (.ret v)) { s with heap := h', toks := tk }) : codeAny (model prog w) A (.builtin "max.loop" ⟨[.ref it, .none, .ref b], dk⟩) R s := by
  have nbw : b ∉ wr := fun h => nb (W.sub _ h)
  refine codeAny_builtin F.entry_max_loop ?_
  rw [Around.under_plainId F.plain_max_loop _]
  show wpAny _ A.in1 (seqItems? (.ref b) >>= fun _ => _) _ _ s
  refine wpAny_bind (wpAny_seqItems hb rfl ?_)
  show wpAny _ A.in1 (tryCatch (pyNext (.ref it)) _ >>= fun _ => _) _ _ s
  refine wpAny_bind (wpAny_tryCatch (W.item 0 s _ _ h0 st fun v h1 tk pv st1 k1 => ?_))
  have hb1 := k1 b _ nbw hb
  show wpAny _ A.in1 (updateSeq b (fun _ => #[v, v]) >>= fun _ => _) _ _ _
  refine wpAny_bind ?_
  refine wpAny_updateSeq hb1 rfl ?_
  rw [hnm]
  refine wpAny_pure ⟨plainId_quiet F.plain_max_loop _, turns W bt cmp b nb _ 0 _ v _ rfl h0 (W.frame _ _ _ st1 fun a ha o e => ?_) pv (Heap.get?_update_self _ hb1 rfl) fun z h2 tk2 pz k2 => ?_⟩
  · exact (Heap.get?_update_other _ _ (fun h : b = a => nb (by rw [h]; exact ha))).trans e
  · exact q z h2 tk2 pz fun a o ha hab e => k2 a o ha hab ((Heap.get?_update_other _ _ (Ne.symm hab)).trans (k1 a o ha e))
end
section
variable {prog : Program} {w : World} {A : Around} {E : Value → Shared → Prop} {s : Shared}
theorem bk (d : Value) : Builtin.Builtins.bindParams "max" ["key", "default"] 0 ⟨[], [(Str.ofString "default", d)]⟩ = pure [none, some d] := by first | rfl | kernel_rfl
end
end Mxd
namespace Mxd
open PySem PyProof.Rows
section
variable {prog : Program} {w : World} {A : Around} {E : Value → Shared → Prop} {s : Shared}
end
end Mxd

namespace Pl
open PySem L2 PyProof.Rows
section
variable {C : Ctx} {E : ER} {Γ : Env} {Λ : Cells} {P : D → Cells → Prop} {pos p : Pos} {e : Expr}
end
end Pl
namespace Pl
open PySem L2 PyProof.Rows
section
variable {C : Ctx} {E : ER} {Γ : Env} {Λ : Cells} {P : D → Cells → Prop} {pos p p2 : Pos} {e : Expr}
/-- isinstance(e, T) -/
theorem we_isiN {x : Str} {T : String} (hj : GlAt C "isinstance") (hm : C.mg "isinstance" = none) (hj2 : GlAt C x) (hm2 : C.mg x = none) (hv : bootBuiltins x = some (.type T)) (h : WE C E Γ Λ e fun x Λ1 => ∃ t b, tyD Λ1 x = some t ∧ isiB t T = some b ∧ P (.bl b) Λ1) (he : plainE e = true := by rfl)
    (hn : x ≠ "__name__" := by decide) (hd : (x == ("__debug__" : Str)) = false := by decide) : WE C E Γ Λ (.Call (.Name "isinstance" p) [e, .Name x p2] [] pos) P :=
  we_isi hj hm (we_mono h fun y Λ1 ⟨t, b, h1, h2, h3⟩ => we_blt hj2 hm2 hv (v := .ty T) (by exact rfl) ⟨t, T, b, rfl, h1, h2, h3⟩ hn hd) he
end
/-! ### for the driver -/
section
variable {C : Ctx} {E : ER} {Γ : Env} {Λ : Cells}
end
end Pl
namespace Pl
open PySem L2 PyProof.Rows
theorem sz_lt {n : Nat} (h : n < 10000000) : n ≤ sizeLine := by rw [sizeLine_eq]; omega
end Pl
namespace Pl
open PySem L2 PyProof.Rows
end Pl

/-! Pl11: calls that are handed cells and that hand back new ones -/
namespace Pl
open PySem L2 PyProof.Rows

/-! ### cells under other numbers -/
mutual
def ren (f : Nat → Nat) : D → D
  | .loc n => .loc (f n)
  | .tup ds => .tup (rens f ds)
  | .lst ds => .lst (rens f ds)
  | .fzl ds => .fzl (rens f ds)
  | .ins C ns ds => .ins C ns (rens f ds)
  | .dic ks ds => .dic ks (rens f ds)
  | .exc C ns ds => .exc C ns (rens f ds)
  | .non => .non
  | .bl b => .bl b
  | .int i => .int i
  | .str s => .str s
  | .raw v => .raw v
def rens (f : Nat → Nat) : List D → List D
  | [] => []
  | d :: ds => ren f d :: rens f ds
end
theorem rens_length {f : Nat → Nat} : ∀ ds : List D, (rens f ds).length = ds.length
  | [] => rfl
  | d :: ds => by show (rens f ds).length + 1 = _; rw [rens_length ds]; rfl
theorem allBl_rens {f : Nat → Nat} : ∀ ds : List D, allBl (rens f ds) = allBl ds
  | [] => rfl
  | d :: ds => by
    show allBl (ren f d :: rens f ds) = _
    cases d <;> first | rfl | exact allBl_rens ds
mutual
theorem ren_nl {f : Nat → Nat} : ∀ d : D, nl d = true → ren f d = d
  | .loc n, h => by cases h
  | .tup ds, h => by show D.tup _ = _; rw [rens_nl ds h]
  | .lst ds, h => by show D.lst _ = _; rw [rens_nl ds h]
  | .fzl ds, h => by show D.fzl _ = _; rw [rens_nl ds h]
  | .ins C ns ds, h => by show D.ins _ _ _ = _; rw [rens_nl ds h]
  | .dic ks ds, h => by show D.dic _ _ = _; rw [rens_nl ds h]
  | .exc C ns ds, h => by show D.exc _ _ _ = _; rw [rens_nl ds h]
  | .non, _ => rfl
  | .bl _, _ => rfl
  | .int _, _ => rfl
  | .str _, _ => rfl
  | .raw _, _ => rfl
theorem rens_nl {f : Nat → Nat} : ∀ ds : List D, nls ds = true → rens f ds = ds
  | [], _ => rfl
  | d :: ds, h => by
    have h' : (nl d && nls ds) = true := h
    rw [Bool.and_eq_true] at h'
    show ren f d :: rens f ds = _
    rw [ren_nl d h'.1, rens_nl ds h'.2]
end
mutual
def ltD (m : Nat) : D → Bool
  | .loc n => decide (n < m)
  | .tup ds => ltDs m ds
  | .lst ds => ltDs m ds
  | .fzl ds => ltDs m ds
  | .ins _ _ ds => ltDs m ds
  | .dic _ ds => ltDs m ds
  | .exc _ _ ds => ltDs m ds
  | _ => true
def ltDs (m : Nat) : List D → Bool
  | [] => true
  | d :: ds => ltD m d && ltDs m ds
end
mutual
theorem ltD_nl {m : Nat} : ∀ d : D, nl d = true → ltD m d = true
  | .loc n, h => by cases h
  | .tup ds, h => ltDs_nl ds h
  | .lst ds, h => ltDs_nl ds h
  | .fzl ds, h => ltDs_nl ds h
  | .ins C ns ds, h => ltDs_nl ds h
  | .dic ks ds, h => ltDs_nl ds h
  | .exc C ns ds, h => ltDs_nl ds h
  | .non, _ => rfl
  | .bl _, _ => rfl
  | .int _, _ => rfl
  | .str _, _ => rfl
  | .raw _, _ => rfl
theorem ltDs_nl {m : Nat} : ∀ ds : List D, nls ds = true → ltDs m ds = true
  | [], _ => rfl
  | d :: ds, h => by
    have h' : (nl d && nls ds) = true := h
    rw [Bool.and_eq_true] at h'
    show (ltD m d && ltDs m ds) = true
    rw [ltD_nl d h'.1, ltDs_nl ds h'.2]; rfl
end
section
variable {K : PySem.W.Frag} {B : Hp} {α α' : List Addr} {f : Nat → Nat}
mutual
theorem Rep.ren {m : Nat} (hf : ∀ (n : Nat) (a : Addr), n < m → α[n]? = some a → α'[f n]? = some a) : ∀ (d : D) (v : V), ltD m d = true → Rep K B α d v → Rep K B α' (Pl.ren f d) v
  | .non, _, _, h => h
  | .bl _, _, _, h => h
  | .int _, _, _, h => h
  | .str _, _, _, h => h
  | .raw _, _, _, h => h
  | .loc n, v, l, h => by
    unfold Rep at h
    obtain ⟨a, rfl, h1⟩ := h
    show Rep K B α' (.loc (f n)) _
    unfold Rep
    exact ⟨a, rfl, hf n a (of_decide_eq_true l) h1⟩
  | .tup ds, v, l, h => by
    unfold Rep at h
    obtain ⟨a, vs, rfl, h1, h2⟩ := h
    show Rep K B α' (.tup (rens f ds)) _
    unfold Rep
    exact ⟨a, vs, rfl, h1.to (fun q => by rw [allBl_rens] at q; exact q), Reps.ren hf ds vs l h2⟩
  | .lst ds, v, l, h => by
    unfold Rep at h
    obtain ⟨a, vs, rfl, h1, h2⟩ := h
    show Rep K B α' (.lst (rens f ds)) _
    unfold Rep
    exact ⟨a, vs, rfl, h1, Reps.ren hf ds vs l h2⟩
  | .fzl ds, v, l, h => by
    unfold Rep at h
    obtain ⟨a, vs, rfl, h1, h2⟩ := h
    show Rep K B α' (.fzl (rens f ds)) _
    unfold Rep
    exact ⟨a, vs, rfl, h1, Reps.ren hf ds vs l h2⟩
  | .ins C ns ds, v, l, h => by
    unfold Rep at h
    obtain ⟨a, dx, vs, rfl, h1, h2, h3⟩ := h
    show Rep K B α' (.ins C ns (rens f ds)) _
    unfold Rep
    exact ⟨a, dx, vs, rfl, h1, Reps.ren hf ds vs l h2, by rw [rens_length]; exact h3⟩
  | .dic ks ds, v, l, h => by
    unfold Rep at h
    obtain ⟨a, vs, rfl, h1, h2, h3⟩ := h
    show Rep K B α' (.dic ks (rens f ds)) _
    unfold Rep
    exact ⟨a, vs, rfl, h1, Reps.ren hf ds vs l h2, by rw [rens_length]; exact h3⟩
  | .exc C ns ds, v, l, h => by
    unfold Rep at h
    obtain ⟨a, d, vs, rfl, h1, h2, h3, h4⟩ := h
    show Rep K B α' (.exc C ns (rens f ds)) _
    unfold Rep
    exact ⟨a, d, vs, rfl, h1, Reps.ren hf ds vs l h2, by rw [rens_length]; exact h3, h4⟩
theorem Reps.ren {m : Nat} (hf : ∀ (n : Nat) (a : Addr), n < m → α[n]? = some a → α'[f n]? = some a) : ∀ (ds : List D) (vs : List V), ltDs m ds = true → Reps K B α ds vs → Reps K B α' (rens f ds) vs
  | [], _, _, h => h
  | d :: ds, vs, l, h => by
    have l' : (ltD m d && ltDs m ds) = true := l
    rw [Bool.and_eq_true] at l'
    unfold Reps at h
    obtain ⟨v, r, rfl, h1, h2⟩ := h
    exact .cons (Rep.ren hf d v l'.1 h1) (Reps.ren hf ds r l'.2 h2)
end
mutual
theorem Rep.unren {m : Nat} (hf : ∀ (n : Nat) (a : Addr), n < m → α'[f n]? = some a → α[n]? = some a) : ∀ (d : D) (v : V), ltD m d = true → Rep K B α' (Pl.ren f d) v → Rep K B α d v
  | .non, _, _, h => h
  | .bl _, _, _, h => h
  | .int _, _, _, h => h
  | .str _, _, _, h => h
  | .raw _, _, _, h => h
  | .loc n, v, l, h => by
    have h : Rep K B α' (.loc (f n)) v := h
    unfold Rep at h ⊢
    obtain ⟨a, rfl, h1⟩ := h
    exact ⟨a, rfl, hf n a (of_decide_eq_true l) h1⟩
  | .tup ds, v, l, h => by
    have h : Rep K B α' (.tup (rens f ds)) v := h
    unfold Rep at h ⊢
    obtain ⟨a, vs, rfl, h1, h2⟩ := h
    exact ⟨a, vs, rfl, h1.to (fun q => by rw [allBl_rens]; exact q), Reps.unren hf ds vs l h2⟩
  | .lst ds, v, l, h => by
    have h : Rep K B α' (.lst (rens f ds)) v := h
    unfold Rep at h ⊢
    obtain ⟨a, vs, rfl, h1, h2⟩ := h
    exact ⟨a, vs, rfl, h1, Reps.unren hf ds vs l h2⟩
  | .fzl ds, v, l, h => by
    have h : Rep K B α' (.fzl (rens f ds)) v := h
    unfold Rep at h ⊢
    obtain ⟨a, vs, rfl, h1, h2⟩ := h
    exact ⟨a, vs, rfl, h1, Reps.unren hf ds vs l h2⟩
  | .ins C ns ds, v, l, h => by
    have h : Rep K B α' (.ins C ns (rens f ds)) v := h
    unfold Rep at h ⊢
    obtain ⟨a, dx, vs, rfl, h1, h2, h3⟩ := h
    exact ⟨a, dx, vs, rfl, h1, Reps.unren hf ds vs l h2, by rw [rens_length] at h3; exact h3⟩
  | .dic ks ds, v, l, h => by
    have h : Rep K B α' (.dic ks (rens f ds)) v := h
    unfold Rep at h ⊢
    obtain ⟨a, vs, rfl, h1, h2, h3⟩ := h
    exact ⟨a, vs, rfl, h1, Reps.unren hf ds vs l h2, by rw [rens_length] at h3; exact h3⟩
  | .exc C ns ds, v, l, h => by
    have h : Rep K B α' (.exc C ns (rens f ds)) v := h
    unfold Rep at h ⊢
    obtain ⟨a, d, vs, rfl, h1, h2, h3, h4⟩ := h
    exact ⟨a, d, vs, rfl, h1, Reps.unren hf ds vs l h2, by rw [rens_length] at h3; exact h3, h4⟩
theorem Reps.unren {m : Nat} (hf : ∀ (n : Nat) (a : Addr), n < m → α'[f n]? = some a → α[n]? = some a) : ∀ (ds : List D) (vs : List V), ltDs m ds = true → Reps K B α' (rens f ds) vs → Reps K B α ds vs
  | [], _, _, h => h
  | d :: ds, vs, l, h => by
    have l' : (ltD m d && ltDs m ds) = true := l
    rw [Bool.and_eq_true] at l'
    have h : Reps K B α' (Pl.ren f d :: rens f ds) vs := h
    unfold Reps at h
    obtain ⟨v, r, rfl, h1, h2⟩ := h
    exact .cons (Rep.unren hf d v l'.1 h1) (Reps.unren hf ds r l'.2 h2)
end
theorem id_ren : ∀ d : D, Pl.ren (fun n => n) d = d := by
  intro d
  refine D.rec (motive_1 := fun d => Pl.ren (fun n => n) d = d) (motive_2 := fun ds => rens (fun n => n) ds = ds) rfl (fun _ => rfl) (fun _ => rfl) (fun _ => rfl) (fun ds h => ?_) (fun ds h => ?_) (fun ds h => ?_) (fun _ => rfl) (fun _ => rfl) (fun _ _ ds h => ?_) (fun _ ds h => ?_) (fun _ _ ds h => ?_) rfl (fun d ds h1 h2 => ?_) d
  · show D.tup _ = _; rw [h]
  · show D.lst _ = _; rw [h]
  · show D.fzl _ = _; rw [h]
  · show D.ins _ _ _ = _; rw [h]
  · show D.dic _ _ = _; rw [h]
  · show D.exc _ _ _ = _; rw [h]
  · show _ :: _ = _; rw [h1, h2]
theorem ids_ren : ∀ ds : List D, rens (fun n => n) ds = ds
  | [] => rfl
  | d :: ds => by show _ :: _ = _; rw [id_ren, ids_ren ds]
end

/-! ### what is handed -/
/-- the callee's cell j is the caller's -/
def gI (ls : List Nat) (n : Nat) (j : Nat) : Nat := if h : j < ls.length then ls[j] else n + (j - ls.length)
def cellsAt (Λ : Cells) (ls : List Nat) : Cells := ls.map fun n => (Λ[n]?).getD .gone
def setAll (Λ : Cells) : List Nat → Cells → Cells
  | n :: ls, c :: cs => setAll (Λ.set n c) ls cs
  | _, _ => Λ
/-- the caller's cells behind the call -/
def putB (Λ : Cells) (ls : List Nat) (Λ' : Cells) : Cells := setAll Λ ls (Λ'.take ls.length) ++ Λ'.drop ls.length
theorem setAll_length : ∀ {Λ : Cells} {ls : List Nat} {cs : Cells}, (setAll Λ ls cs).length = Λ.length
  | _, [], _ => by unfold setAll; rfl
  | _, _ :: _, [] => by unfold setAll; rfl
  | Λ, n :: ls, c :: cs => by unfold setAll; rw [setAll_length, List.length_set]
theorem setAll_ne {n : Nat} : ∀ {Λ : Cells} {ls : List Nat} {cs : Cells}, n ∉ ls → (setAll Λ ls cs)[n]? = Λ[n]?
  | _, [], _, _ => by unfold setAll; rfl
  | _, _ :: _, [], _ => by unfold setAll; rfl
  | Λ, m :: ls, c :: cs, h => by
    simp only [List.mem_cons, not_or] at h
    unfold setAll; rw [setAll_ne h.2, List.getElem?_set_ne (fun e => h.1 e.symm)]
theorem setAll_at : ∀ {Λ : Cells} {ls : List Nat} {cs : Cells} {j n : Nat}, ls.Nodup → ls.length = cs.length → ls[j]? = some n → n < Λ.length → (setAll Λ ls cs)[n]? = cs[j]?
  | _, [], _, _, _, _, _, h, _ => by simp at h
  | _, _ :: _, [], _, _, _, e, _, _ => by simp at e
  | Λ, m :: ls, c :: cs, 0, n, nd, e, h, hl => by
    simp only [List.getElem?_cons_zero, Option.some.injEq] at h
    subst h
    unfold setAll
    rw [setAll_ne (List.nodup_cons.mp nd).1, List.getElem?_set_self hl]; rfl
  | Λ, m :: ls, c :: cs, j + 1, n, nd, e, h, hl => by
    simp only [List.getElem?_cons_succ] at h
    unfold setAll
    rw [setAll_at (List.nodup_cons.mp nd).2 (by simpa using e) h (by rw [List.length_set]; exact hl)]; rfl
structure Hand (Λ : Cells) (ls : List Nat) : Prop where
  nd : ls.Nodup
  lt : ∀ n ∈ ls, n < Λ.length
  pl : (cellsAt Λ ls).all nlC = true

section
variable {K : PySem.W.Frag} {F : Fm} {B B' : Hp} {α α' : List Addr} {Γ : Env} {Λ Λ' : Cells} {σ : L2.St} {H H' : Hp} {ls : List Nat}
def adsAt (α : List Addr) (ls : List Nat) : List Addr := ls.map fun n => (α[n]?).getD 0
theorem adsAt_get {j n : Nat} (h : ls[j]? = some n) (hn : n < α.length) : (adsAt α ls)[j]? = α[n]? := by
  unfold adsAt
  rw [List.getElem?_map, h]; simp [List.getElem?_eq_getElem hn]
theorem CellAt.nl {a : Addr} {c : Cell} (hp : nlC c = true) (h : CellAt K B α H a c) : CellAt K B α' H a c := by
  cases c with
  | lst ds => obtain ⟨vs, h1, h2⟩ := h; exact ⟨vs, h1, Reps.nl ds vs hp h2⟩
  | dic ks ds => obtain ⟨vs, h1, h2, h3⟩ := h; exact ⟨vs, h1, Reps.nl ds vs hp h2, h3⟩
  | ins C ns ds => obtain ⟨dx, vs, h1, h2, h3⟩ := h; exact ⟨dx, vs, h1, Reps.nl ds vs hp h2, h3⟩
  | gone => trivial
theorem Sat.ltα (S : Sat K F B α Γ Λ σ H) (hh : Hand Λ ls) : ∀ n ∈ ls, n < α.length := fun n hn => by rw [S.al]; exact hh.lt n hn
theorem adsAt_mem (hl : ∀ n ∈ ls, n < α.length) {a : Addr} (h : a ∈ adsAt α ls) : a ∈ α := by
  unfold adsAt at h
  obtain ⟨n, hn, e⟩ := List.mem_map.mp h
  rw [List.getElem?_eq_getElem (hl n hn)] at e
  have e : α[n]'(hl n hn) = a := e
  rw [← e]; exact List.getElem_mem _
theorem adsAt_nodup (nd : ls.Nodup) (nα : α.Nodup) (hl : ∀ n ∈ ls, n < α.length) : (adsAt α ls).Nodup := by
  unfold List.Nodup
  rw [List.pairwise_iff_getElem]
  intro i j hi hj hij e
  have hj' : j < ls.length := by unfold adsAt at hj; simpa using hj
  have hi' : i < ls.length := by omega
  have e1 : (adsAt α ls)[i]? = (adsAt α ls)[j]? := by rw [List.getElem?_eq_getElem hi, List.getElem?_eq_getElem hj, e]
  rw [adsAt_get (List.getElem?_eq_getElem hi') (hl _ (List.getElem_mem _)), adsAt_get (List.getElem?_eq_getElem hj') (hl _ (List.getElem_mem _))] at e1
  have e2 := (List.getElem?_inj (hl _ (List.getElem_mem hi')) nα).mp e1
  have e3 := (List.getElem_inj nd).mp e2
  omega
/-- the callee's entry -/
theorem Sat.enterC (S : Sat K F B α Γ Λ σ H) (hh : Hand Λ ls) : Sat K ⟨H, B, adsAt α ls⟩ B (adsAt α ls) [] (cellsAt Λ ls) [] H := by
  have hl := S.ltα hh
  refine ⟨Ex.refl B, S.bh, fun a o h => .inl h, fun a o h _ _ => h, fun a h => h, List.prefix_refl _, adsAt_nodup hh.nd S.nd hl, by simp [adsAt, cellsAt], fun j c h hg => ?_, fun a ha => ⟨(S.ah a (adsAt_mem hl ha)).1, .inr ha⟩, fun i d h => by simp at h, rfl, S.tb.start fun a ha => adsAt_mem hl ha⟩
  have hj : j < ls.length := by have := (List.getElem?_eq_some_iff.mp h).1; unfold cellsAt at this; simpa using this
  have hn := hl _ (List.getElem_mem hj)
  have hn' : ls[j] < Λ.length := by rw [← S.al]; exact hn
  have hc : Λ[ls[j]]? = some c := by
    unfold cellsAt at h
    rw [List.getElem?_map, List.getElem?_eq_getElem hj] at h
    simp only [Option.map_some, Option.some.injEq] at h
    rw [List.getElem?_eq_getElem hn'] at h ⊢
    exact congrArg some h
  have hp : nlC c = true := List.all_eq_true.mp hh.pl c (List.mem_of_getElem? h)
  obtain ⟨a, h1, h2, h3, h4⟩ := S.ce _ c hc hg
  have h5 : (adsAt α ls)[j]? = some a := by rw [adsAt_get (List.getElem?_eq_getElem hj) hn]; exact h1
  exact ⟨a, h5, h2, .inr (List.mem_of_getElem? h5), h4.nl hp⟩
/-- the addresses of the caller's cells behind the call -/
def adsB (α : List Addr) (ls : List Nat) (α' : List Addr) : List Addr := α ++ α'.drop ls.length
theorem Sat.backC (S : Sat K F B α Γ Λ σ H) (hh : Hand Λ ls) (T : Sat K ⟨H, B, adsAt α ls⟩ B' α' [] Λ' [] H') (hp : Λ'.all nlC = true) : Sat K F B' (adsB α ls α') Γ (putB Λ ls Λ') σ H' := by
  have hl := S.ltα hh
  obtain ⟨nw, hα'⟩ := T.pf
  have hla : (adsAt α ls).length = ls.length := by simp [adsAt]
  have hd : α'.drop ls.length = nw := by rw [← hα']; show (adsAt α ls ++ nw).drop _ = _; rw [List.drop_append, hla]; simp [List.drop_eq_nil_of_le, hla]
  have hα'' : α' = adsAt α ls ++ nw := hα'.symm
  have hlen : ls.length ≤ Λ'.length := by rw [← T.al, hα'']; simp [hla]
  have nwH : ∀ a ∈ nw, H a = none := fun a ha => by
    rcases (T.ah a (by rw [hα'']; exact List.mem_append_right _ ha)).2 with z | z
    · exact z
    · have nd := T.nd
      rw [hα'', List.nodup_append] at nd
      exact absurd rfl (nd.2.2 a z a ha)
  have hB : ∀ a, H a ≠ none → B a = none → B' a = none := fun a h1 h2 => by
    cases q : B' a with
    | none => rfl
    | some o =>
      rcases T.fr a o q with z | z
      · have : B a = some o := z
        rw [h2] at this; cases this
      · exact absurd z h1
  unfold adsB
  rw [hd]
  refine ⟨S.bb.trans T.bb, T.bh, fun a o h => ?_, fun a o h ha n => T.kp a o (S.kp a o h ha n) (fun hm => ?_) n, fun a h => S.dm a (T.dm a h), S.pf.trans (List.prefix_append _ _), ?_, ?_, fun n c h hg => ?_, fun a ha => ?_, fun i d h => ?_, S.ln, S.tb.back T.tb T.kp (fun a ha => pre_mem T.pf ha) fun a ha => ?_⟩
  · rcases T.fr a o h with z | z
    · exact S.fr a o z
    · exact .inr (S.dm a z)
  · rcases (S.ah a (adsAt_mem hl hm)).2 with z | z
    · rw [h] at z; cases z
    · exact ha z
  · rw [List.nodup_append]
    refine ⟨S.nd, ?_, fun a ha b hb e => ?_⟩
    · have nd := T.nd
      rw [hα'', List.nodup_append] at nd
      exact nd.2.1
    · subst e; exact (S.ah a ha).1 (nwH a hb)
  · unfold putB
    rw [List.length_append, List.length_append, setAll_length, List.length_drop, S.al, ← T.al, hα'', List.length_append, hla]; omega
  · unfold putB at h
    by_cases hn : n < Λ.length
    · rw [List.getElem?_append_left (by rw [setAll_length]; exact hn)] at h
      by_cases hm : n ∈ ls
      · obtain ⟨j, hj, ej⟩ := List.getElem_of_mem hm
        have ej' : ls[j]? = some n := by rw [List.getElem?_eq_getElem hj, ej]
        rw [setAll_at hh.nd (by rw [List.length_take]; omega) ej' hn] at h
        have h' : Λ'[j]? = some c := by rw [List.getElem?_take] at h; rw [if_pos hj] at h; exact h
        have pc : nlC c = true := List.all_eq_true.mp hp c (List.mem_of_getElem? h')
        obtain ⟨a, h1, h2, h3, h4⟩ := T.ce j c h' hg
        rw [hα'', List.getElem?_append_left (by rw [hla]; exact hj), adsAt_get ej' (hl n hm)] at h1
        exact ⟨a, pre_get (List.prefix_append _ _) h1, h2, (S.ah a (List.mem_of_getElem? h1)).2, h4.nl pc⟩
      · rw [setAll_ne hm] at h
        obtain ⟨a, h1, h2, h3, h4⟩ := S.ce n c h hg
        have hna : a ∉ adsAt α ls := fun q => by
          unfold adsAt at q
          obtain ⟨m, hm', e⟩ := List.mem_map.mp q
          rw [List.getElem?_eq_getElem (hl m hm')] at e
          have e : α[m]'(hl m hm') = a := e
          have hna' : n < α.length := by rw [S.al]; exact hn
          have : α[n]'hna' = a := by rw [List.getElem?_eq_getElem hna'] at h1; exact Option.some.inj h1
          have := (List.getElem_inj S.nd).mp (e.trans this.symm)
          subst this; exact hm hm'
        exact ⟨a, pre_get (List.prefix_append _ _) h1, hB a (S.ah a (List.mem_of_getElem? h1)).1 h2, h3, h4.mono T.bb (List.prefix_append _ _) fun o q n => T.kp a o q hna n⟩
    · rw [List.getElem?_append_right (by rw [setAll_length]; omega), setAll_length, List.getElem?_drop] at h
      have pc : nlC c = true := List.all_eq_true.mp hp c (List.mem_of_getElem? h)
      obtain ⟨a, h1, h2, h3, h4⟩ := T.ce _ c h hg
      rw [hα'', List.getElem?_append_right (by rw [hla]; omega), hla, show ls.length + (n - Λ.length) - ls.length = n - Λ.length by omega] at h1
      have ha := nwH a (List.mem_of_getElem? h1)
      refine ⟨a, ?_, h2, .inl (S.dm a ha), h4.nl pc⟩
      rw [List.getElem?_append_right (by rw [S.al]; omega), S.al]; exact h1
  · rcases List.mem_append.mp ha with z | z
    · exact ⟨fun q => (S.ah a z).1 (T.dm a q), (S.ah a z).2⟩
    · exact ⟨(T.ah a (by rw [hα'']; exact List.mem_append_right _ z)).1, .inl (S.dm a (nwH a z))⟩
  · obtain ⟨v, h1, h2⟩ := S.sl i d h
    exact ⟨v, h1, h2.mono T.bb (List.prefix_append _ _)⟩
  · rcases List.mem_append.mp ha with z | z
    · exact .inl z
    · exact .inr (by rw [hα'']; exact List.mem_append_right _ z)
/-- the callee's numbers, told by the caller -/
theorem backI (S : Sat K F B α Γ Λ σ H) (hh : Hand Λ ls) (T : Sat K ⟨H, B, adsAt α ls⟩ B' α' [] Λ' [] H') (n : Nat) (a : Addr) (h : α'[n]? = some a) : (adsB α ls α')[gI ls Λ.length n]? = some a := by
  have hl := S.ltα hh
  obtain ⟨nw, hα'⟩ := T.pf
  have hla : (adsAt α ls).length = ls.length := by simp [adsAt]
  have hα'' : α' = adsAt α ls ++ nw := hα'.symm
  unfold gI adsB
  by_cases hn : n < ls.length
  · rw [dif_pos hn]
    rw [hα'', List.getElem?_append_left (by rw [hla]; exact hn), adsAt_get (List.getElem?_eq_getElem hn) (hl _ (List.getElem_mem _))] at h
    exact pre_get (List.prefix_append _ _) h
  · rw [dif_neg hn, List.getElem?_append_right (by rw [S.al]; omega), S.al, List.getElem?_drop]
    rw [show ls.length + (Λ.length + (n - ls.length) - Λ.length) = n by omega]; exact h
theorem enterI (S : Sat K F B α Γ Λ σ H) (hh : Hand Λ ls) (n : Nat) (a : Addr) (hn : n < ls.length) (h : α[gI ls Λ.length n]? = some a) : (adsAt α ls)[n]? = some a := by
  unfold gI at h
  rw [dif_pos hn] at h
  rw [adsAt_get (List.getElem?_eq_getElem hn) (S.ltα hh _ (List.getElem_mem _))]; exact h
end
mutual
theorem ltD_of {K : PySem.W.Frag} {B : Hp} {α : List Addr} : ∀ {d : D} {v : V}, Rep K B α d v → ltD α.length d = true
  | .non, _, _ => rfl
  | .bl _, _, _ => rfl
  | .int _, _, _ => rfl
  | .str _, _, _ => rfl
  | .raw _, _, _ => rfl
  | .loc n, v, h => by
    unfold Rep at h
    obtain ⟨a, _, h1⟩ := h
    exact decide_eq_true (List.getElem?_eq_some_iff.mp h1).1
  | .tup ds, v, h => by
    unfold Rep at h
    obtain ⟨a, vs, _, _, h2⟩ := h
    exact ltDs_of (ds := ds) h2
  | .lst ds, v, h => by
    unfold Rep at h
    obtain ⟨a, vs, _, _, h2⟩ := h
    exact ltDs_of (ds := ds) h2
  | .fzl ds, v, h => by
    unfold Rep at h
    obtain ⟨a, vs, _, _, h2⟩ := h
    exact ltDs_of (ds := ds) h2
  | .ins C ns ds, v, h => by
    unfold Rep at h
    obtain ⟨a, dx, vs, _, _, h2, _⟩ := h
    exact ltDs_of (ds := ds) h2
  | .dic ks ds, v, h => by
    unfold Rep at h
    obtain ⟨a, vs, _, _, h2, _⟩ := h
    exact ltDs_of (ds := ds) h2
  | .exc C ns ds, v, h => by
    unfold Rep at h
    obtain ⟨a, d, vs, _, _, h2, _⟩ := h
    exact ltDs_of (ds := ds) h2
theorem ltDs_of {K : PySem.W.Frag} {B : Hp} {α : List Addr} : ∀ {ds : List D} {vs : List V}, Reps K B α ds vs → ltDs α.length ds = true
  | [], _, _ => rfl
  | d :: ds, vs, h => by
    unfold Reps at h
    obtain ⟨v, r, rfl, h1, h2⟩ := h
    show (ltD _ d && ltDs _ ds) = true
    rw [ltD_of h1, ltDs_of h2]; rfl
end
section
variable {C : Ctx} {E : ER} {Γ : Env} {Λ : Cells} {pos p : Pos}
/-- what the callee wants of the caller -/
theorem call_spC {F : Fm} {W : WX} {B : Hp} {α : List Addr} {σ : L2.St} {H : Hp} {ds ds' : List D} {vs : List V} {n : Nat} {S : Spec} {Q : VK} {Pr : Res → Cells → Prop} {E' : ER} {ls : List Nat} (T : Sat C.K F B α Γ Λ σ H) (r : Reps C.K B α ds vs) (hh : Hand Λ ls)
    (he : ds = rens (gI ls Λ.length) ds') (hlt : ltDs ls.length ds' = true) (hl : ds'.length = n)
    (h : S ds' (cellsAt Λ ls) (fun r Λ' => Λ'.all nlC = true ∧ Pr r (putB Λ ls Λ')) fun err Λ' => Λ'.all nlC = true ∧ nlE err = true ∧ E' err Γ (putB Λ ls Λ'))
    (mono : ∀ Q Q' E E', S ds' (cellsAt Λ ls) Q E → (∀ r Λ', Q r Λ' → Q' r Λ') → (∀ e Λ', E e Λ' → E' e Λ') → S ds' (cellsAt Λ ls) Q' E')
    (er : ErOk C.K F W B σ Γ E')
    (q : ∀ r v Λ' B' α' α'' H', Pr r Λ' → Sat C.K F B' α' Γ Λ' σ H' → Ex B B' → α <+: α' → ResAt C.K ⟨H, B, adsAt α ls⟩ B' α'' H' v r → (∀ (n : Nat) (a : Addr), α''[n]? = some a → α'[gI ls Λ.length n]? = some a) → (∀ a ∈ α', a ∈ α'' ∨ H a ≠ none) → Q v H') : spOf C.K n S (vs ++ []) H Q fun c dx H' => W c dx σ H' := by
  refine ⟨⟨H, B, adsAt α ls⟩, ds', cellsAt Λ ls, by rw [List.append_nil, r.length, he, rens_length, hl], rfl, T.enterC hh, ?_, mono _ _ _ _ h (fun r Λ' p v H' B' α' T' ra => ?_) fun err Λ' p B' α' H' c dx T' ea => ?_⟩
  · rw [List.append_nil]; rw [he] at r
    exact Reps.unren (fun n a hn h => enterI T hh n a hn h) ds' vs hlt r
  · obtain ⟨p1, p2⟩ := p
    refine q r v _ B' _ α' H' p2 (T.backC hh T' p1) T'.bb (List.prefix_append _ _) ra (backI T hh T') fun a ha => ?_
    rcases List.mem_append.mp ha with z | z
    · exact .inr (T.ah a z).1
    · exact .inl (List.mem_of_mem_drop z)
  · obtain ⟨p1, p2, p3⟩ := p
    refine er err _ B' _ H' c dx p3 (T.backC hh T' p1) T'.bb ?_
    obtain ⟨e1, e2⟩ := ea
    refine ⟨e1, ?_⟩
    unfold nlE at p2
    cases hf : err.fs with
    | none => rw [hf] at e2; exact e2
    | some z =>
      obtain ⟨ns, es⟩ := z
      rw [hf] at e2 p2
      obtain ⟨a, vs, q1, q2, q3, q4, q5⟩ := e2
      exact ⟨a, vs, q1, q2, Reps.nl es vs p2 q3, q4, fun z => have h : H a = none := (q5 z).1; ⟨T.dm a h, fun hm => (List.mem_append.mp hm).elim (fun y => (T.ah a y).1 h) fun y => (q5 z).2 (List.mem_of_mem_drop y)⟩⟩
/-- how a call with cells is told: the cells handed, the callee's arguments -/
def CallC (n : Nat) (S : Spec) (E : ER) (Γ : Env) (Λ1 : Cells) (ds : List D) (Pr : Res → Cells → Prop) : Prop :=
  ∃ ls ds', Hand Λ1 ls ∧ ds = rens (gI ls Λ1.length) ds' ∧ ltDs ls.length ds' = true ∧ ds'.length = n ∧ S ds' (cellsAt Λ1 ls) (fun r Λ' => Λ'.all nlC = true ∧ (match r with | .val d => Pr (.val (ren (gI ls Λ1.length) d)) (putB Λ1 ls Λ') | .new ds => nls ds = true ∧ Pr (.new ds) (putB Λ1 ls Λ')))
    fun err Λ' => Λ'.all nlC = true ∧ nlE err = true ∧ E err Γ (putB Λ1 ls Λ')
theorem callC [Cool C] {k n : Nat} {x : Str} {S : Spec} {es : List Expr} {e : Expr} {Pr : Res → Cells → Prop} (G : C.fn k x n S) (hk : k ≤ C.k) (hj : GlAt C x) (m : Mono S)
    (h : WA C E Γ Λ (e :: es) fun ds Λ1 => CallC n S E Γ Λ1 ds Pr)
    (he : plainE e = true) (hes : es.all plainE = true) (hdb : (x == ("__debug__" : Str)) = false) : ∀ X F W, C.Is X → Takes X W → PE X (.Call (.Name x p) (e :: es) [] pos) fun σ H Q => ∃ B α, Sat C.K F B α Γ Λ σ H ∧
      (∀ r v Λ' B' α' H', Pr r Λ' → Sat C.K F B' α' Γ Λ' σ H' → Ex B B' → α <+: α' → (match r with | .val d => Rep C.K B' α' d v | .new ds => ∃ p vs, v = .ref p ∧ H' p = some (.lst vs) ∧ B' p = none ∧ F.H0 p = none ∧ p ∉ α' ∧ Reps C.K B' α' ds vs) → Q v H') ∧ ErOk C.K F W B σ Γ E := fun X F W is tk => by
  obtain ⟨f, fd, ps, h1, h2, h3, h4, h5⟩ := G.ex
  have e1 := is.prog; have e2 := is.w; have e3 := is.K; have e4 := is.mg; have e5 := is.base
  refine pe_imp (pe_callSDG (E := fun σ c dx H' => W c dx σ H') (dvs := []) (ds := []) (by rw [e1, e2, e3, e4, e5]; exact h1) (is.room.mono hk) (is.gl hj) (by rw [e4]; exact h2) (by rw [e3]; exact h3) (by rw [e3]; exact h4) .nil
    (fun σ => by rw [← e1, ← e2]; exact passAt tk σ) pa_U hdb (star_plain he) (back_plain hes)) fun σ H Q ⟨B, α, T, q, er⟩ => ?_
  refine WA.use h is tk T er fun ds Λ1 vs B1 α1 H1 p1 T1 x1 f1 r1 => ?_
  obtain ⟨ls, ds', hh, he', hlt, hl, s1⟩ := p1
  refine call_spC (Pr := fun r Λ' => match r with | .val d => Pr (.val (ren (gI ls Λ1.length) d)) Λ' | .new ds => nls ds = true ∧ Pr (.new ds) Λ') T1 r1 hh he' hlt hl (m _ _ _ _ _ _ s1 (fun r Λ' p => ?_) fun e Λ' p => p) (m _ _) (er.mono x1) fun r v Λ' B' α' α'' H' p' T' x' f' ra gi gn => ?_
  · refine ⟨p.1, ?_⟩
    have p2 := p.2
    cases r with
    | val d => exact p2
    | new ds => exact p2
  · cases r with
    | val d =>
      refine q (.val (ren (gI ls Λ1.length) d)) v Λ' B' α' H' p' T' (x1.trans x') (f1.trans f') ?_
      exact Rep.ren (m := α''.length) (fun n a _ hn => gi n a hn) d v (ltD_of ra) ra
    | new ds =>
      obtain ⟨pa, ws, rfl, q1, q2, q3, q4, q5⟩ := ra
      have q3 : H1 pa = none := q3
      refine q (.new ds) _ Λ' B' α' H' p'.2 T' (x1.trans x') (f1.trans f') ⟨pa, ws, rfl, q1, q2, T1.dm pa q3, fun hm => ?_, Reps.nl ds ws p'.1 q5⟩
      rcases gn pa hm with z | z
      · exact q4 z
      · exact z q3
/-- f(e, ..) with cells: a value -/
theorem we_callc [Cool C] {k n : Nat} {x : Str} {S : Spec} {e : Expr} {es : List Expr} {P : D → Cells → Prop} (G : C.fn k x n S) (hk : k ≤ C.k) (hj : GlAt C x) (m : Mono S)
    (h : WA C E Γ Λ (e :: es) fun ds Λ1 => CallC n S E Γ Λ1 ds fun r Λ' => ∃ d, r = .val d ∧ P d Λ')
    (he : plainE e = true := by rfl) (hes : es.all plainE = true := by rfl) (hdb : (x == ("__debug__" : Str)) = false := by decide) : WE C E Γ Λ (.Call (.Name x p) (e :: es) [] pos) P := fun X F W is tk =>
  pe_imp (callC G hk hj m h he hes hdb X F W is tk) fun σ H Q ⟨B, α, T, q, er⟩ => ⟨B, α, T, fun r v Λ' B' α' H' ⟨d, hr, p⟩ T' x f ra => by subst hr; exact q d Λ' v B' α' H' p T' x f ra, er⟩
end

/-! ### a def that hands back new cells -/
/-- what a def's body is to reach: m cells are left, the rest is thrown away -/
def rtY (Λ0 : Cells) (Q : Res → Cells → Prop) (r : Res) (Λ' : Cells) : Prop := ∃ m, Λ0.length ≤ m ∧ (Λ'.take m).all nlC = true ∧ ((match r with | .val d => ltD m d = true | .new ds => nls ds = true) ∧ Q r (Λ'.take m) ∨ (∃ n ds, m ≤ n ∧ r = .val (.loc n) ∧ Λ'[n]? = some (.lst ds) ∧ nls ds = true ∧ Q (.new ds) (Λ'.take m)) ∨ ∃ n ks ds, m ≤ n ∧ r = .val (.loc n) ∧ Λ'[n]? = some (.dic ks ds) ∧ nls ds = true ∧ Q (.val (.dic ks ds)) (Λ'.take m))
end Pl
namespace Pl
open PySem L2 PyProof.Rows
theorem reps_take {K : PySem.W.Frag} {B : Hp} {α : List Addr} {m : Nat} {d : D} {v : V} (h : ltD m d = true) (r : Rep K B α d v) : Rep K B (α.take m) d v := by
  have := Rep.ren (α' := α.take m) (f := fun n => n) (m := m) (fun n a hn e => by rw [List.getElem?_take, if_pos hn]; exact e) d v h r
  rw [id_ren] at this; exact this
/-- THE RULE, with cells: a def of the module keeps its promise, by its body -/
theorem fn_okC {P : Program} {w : World} {K : PySem.W.Frag} {mg : Str → Option Value} {base : Heap} {x qual : Str} {st : Stmt} {f : Addr} {fd : FuncData} {N ps : List Str} {k : Nat} {S : Spec} (F : Fun K x qual st f fd) (sc : FnScope N ps (defScope st)) (C : Ctx)
    (hC : C.P = P ∧ C.w = w ∧ C.K = K ∧ C.mg = mg ∧ C.base = base ∧ C.N = N ∧ C.sc = defScope st ∧ C.k = k) (good : C.Good) (hm : ∀ ds Λ Q E, S ds Λ Q E → Λ.length ≤ C.m)
    (hb : ∀ ds Λ Q E, ds.length = ps.length → S ds Λ Q E → WSs C (Γ0 N ds) Λ (defBody st) ⟨fun _ Λ' => rtY Λ Q (.val .non) Λ', rtY Λ Q, fun _ _ => False, fun _ _ => False, erX Λ E⟩) (hcd : ∀ q c, C.cd = some (q, c) → qual ++ ".<locals>." = q ∧ fd.code = .ref c := by intro _ _ h; cases h) : FnG P w K mg base (L2.CX P w) (k + 1) f fd ps (spOf K ps.length S) := by
  obtain ⟨rfl, rfl, rfl, rfl, rfl, rfl, hsc, rfl⟩ := hC
  refine F.okXG sc (fun vs H Q E h => by obtain ⟨_, _, _, h, _⟩ := h; exact h) fun cdv A outer s H vs Q E ecd hr h => ?_
  obtain ⟨Fm', ds, Λ, hl, hH, T, r, sp⟩ := h
  have hds : ds.length = ps.length := by rw [← r.length]; exact hl
  have hN : ps.length ≤ C.N.length := by have := congrArg List.length sc.pre; rw [List.length_take] at this; omega
  let X := cxOf (L2.CX C.P C.w) C.P C.w C.K C.mg C.base C.N qual (defScope st) f cdv A outer s H E
  have is : C.Is X := ⟨rfl, rfl, rfl, rfl, rfl, rfl, hsc.symm, fun _ => rfl, fun _ => hr.hd, hr.w, fun _ _ _ _ => .inl rfl, good, passes_of rfl, fun _ => ⟨rfl, rfl, rfl⟩, fun q c e => ⟨(hcd q c e).1, ecd.symm.trans (hcd q c e).2⟩⟩
  have tk : Takes X (fun c d _ H => E c d H) := takes_of rfl rfl rfl rfl
  have T' : Sat C.K Fm' Fm'.B0 Fm'.α0 (Γ0 C.N ds) Λ (L2.start C.N vs) H := by
    refine T.env ?_ fun i d hi => ?_
    · unfold Γ0 L2.start
      simp only [List.length_append, List.length_map, List.length_replicate]
      omega
    · unfold Γ0 at hi
      by_cases hlt : i < ds.length
      · rw [List.getElem?_append_left (by simpa using hlt), List.getElem?_map] at hi
        cases q : ds[i]? with
        | none => rw [q] at hi; cases hi
        | some e =>
          rw [q] at hi
          cases hi
          obtain ⟨v, h1, h2⟩ := r.get q
          refine ⟨v, ?_, h2⟩
          unfold L2.start
          rw [List.getElem?_append_left (by have := (List.getElem?_eq_some_iff.mp h1).1; simpa using this), List.getElem?_map, h1]
          rfl
      · rw [List.getElem?_append_right (by simpa using hlt), List.getElem?_replicate] at hi
        split at hi <;> cases hi
  have hlen : Fm'.α0.length = Λ.length := T.al
  have cut : ∀ {m : Nat} {Γ' : Env} {Λ' : Cells} {B' : Hp} {α' : List Addr} {σ' : L2.St} {H' : Hp}, Λ.length ≤ m → Sat C.K Fm' B' α' Γ' Λ' σ' H' → (Λ'.take m).all nlC = true → Sat C.K Fm' B' (α'.take m) [] (Λ'.take m) [] H' := fun hm S' h =>
    S'.cut (by omega) (all_nlC h) rfl fun i d h => by simp at h
  refine ⟨_, hb ds Λ _ _ hds sp X Fm' _ is (by rw [T.al]; exact hm _ _ _ _ sp) tk, Fm'.B0, Fm'.α0, T', ⟨fun Γ' Λ' B' α' σ' H' h S' e => ?_, fun r Λ' v Γ' B' α' σ' H' h S' e ra => ?_, fun Γ' Λ' B' α' σ' H' h => h.elim, fun Γ' Λ' B' α' σ' H' h => h.elim, fun err Γ' Λ' B' α' σ' H' c dx h S' e ea => ?_⟩⟩
  · obtain ⟨m, hm1, h2, ⟨h1, h3⟩ | ⟨n, ds, _, e, _⟩ | ⟨n, ks, ds, _, e, _⟩⟩ := h
    · exact h3 .non H' B' _ (cut hm1 S' h2) (by unfold ResAt Rep; rfl)
    · cases e
    · cases e
  · have far : ∀ {m n : Nat} {a : Addr}, m ≤ n → α'[n]? = some a → a ∉ α'.take m := fun {m n a} hk ha hm => by
      have hna : n < α'.length := (List.getElem?_eq_some_iff.mp ha).1
      obtain ⟨j, hj, ej⟩ := List.getElem_of_mem hm
      rw [List.getElem_take] at ej
      rw [List.length_take] at hj
      have e1 : α'[j]? = some a := by rw [List.getElem?_eq_getElem (by omega), ej]
      have := (List.getElem?_inj (by omega) S'.nd).mp (e1.trans ha.symm)
      omega
    have fresh : ∀ {m n : Nat} {a : Addr}, Λ.length ≤ m → m ≤ n → α'[n]? = some a → (Fm'.H0 a = none ∨ a ∈ Fm'.α0) → Fm'.H0 a = none := fun {m n a} hm1 hn ha q3 => by
      rcases q3 with z | z
      · exact z
      · exfalso
        obtain ⟨t, ht⟩ := S'.pf
        apply far (m := Fm'.α0.length) (by omega) ha
        rw [← ht, List.take_append_of_le_length (Nat.le_refl _), List.take_length]
        exact z
    obtain ⟨m, hm1, h2, ⟨h1, h3⟩ | ⟨n, ds, hn, e, hc, hds, h3⟩ | ⟨n, ks, ds, hn, e, hc, hds, h3⟩⟩ := h
    · refine h3 v H' B' _ (cut hm1 S' h2) ?_
      cases r with
      | val d => exact reps_take h1 ra
      | new ds =>
        obtain ⟨p, vs, q1, q2, q3, q4, q5, q6⟩ := ra
        exact ⟨p, vs, q1, q2, q3, q4, fun hm => q5 (List.mem_of_mem_take hm), Reps.nl ds vs h1 q6⟩
    · subst e
      refine h3 v H' B' _ (cut hm1 S' h2) ?_
      unfold ResAt Rep at ra
      obtain ⟨a, rfl, ha⟩ := ra
      obtain ⟨a', q1, q2, q3, vs, q4, q5⟩ := S'.ce n _ hc (by simp)
      rw [ha] at q1; cases q1
      exact ⟨a, vs, rfl, q4, q2, fresh hm1 hn ha q3, far hn ha, Reps.nl ds vs hds q5⟩
    · subst e
      unfold ResAt Rep at ra
      obtain ⟨a, rfl, ha⟩ := ra
      obtain ⟨a', q1, q2, q3, vs, q4, q5, q6⟩ := S'.ce n _ hc (by simp)
      rw [ha] at q1; cases q1
      have S2 := (cut hm1 S' h2).see q4 q2 (fresh hm1 hn ha q3) (far hn ha)
      refine h3 (.ref a) H' _ _ S2 ?_
      have hx : Ex B' (upd B' a (.dK (ks.zip vs))) := Ex.new q2
      show Rep _ _ _ (.dic ks ds) _
      unfold Rep
      exact ⟨a, vs, rfl, .inl upd_same, (Reps.nl ds vs hds q5).mono hx (List.prefix_refl _), q6⟩
  · obtain ⟨h1, h2, h3⟩ := h
    refine h3 B' _ H' c dx (cut (Nat.le_refl _) S' h2) ?_
    obtain ⟨e1, e2⟩ := ea
    refine ⟨e1, ?_⟩
    unfold nlE at h1
    cases hf : err.fs with
    | none => rw [hf] at e2; exact e2
    | some z =>
      obtain ⟨ns, ds⟩ := z
      rw [hf] at e2 h1
      obtain ⟨a, vs, q1, q2, q3, q4, q5⟩ := e2
      exact ⟨a, vs, q1, q2, Reps.nl ds vs h1 q3, q4, fun z => ⟨(q5 z).1, fun hm => (q5 z).2 (List.mem_of_mem_take hm)⟩⟩
theorem def_okC {G : Gl} {x : Str} {st : Stmt} {ps : List Str} {qn : Str} (h : DefAt G.K G.mg x st ps qn) {N : List Str} {vs ls : List Bool} {gl : List Str} {k m : Nat} {S : Spec} (sc : FnScope N ps (defScope st)) (good : goodC N (defScope st) vs ls gl = true)
    (hm : ∀ ds Λ Q E, S ds Λ Q E → Λ.length ≤ m)
    (hb : ∀ ds Λ Q E, ds.length = ps.length → S ds Λ Q E → WSs (G.cx N (defScope st) vs ls gl k m) (Γ0 N ds) Λ (defBody st) ⟨fun _ Λ' => rtY Λ Q (.val .non) Λ', rtY Λ Q, fun _ _ => False, fun _ _ => False, erX Λ E⟩) : G.fn (k + 1) x ps.length S :=
  h.fn fun f fd F => fn_okC F sc (G.cx N (defScope st) vs ls gl k m) ⟨rfl, rfl, rfl, rfl, rfl, rfl, rfl, rfl⟩ (good_by good) hm hb
end Pl

/-! Pl12: the promises of defs in one form, and more steps of data -/
namespace Pl
open PySem L2 PyProof.Rows
section
variable {C : Ctx} {E : ER} {Γ : Env} {Λ : Cells} {pos p : Pos} {β : Type} {A : β → List D} {ok : β → Prop} {R : β → Res → Prop}
end
/-! ### lists of data -/
end Pl
namespace Pl
open PySem L2 PyProof.Rows
/-! ### what stands there: for the driver -/
section
variable {C : Ctx} {E : ER} {Γ : Env} {Λ : Cells}
end
end Pl
namespace Pl
open PySem L2 PyProof.Rows
/-! ### slices of any kind -/
def slP (Λ : Cells) (x : D) (l u : Option Int) (P : D → Prop) : Prop := match x with
  | .str s => s.length ≤ sizeLine ∧ P (.str (cutS s l u))
  | .tup ds => P (.tup (cutD ds l u))
  | x => ∃ ds, lstD Λ x = some ds ∧ P (.lst (cutD ds l u))
section
variable {C : Ctx} {E : ER} {Γ : Env} {Λ : Cells} {P : D → Cells → Prop} {a : Expr} {pos : Pos}
theorem cutD_whole {ds : List D} {l u : Option Int} (h : HT.sIx ds.length 0 l = 0 ∧ HT.sIx ds.length ds.length u = ds.length) : cutD ds l u = ds := by
  unfold cutD; rw [h.1, h.2]; simp
theorem we_sl {lo hi : Option Expr} {p2 : Pos} (h : WE C E Γ Λ a fun x Λ1 => WO C E Γ Λ1 lo fun l Λ2 => WO C E Γ Λ2 hi fun u Λ3 => slP Λ3 x l u fun d => P d Λ3) : WE C E Γ Λ (.Subscript a (.Slice lo hi none p2) pos) P := fun X F W is tk => by
  refine pe_imp (pe_slice (sl_list.or (sl_tupX.or sl_str)) pe_U po_U po_U) fun σ H Q ⟨B, α, S, q, er⟩ => ?_
  refine WE.use h is tk S er fun x Λ1 vx B1 α1 H1 p1 S1 e1 f1 r1 => ?_
  refine WO.use p1 is tk S1 (er.mono e1) fun l Λ2 B2 α2 H2 p2 S2 e2 f2 => ?_
  refine WO.use p2 is tk S2 (er.mono (e1.trans e2)) fun u Λ3 B3 α3 H3 p3 S3 e3 f3 => ?_
  have r3 := r1.mono (e2.trans e3) (f2.trans f3)
  unfold slP at p3
  split at p3
  · obtain ⟨hs, p⟩ := p3
    unfold Rep at r3
    exact .inr (.inr ⟨_, r3, hs, q _ Λ3 _ B3 α3 H3 p S3 ((e1.trans e2).trans e3) ((f1.trans f2).trans f3) (by unfold Rep; rfl)⟩)
  · rename_i ds
    unfold Rep at r3
    obtain ⟨p', vs, rfl, h1, h2⟩ := r3
    refine .inr (.inl ⟨p', vs, rfl, by rw [is.K]; exact S3.bh.sqT h1.1, fun hw => ?_, fun hw t its ht => ?_⟩)
    · rw [h2.length] at hw
      rw [cutD_whole hw] at p3
      exact q _ Λ3 _ B3 α3 H3 p3 S3 ((e1.trans e2).trans e3) ((f1.trans f2).trans f3) (by unfold Rep; exact ⟨p', vs, rfl, h1, h2⟩)
    · have hx : Ex B3 (upd B3 t (.frz (tupO its) (.tup (cutV vs l u)))) := Ex.new (S3.bh.back ht)
      refine q _ Λ3 _ (upd B3 t (.frz (tupO its) (.tup (cutV vs l u)))) α3 _ p3 (S3.lay ht) (((e1.trans e2).trans e3).trans hx) ((f1.trans f2).trans f3) ?_
      show Rep C.K _ α3 (.tup _) (.ref t)
      unfold Rep
      exact ⟨t, _, rfl, SqX.new upd_same, (h2.cut l u).mono hx (List.prefix_refl _)⟩
  · obtain ⟨ds, hs, p⟩ := p3
    obtain ⟨p', vs, rfl, h1, h2⟩ := S3.seqL r3 hs
    refine .inl ⟨p', vs, rfl, by rw [is.K]; exact h1, fun t ht => ?_⟩
    have hx : Ex B3 (upd B3 t (.lst (cutV vs l u))) := Ex.new (S3.bh.back ht)
    refine q _ Λ3 _ (upd B3 t (.lst (cutV vs l u))) α3 _ p (S3.lay ht) (((e1.trans e2).trans e3).trans hx) ((f1.trans f2).trans f3) ?_
    show Rep C.K _ α3 (.lst _) (.ref t)
    unfold Rep
    exact ⟨t, _, rfl, upd_same, (h2.cut l u).mono hx (List.prefix_refl _)⟩
theorem slP_tup {x : D} {ds : List D} {l u : Option Int} {P : D → Prop} (hx : x = .tup ds) (h : P (.tup (cutD ds l u))) : slP Λ x l u P := by subst hx; exact h
theorem slP_str {s : Str} {l u : Option Int} {P : D → Prop} (hs : s.length ≤ sizeLine) (h : P (.str (cutS s l u))) : slP Λ (.str s) l u P := ⟨hs, h⟩
theorem slP_lst {x : D} {ds : List D} {l u : Option Int} {P : D → Prop} (hx : lstD Λ x = some ds) (h : P (.lst (cutD ds l u))) : slP Λ x l u P := by
  unfold slP
  split
  · simp only [lstD, vw] at hx; cases hx
  · simp only [lstD, vw] at hx; cases hx
  · exact ⟨ds, hx, h⟩
end
end Pl
namespace Pl
open PySem L2 PyProof.Rows
theorem good_blk {C : Ctx} {scope : Scope} {vs ls : List Bool} {gl : List Str} (h : goodC C.N (relS scope C.sc) vs ls gl = true) : (C.blk scope vs ls gl).Good := good_by h
theorem rv {d : D} {P : D → Prop} (h : P d) : ∃ d', Res.val d = .val d' ∧ P d' := ⟨d, rfl, h⟩
end Pl
namespace Pl
open PySem L2 PyProof.Rows
/-! ### loops by the turn's number -/
section
variable {C : Ctx} {Γ : Env} {Λ : Cells} {tg : Expr} {ws : List Nat} {R : Rs} {body : List Stmt}
theorem sz_ltt {n : Nat} (h : n < 10000000) : n < sizeLine := by rw [sizeLine_eq]; omega
end
/-! ### a cell that is a stack -/
section
variable {β : Type} {f : β → D} {st : List β} {y : β}
end
end Pl
namespace Pl
open PySem L2 PyProof.Rows
section
variable {f : Int → Int → D} {i j : Int} {P : D → Prop}
end
end Pl
namespace Pl
open PySem L2 PyProof.Rows
/-! ### guards of the driver's rows -/
section
variable {C : Ctx} {E : ER} {Γ : Env} {Λ : Cells}
theorem wgs_cons1 {e : Expr} {es : List Expr} {d : D} {ds : List D} {v : Nat} {ws : List Nat} {P : Env → Prop} (h : WG C Γ Λ e d [v] fun Γ' => WGs C Γ' Λ es ds ws P) (he : plainT e = true := by rfl) : WGs C Γ Λ (e :: es) (d :: ds) (v :: ws) P := wgs_cons h he
end
section
variable {Λ : Cells} {P : D → Prop} {f : Int → Int → D} {x y : D}
end
end Pl
namespace Pl
open PySem L2 PyProof.Rows
end Pl
namespace Pl
open PySem L2 PyProof.Rows
/-- the law's own def: True for every script -/
theorem law_ok {G : Gl} {x p : Str} {st : Stmt} {N : List Str} {vs ls : List Bool} {gl : List Str} {k n : Nat} {f : Addr} {fd : FuncData} (F : Fun G.K x x st f fd) (sc : FnScope N [p] (defScope st)) (good : goodC N (defScope st) vs ls gl = true)
    (hb : ∀ ns : List Int, ns.length ≤ n → WSs (G.cx N (defScope st) vs ls gl k 0) (Γ0 N [.fzl (ns.map .int)]) [] (defBody st) ⟨fun _ _ => False, fun r _ => r = .val (.bl true), fun _ _ => False, fun _ _ => False, ER.none⟩) : FnG G.P G.w G.K G.mg G.base (L2.CX G.P G.w) (k + 1) f fd [p] (spOf G.K 1 (lawSpec n)) :=
  fn_ok (ps := [p]) (S := lawSpec n) F sc (G.cx N (defScope st) vs ls gl k 0) ⟨rfl, rfl, rfl, rfl, rfl, rfl, rfl, rfl⟩ (good_by good) (fun ds Λ Q E h => by obtain ⟨_, _, _, rfl, _⟩ := h; exact Nat.le_refl _) fun ds Λ Q E hl ⟨ns, h1, h2, h3, h4⟩ => by
    subst h2; subst h3
    refine wss_mono (hb ns h1) ⟨fun _ _ z => z.elim, fun r Λ e => ?_, fun _ _ z => z, fun _ _ z => z, fun _ _ _ z => z.elim⟩
    have e : r = .val (.bl true) := e
    subst e
    exact ⟨rfl, by rw [List.length_nil, List.take_zero]; exact ⟨rfl, h4⟩⟩
end Pl
namespace Pl
open PySem L2 PyProof.Rows
@[reducible] def frOf {K : PySem.W.Frag} {h : Heap} (_ : K.In h) : PySem.W.Frag := K
end Pl

/-! Pl13: more operations -/
namespace Pl
open PySem L2 PyProof.Rows
section
variable {C : Ctx} {E : ER} {Γ : Env} {Λ : Cells} {a b : Expr} {pos : Pos}
/-- is None, is True, is False -/
def isP (x y : D) (P : Bool → Prop) : Prop := match y with
  | .non => ∃ c, isN x = some c ∧ P c
  | .bl b => ∃ a, x = .bl a ∧ P (decide (a = b))
  | _ => False
end
/-! lists of things of one kind -/
section
variable {β : Type} {f : β → D}
end
theorem bl_eqv (a b : Bool) : PyData.eqv (py (.bl a)) (py (.bl b)) = decide (a = b) := by cases a <;> cases b <;> rfl
end Pl
namespace Pl
open PySem L2 PyProof.Rows
end Pl
namespace Pl
open PySem L2 PyProof.Rows
end Pl
namespace Pl
open PySem L2 PyProof.Rows
end Pl
namespace Pl
open PySem L2 PyProof.Rows
end Pl

/-! Pl14: dicts -/
namespace Pl
open PySem L2 PyProof.Rows
/-! ### a dict of the module -/
section
variable {C : Ctx} {E : ER} {Γ : Env} {Λ : Cells} {P : D → Cells → Prop} {pos p : Pos} {e : Expr}
end

/-! ### displays -/
def trU (X : Cx) : List Str → List Expr → List (TE × TE)
  | k :: ks, v :: vs => (tC (.str k), UE X v) :: trU X ks vs
  | _, _ => []
section
variable {C : Ctx} {E : ER} {Γ : Env} {Λ : Cells} {pos : Pos} {X : Cx} {W : WX}
end
end Pl
namespace Pl
open PySem L2 PyProof.Rows
section
variable {C : Ctx} {E : ER} {Γ : Env} {Λ : Cells} {pos : Pos}
end
end Pl
namespace Pl
open PySem L2 PyProof.Rows
end Pl
namespace Pl
open PySem L2 PyProof.Rows
section
variable {C : Ctx} {Γ : Env} {Λ : Cells} {tg elt : Expr} {ws : List Nat} {P : List D → Prop} {acc : List D}
end
end Pl

/-! Pl15: dicts that are owned, copied, asked, held against one another -/
namespace Pl
open PySem L2 PyProof.Rows
section
variable {C : Ctx} {E : ER} {Γ : Env} {Λ : Cells} {P : D → Cells → Prop} {pos pos' p apos cpos : Pos} {e o i f : Expr}
/-- {}, owned -/
theorem we_dnewO (h : P (.loc Λ.length) (Λ ++ [.dic [] []])) : WE C E Γ Λ (.Dict [] [] pos) P := fun X F W is tk => by
  refine pe_imp pe_dnewK fun σ H Q ⟨B, α, S, q, er⟩ => ?_
  intro t ht
  have S' := S.own (c := .dic [] []) ht (Ex.new (o := .dK []) ht) (by rw [upd_same]; simp) fun α' _ => ⟨[], upd_same, .nil, rfl⟩
  refine q _ _ _ B _ _ h S' (Ex.refl B) (List.prefix_append _ _) ?_
  show Rep C.K _ _ (.loc _) (.ref t)
  unfold Rep
  exact ⟨t, rfl, by rw [← S.al, List.getElem?_append_right (Nat.le_refl _), Nat.sub_self]; rfl⟩
end
/-! ### d[k] = v -/
def hasK (ks : List Key) (k : Key) : Bool := ks.any fun x => decide (x = k)
def putKs (ks : List Key) (k : Key) : List Key := if hasK ks k = true then ks else ks ++ [k]
def putDs {β : Type} (ks : List Key) (ds : List β) (k : Key) (d : β) : List β := if hasK ks k = true then (ks.zip ds).map (fun q => if q.1 = k then d else q.2) else ds ++ [d]
theorem any_mem {β : Type} {k : Key} : ∀ {ks : List Key} {vs : List β}, ks.length = vs.length → ((ks.zip vs).any fun kv => decide (kv.1 = k)) = hasK ks k
  | [], _, _ => rfl
  | _ :: _, [], h => by simp at h
  | a :: ks, v :: vs, h => by
    have ih := any_mem (k := k) (ks := ks) (vs := vs) (by simpa using h)
    rw [List.zip_cons_cons, List.any_cons, ih]
    rfl
theorem putK_zip {ks : List Key} {vs : List V} {k : Key} {v : V} (h : ks.length = vs.length) : putK (ks.zip vs) k v = (putKs ks k).zip (putDs ks vs k v) := by
  unfold putK putKs putDs
  rw [any_mem h]
  by_cases m : hasK ks k = true
  · rw [if_pos m, if_pos m, if_pos m]
    clear m
    induction ks generalizing vs with
    | nil => simp
    | cons a ks ih =>
      cases vs with
      | nil => simp at h
      | cons w vs =>
        have := ih (vs := vs) (by simpa using h)
        rw [List.zip_cons_cons, List.map_cons, List.map_cons, List.zip_cons_cons, this]
        by_cases e : a = k
        · simp [e]
        · simp [e]
  · rw [if_neg m, if_neg m, if_neg m, List.zip_append h]; rfl
theorem putDs_reps {K : PySem.W.Frag} {B : Hp} {α : List Addr} {k : Key} {d : D} {v : V} (hd : Rep K B α d v) {ks : List Key} : ∀ {ds : List D} {vs : List V}, Reps K B α ds vs → ks.length = ds.length → Reps K B α (putDs ks ds k d) (putDs ks vs k v) := by
  intro ds vs r hl
  unfold putDs
  by_cases m : hasK ks k = true
  · rw [if_pos m, if_pos m]
    clear m
    induction ks generalizing ds vs with
    | nil => simp [Reps]
    | cons a ks ih =>
      cases ds with
      | nil => simp at hl
      | cons x ds =>
        unfold Reps at r
        obtain ⟨w, ws, rfl, r1, r2⟩ := r
        rw [List.zip_cons_cons, List.zip_cons_cons, List.map_cons, List.map_cons]
        refine .cons ?_ (ih r2 (by simpa using hl))
        by_cases e : a = k
        · simp [e]; exact hd
        · simp [e]; exact r1
  · rw [if_neg m, if_neg m]
    exact r.append (.one hd)
theorem putKs_len {β : Type} {ks : List Key} {ds : List β} {k : Key} {d : β} (h : ks.length = ds.length) : (putKs ks k).length = (putDs ks ds k d).length := by
  unfold putKs putDs
  by_cases m : hasK ks k = true
  · rw [if_pos m, if_pos m, List.length_map, List.length_zip, h]; simp
  · rw [if_neg m, if_neg m, List.length_append, List.length_append, h]; rfl
section
variable {C : Ctx} {Γ : Env} {Λ : Cells} {R : Rs} {pos pos' : Pos} {e o i : Expr}
theorem ws_dput (h : WE C R.er Γ Λ e fun d Λ1 => WE C R.er Γ Λ1 o fun x Λ2 => WE C R.er Γ Λ2 i fun y Λ3 => ∃ n ks ds k, x = .loc n ∧ keyD y = some k ∧ Λ3[n]? = some (.dic ks ds) ∧ ks.length < 10000000 ∧ R.nx Γ (Λ3.set n (.dic (putKs ks k) (putDs ks ds k d))))
    (hc : noComp e = true := by rfl) : WS C Γ Λ (.Assign [.Subscript o i pos'] e pos) R := fun X F W is hm tk => by
  have hu := is.u200
  refine ps_imp (ps_dput (by omega) pe_U pe_U pe_U (noSwap hc)) fun Dn σ H ⟨B, α, S, q⟩ => ?_
  refine WE.use h is tk S q.er.at fun d Λ1 v B1 α1 H1 p1 S1 e1 f1 r1 => ?_
  refine WE.use p1 is tk S1 (q.er.mono e1).at fun x Λ2 vx B2 α2 H2 p2 S2 e2 f2 r2 => ?_
  refine WE.use p2 is tk S2 (q.er.mono (e1.trans e2)).at fun y Λ3 vy B3 α3 H3 p3 S3 e3 f3 r3 => ?_
  obtain ⟨n, ks, ds, k, rfl, hk, hn, hl, p⟩ := p3
  have r2' := r2.mono e3 f3
  unfold Rep at r2'
  obtain ⟨a, rfl, ha⟩ := r2'
  obtain ⟨a', q1, q2, q3, vs, q4, q5, q6⟩ := S3.ce n _ hn (by simp)
  rw [ha] at q1; cases q1
  have hlv : ks.length = vs.length := by rw [q6, q5.length]
  refine ⟨a, upd H3 a (.dK (putK (ks.zip vs) k v)), rfl, .inl ⟨ks.zip vs, k, q4, keyD_rep r3 hk, ?_, rfl⟩, ?_⟩
  · rw [List.length_zip]; exact sz_ltt (by omega)
  · rw [putK_zip hlv]
    refine q.nx Γ _ B3 α3 σ _ p (S3.put ha q2 ?_) ((e1.trans e2).trans e3)
    exact ⟨_, upd_same, putDs_reps ((r1.mono e2 f2).mono e3 f3) q5 q6, putKs_len q6⟩
end
end Pl

/-! Pl16: dicts held against one another -/
namespace Pl
open PySem L2 PyProof.Rows PySem.Spec
section
variable {prog : Program} {w : World} {A : Around} {s : Shared} {Kx : Type} [DecidableEq Kx] {kd : PySem.KeyKind prog w Kx}
end
section
variable {C : Ctx} {E : ER} {Γ : Env} {Λ : Cells} {pos : Pos} {a b : Expr}
end
end Pl
namespace Pl
open PySem L2 PyProof.Rows
section
variable {C : Ctx} {E : ER} {Γ : Env} {Λ : Cells} {pos p : Pos} {β : Type} {A : β → List D} {ok : β → Prop} {R : β → Res → Prop}
end
end Pl

/-! Pl17: tuples whose items are held against one another only up to the first that differ -/
namespace Tlt
open PySem PySem.SeqAt PyProof.Rows
open PySem.AutoSeq1 (wpAny_loadPart')
open PySem.MeetsSeq PySem.MeetsSeq2 PySem.MeetsSeq3 PySem.SeqRoads2
/-- from the left: equal items are passed, the first unequal ones answer; fin where none differ -/
def LtP (A : Around) (z : Shared) (fin : Bool) : List (Value × Value) → Bool → Prop
  | [], k => k = fin
  | (x, y) :: r, k => ∃ e, EqAt A z x y e ∧ (e = true → LtP A z fin r k) ∧ (e = false → RcLt A z x y k)
theorem tup_lt (p q : Addr) (us ws : Array Value) (m1 m2 : Nat) (d1 d2 : Option Addr) (o1 o2 : Array (Option Value)) (k : Bool) :
    Meets (Builtin.«tuple.__lt__» ⟨[.ref p, .ref q], []⟩) fun A R z => z.heap.get? p = some ⟨.type "tuple", d1, .seq us m1, o1⟩ ∧ z.heap.get? q = some ⟨.type "tuple", d2, .seq ws m2, o2⟩ ∧ LtP A.in1 z (decide (us.size < ws.size)) (us.toList.zip ws.toList) k ∧ R (.ok (.ret (.bool k))) z :=
  .of_wp fun pr w A R z hyp => by
    obtain ⟨hh, gg, dd, tt, oo⟩ := z; obtain ⟨hp, hq, hL, hR⟩ := hyp
    have sub := AutoSeq1.sub_tuple_tuple
    wp_walk using wpAny_loadPart' hp, wpAny_loadPart' hq, wpAny_forIn_list _ (fun tl c z' => c.1 = none ∧ z' = ⟨hh, gg, dd, tt, oo⟩ ∧ LtP A.in1 ⟨hh, gg, dd, tt, oo⟩ (decide (us.size < ws.size)) tl k) _
    case turn =>
      rintro ⟨x, y⟩ tl c z' ⟨hc, rfl, e, he, h1, h2⟩
      refine wpAny_bind (he pr w _ _ ?_)
      cases e with
      | true =>
        wp_walk
        exact ⟨rfl, rfl, h1 rfl⟩
      | false =>
        have hr := h2 rfl pr w
        generalize PySem.richCompare CmpOp.Lt x y = m at hr ⊢
        wp_walk
        refine hr _ _ ?_
        wp_walk
        exact ⟨_, rfl, hR⟩
    case fin =>
      rintro ⟨c1, c2⟩ z' ⟨hc, rfl, hL'⟩
      simp only at hc
      subst hc
      have hk : k = decide (us.size < ws.size) := hL'
      subst hk
      wp_walk
      exact ⟨_, rfl, by simpa [Builtin.Tuple.tupleCompareSizes] using hR⟩
    case h =>
      exact ⟨rfl, rfl, hL⟩
theorem rc_tup {A : Around} {z : Shared} {p q : Addr} {us ws : Array Value} {k : Bool} (hp : z.heap.IsTuple p us) (hq : z.heap.IsTuple q ws) (hu : A.units < cLine) (hL : LtP A.in1 z (decide (us.size < ws.size)) (us.toList.zip ws.toList) k) : RcLt A z (.ref p) (.ref q) k := fun pr w E Q h => by
  obtain ⟨⟨c1, d1, t1, o1⟩, g1, e1, m1, f1⟩ := hp
  obtain ⟨⟨c2, d2, t2, o2⟩, g2, e2, m2, f2⟩ := hq
  simp only at e1 f1 e2 f2
  subst e1 f1 e2 f2
  exact richCompare_meets_room (op := .Lt) ⟨_, g1, rfl⟩ ⟨_, g2, rfl⟩ F.slot_tuple_lt F.entry_tuple_lt (F.args_tuple_lt_2 _ _) (tup_lt p q us ws m1 m2 d1 d2 o1 o2 k) ⟨g1, g2, hL, show Value.bool k ≠ Value.notImplemented ∧ Q (.bool k) z from ⟨(fun x => nomatch x), h⟩⟩ hu
end Tlt

/-! Pl18: == through cells, list.clear -/
namespace Pl
open PySem L2 PyProof.Rows
/-! ### a datum with its cells looked through -/
mutual
def dv (Λ : Cells) : D → D
  | .loc n => match Λ[n]? with
    | some (.lst ds) => .lst ds
    | _ => .loc n
  | .tup ds => .tup (dvs Λ ds)
  | .lst ds => .lst (dvs Λ ds)
  | .fzl ds => .fzl (dvs Λ ds)
  | d => d
def dvs (Λ : Cells) : List D → List D
  | [] => []
  | d :: ds => dv Λ d :: dvs Λ ds
end
section
variable {K : PySem.W.Frag} {F : Fm} {B : Hp} {α : List Addr} {Γ : Env} {Λ : Cells} {σ : L2.St} {H : Hp}
end
section
variable {C : Ctx} {E : ER} {Γ : Env} {Λ : Cells} {pos apos cpos : Pos} {a b o : Expr}
end
end Pl
namespace Pl
open PySem L2 PyProof.Rows
/-! ### comprehensions whose items are told by a word only -/
inductive All2 {β γ : Type} (R : β → γ → Prop) : List β → List γ → Prop
  | nil : All2 R [] []
  | cons {x y xs ys} : R x y → All2 R xs ys → All2 R (x :: xs) (y :: ys)
theorem All2.len {β γ : Type} {R : β → γ → Prop} {xs : List β} {ys : List γ} (h : All2 R xs ys) : xs.length = ys.length := by
  induction h with
  | nil => rfl
  | cons _ _ ih => simp [ih]
section
variable {C : Ctx} {Γ : Env} {Λ : Cells} {tg elt : Expr} {ws : List Nat} {P : List D → Prop} {β γ : Type}
end
end Pl
namespace Pl
open PySem L2
end Pl
namespace Pl
open PySem L2
end Pl
namespace Pl
open PySem L2
end Pl

namespace Law
open PySem L2 Pl
/-- a letter -/
inductive Lt | p | q | r
  deriving DecidableEq
def Lt.s : Lt → Str | .p => "p" | .q => "q" | .r => "r"
inductive Bop | and | or | iff
  deriving DecidableEq
def Bop.s : Bop → Str | .and => "and" | .or => "or" | .iff => "if"
/-- a saying -/
inductive Sy
  | no | lt (l : Lt) | not (a : Sy) | shown (a : Sy) | bin (o : Bop) (a b : Sy)
  deriving DecidableEq
namespace Sy
def pv : Sy → D
  | no => .tup [.str "no"]
  | lt l => .tup [.str "letter", .str l.s]
  | not a => .tup [.str "not", a.pv]
  | shown a => .tup [.str "shown", a.pv]
  | bin o a b => .tup [.str o.s, a.pv, b.pv]
def size : Sy → Nat
  | no => 1
  | lt _ => 1
  | not a => 1 + a.size
  | shown a => 1 + a.size
  | bin _ a b => 1 + a.size + b.size
def kids : Sy → List Sy
  | no => []
  | lt _ => []
  | not a => [a]
  | shown a => [a]
  | bin _ a b => [a, b]
/-- nesting -/
def ht : Sy → Nat
  | no => 1
  | lt _ => 1
  | not a => 1 + a.ht
  | shown a => 1 + a.ht
  | bin _ a b => 1 + max a.ht b.ht
theorem ht_size : ∀ s : Sy, s.ht ≤ s.size
  | no => Nat.le_refl _
  | lt _ => Nat.le_refl _
  | not a => Nat.add_le_add_left (ht_size a) 1
  | shown a => Nat.add_le_add_left (ht_size a) 1
  | bin _ a b => by have := ht_size a; have := ht_size b; simp only [ht, size]; omega
theorem ht_pos (s : Sy) : 1 ≤ s.ht := by cases s <;> simp [ht] <;> omega
theorem kid_ht {m : Nat} {s x : Sy} (h : s.ht ≤ m + 1) (hx : x ∈ s.kids) : x.ht ≤ m := by
  cases s <;> simp only [kids, List.not_mem_nil, List.mem_cons, or_false, ht] at h hx
  · subst hx; omega
  · subst hx; omega
  · rcases hx with rfl | rfl <;> omega
end Sy
namespace Sy
theorem pv_plain : ∀ s : Sy, (py s.pv).plain = true
  | no => rfl
  | lt _ => rfl
  | not a => by show (PyData.tuple [.str "not", py a.pv]).plain = true; simp [PyData.plain, PyData.plainAll, pv_plain a]
  | shown a => by show (PyData.tuple [.str "shown", py a.pv]).plain = true; simp [PyData.plain, PyData.plainAll, pv_plain a]
  | bin o a b => by show (PyData.tuple [.str o.s, py a.pv, py b.pv]).plain = true; simp [PyData.plain, PyData.plainAll, pv_plain a, pv_plain b]
theorem pv_depth : ∀ s : Sy, (py s.pv).depth ≤ s.ht
  | no => by show (PyData.tuple [.str "no"]).depth ≤ 1; simp [PyData.depth, PyData.depthAll]
  | lt l => by show (PyData.tuple [.str "letter", .str l.s]).depth ≤ 1; simp [PyData.depth, PyData.depthAll]
  | not a => by
    have := pv_depth a
    show (PyData.tuple [.str "not", py a.pv]).depth ≤ 1 + a.ht
    simp only [PyData.depth, PyData.depthAll]; omega
  | shown a => by
    have := pv_depth a
    show (PyData.tuple [.str "shown", py a.pv]).depth ≤ 1 + a.ht
    simp only [PyData.depth, PyData.depthAll]; omega
  | bin o a b => by
    have := pv_depth a
    have := pv_depth b
    show (PyData.tuple [.str o.s, py a.pv, py b.pv]).depth ≤ 1 + max a.ht b.ht
    simp only [PyData.depth, PyData.depthAll]; omega
theorem pv_tup : ∀ s : Sy, ∃ ds, s.pv = .tup ds
  | no => ⟨_, rfl⟩
  | lt _ => ⟨_, rfl⟩
  | not _ => ⟨_, rfl⟩
  | shown _ => ⟨_, rfl⟩
  | bin _ _ _ => ⟨_, rfl⟩
end Sy
/-! what the builders take out of their lists -/
/-- the parts of a stack, all together -/
def tot (st : List Sy) : Nat := (st.map Sy.size).sum
theorem tot_snoc (st : List Sy) (y : Sy) : tot (st ++ [y]) = tot st + y.size := by simp [tot]
theorem size_pos (s : Sy) : 1 ≤ s.size := by cases s <;> simp [Sy.size] <;> omega
end Law

/-! Ss: the order of sayings -/
namespace Law
open PySem L2 Pl
/-! ### an order of lists of numbers -/
def lexN : List Nat → List Nat → Bool
  | [], [] => false
  | [], _ :: _ => true
  | _ :: _, [] => false
  | a :: x, b :: y => if a = b then lexN x y else decide (a < b)
theorem lexN_self : ∀ x, lexN x x = false
  | [] => rfl
  | a :: x => by rw [lexN, if_pos rfl, lexN_self x]
theorem lexN_asym : ∀ x y, lexN x y = true → lexN y x = false
  | [], [], h => by cases h
  | [], _ :: _, _ => rfl
  | _ :: _, [], h => by cases h
  | a :: x, b :: y, h => by
    rw [lexN] at h ⊢
    by_cases e : a = b
    · rw [if_pos e] at h; rw [if_pos e.symm]; exact lexN_asym x y h
    · rw [if_neg e] at h; rw [if_neg (fun z => e z.symm)]
      have := of_decide_eq_true h
      exact decide_eq_false (by omega)
theorem lexN_tot : ∀ x y, lexN x y = false → lexN y x = false → x = y
  | [], [], _, _ => rfl
  | [], _ :: _, h, _ => by cases h
  | _ :: _, [], _, h => by cases h
  | a :: x, b :: y, h, g => by
    rw [lexN] at h g
    by_cases e : a = b
    · rw [if_pos e] at h; rw [if_pos e.symm] at g; rw [e, lexN_tot x y h g]
    · rw [if_neg e] at h; rw [if_neg (fun z => e z.symm)] at g
      have := of_decide_eq_false h
      have := of_decide_eq_false g
      omega
theorem lexN_trans : ∀ x y z, lexN x y = true → lexN y z = true → lexN x z = true
  | [], [], _, h, _ => by cases h
  | [], _ :: _, [], _, h => by cases h
  | [], _ :: _, _ :: _, _, _ => rfl
  | _ :: _, [], _, h, _ => by cases h
  | _ :: _, _ :: _, [], _, h => by cases h
  | a :: x, b :: y, c :: z, h, g => by
    rw [lexN] at h g ⊢
    by_cases e : a = b
    · rw [if_pos e] at h
      subst e
      by_cases e2 : a = c
      · rw [if_pos e2] at g ⊢; exact lexN_trans x y z h g
      · rw [if_neg e2] at g ⊢; exact g
    · rw [if_neg e] at h
      have h1 := of_decide_eq_true h
      by_cases e2 : b = c
      · subst e2; rw [if_neg e]; exact h
      · rw [if_neg e2] at g
        have h2 := of_decide_eq_true g
        rw [if_neg (by omega)]; exact decide_eq_true (by omega)
namespace Sy
def ix : Sy → Nat
  | bin .and _ _ => 0
  | bin .iff _ _ => 1
  | lt _ => 2
  | no => 3
  | not _ => 4
  | bin .or _ _ => 5
  | shown _ => 6
def _root_.Law.Lt.ix : Lt → Nat | .p => 0 | .q => 1 | .r => 2
/-- a code without prefixes -/
def code : Sy → List Nat
  | no => [3]
  | lt l => [2, l.ix]
  | not a => 4 :: code a
  | shown a => 6 :: code a
  | bin o a b => (bin o no no).ix :: (code a ++ code b)
def ltS (s t : Sy) : Bool := lexN (code s) (code t)
theorem code_app : ∀ (s t : Sy) (p q : List Nat), lexN (code s ++ p) (code t ++ q) = if s = t then lexN p q else ltS s t := by
  intro s
  induction s with
  | no =>
    intro t p q
    cases t with
    | no => simp [code, lexN]
    | bin o a b => cases o <;> simp [code, ltS, lexN, ix]
    | _ => simp [code, ltS, lexN]
  | lt l =>
    intro t p q
    cases t with
    | lt m => cases l <;> cases m <;> simp [code, ltS, lexN, Lt.ix]
    | bin o a b => cases o <;> simp [code, ltS, lexN, ix]
    | _ => simp [code, ltS, lexN]
  | not a ih =>
    intro t p q
    cases t with
    | not b => simp only [code, ltS, List.cons_append, lexN, if_true, ih b p q]; by_cases e : a = b <;> simp [e, ltS]
    | bin o a b => cases o <;> simp [code, ltS, lexN, ix]
    | _ => simp [code, ltS, lexN]
  | shown a ih =>
    intro t p q
    cases t with
    | shown b => simp only [code, ltS, List.cons_append, lexN, if_true, ih b p q]; by_cases e : a = b <;> simp [e, ltS]
    | bin o a b => cases o <;> simp [code, ltS, lexN, ix]
    | _ => simp [code, ltS, lexN]
  | bin o a b iha ihb =>
    intro t p q
    cases t with
    | bin o' a' b' =>
      by_cases eo : o = o'
      · subst eo
        simp only [code, ltS, List.cons_append, List.append_assoc, lexN, if_true, iha, ihb]
        by_cases e : a = a'
        · subst e
          by_cases e2 : b = b'
          · subst e2; simp
          · simp [e2]
        · simp [e]
      · have : ¬ (bin o no no).ix = (bin o' no no).ix := by cases o <;> cases o' <;> simp [ix] <;> exact eo rfl
        simp only [code, ltS, List.cons_append, lexN, if_neg this]
        rw [if_neg (by intro z; injection z with z1; exact eo z1)]
    | _ => cases o <;> simp [code, ltS, lexN, ix]
theorem ltS_kid (n : Nat) (a b : Sy) : lexN (n :: code a) (n :: code b) = ltS a b := by rw [lexN, if_pos rfl]; rfl
theorem code_inj {s t : Sy} (h : code s = code t) : s = t := by
  by_cases e : s = t
  · exact e
  · exfalso
    have h1 := code_app s t [] [0]
    have h2 := code_app s t [0] []
    rw [if_neg e] at h1 h2
    rw [h] at h1 h2
    have h3 := code_app t t [] [0]
    have h4 := code_app t t [0] []
    rw [if_pos rfl] at h3 h4
    rw [h3] at h1
    rw [h4] at h2
    rw [← h1] at h2
    cases h2
theorem ltS_tot {s t : Sy} (h : ltS s t = false) (g : ltS t s = false) : s = t := code_inj (lexN_tot _ _ h g)
/-! ### == of sayings -/
theorem strs_eqv (x y : Str) : PyData.eqv (.str x) (.str y) = decide (x = y) := by
  rw [PyData.eqv]
  by_cases e : x = y
  · subst e; simp
  · simp [e]
theorem lt_s_inj {a b : Lt} : a.s = b.s ↔ a = b := by
  constructor
  · intro h; cases a <;> cases b <;> first | rfl | (exfalso; revert h; decide)
  · rintro rfl; rfl
theorem eqv_pv : ∀ s t : Sy, PyData.eqv (py s.pv) (py t.pv) = decide (s = t) := by
  intro s
  induction s with
  | no =>
    intro t
    cases t with
    | bin o a b => cases o <;> (show PyData.eqv (.tuple [.str _]) (.tuple [.str _, _, _]) = _; simp [PyData.eqv, PyData.eqvAll])
    | no => show PyData.eqv (.tuple [.str "no"]) (.tuple [.str "no"]) = _; simp [PyData.eqv, PyData.eqvAll]
    | lt l => show PyData.eqv (.tuple [.str _]) (.tuple [.str _, _]) = _; simp [PyData.eqv, PyData.eqvAll]
    | not l => show PyData.eqv (.tuple [.str _]) (.tuple [.str _, _]) = _; simp [PyData.eqv, PyData.eqvAll]
    | shown l => show PyData.eqv (.tuple [.str _]) (.tuple [.str _, _]) = _; simp [PyData.eqv, PyData.eqvAll]
  | lt l =>
    intro t
    cases t with
    | bin o a b => show PyData.eqv (.tuple [.str _, _]) (.tuple [.str _, _, _]) = _; simp [PyData.eqv, PyData.eqvAll]
    | no => show PyData.eqv (.tuple [.str _, _]) (.tuple [.str _]) = _; simp [PyData.eqv, PyData.eqvAll]
    | lt m => cases l <;> cases m <;> rfl
    | not a => show PyData.eqv (.tuple [.str "letter", _]) (.tuple [.str "not", _]) = _; simp [PyData.eqv, PyData.eqvAll]; intro h; exact absurd h (by decide)
    | shown a => show PyData.eqv (.tuple [.str "letter", _]) (.tuple [.str "shown", _]) = _; simp [PyData.eqv, PyData.eqvAll]; intro h; exact absurd h (by decide)
  | not x ih =>
    intro t
    cases t with
    | bin o a b => show PyData.eqv (.tuple [.str _, _]) (.tuple [.str _, _, _]) = _; simp [PyData.eqv, PyData.eqvAll]
    | no => show PyData.eqv (.tuple [.str _, _]) (.tuple [.str _]) = _; simp [PyData.eqv, PyData.eqvAll]
    | lt m => show PyData.eqv (.tuple [.str "not", _]) (.tuple [.str "letter", _]) = _; simp [PyData.eqv, PyData.eqvAll]; intro h; exact absurd h (by decide)
    | not a => show PyData.eqv (.tuple [.str "not", py x.pv]) (.tuple [.str "not", py a.pv]) = _; simp [PyData.eqv, PyData.eqvAll, ih]
    | shown a => show PyData.eqv (.tuple [.str "not", _]) (.tuple [.str "shown", _]) = _; simp [PyData.eqv, PyData.eqvAll]; intro h; exact absurd h (by decide)
  | shown x ih =>
    intro t
    cases t with
    | bin o a b => show PyData.eqv (.tuple [.str _, _]) (.tuple [.str _, _, _]) = _; simp [PyData.eqv, PyData.eqvAll]
    | no => show PyData.eqv (.tuple [.str _, _]) (.tuple [.str _]) = _; simp [PyData.eqv, PyData.eqvAll]
    | lt m => show PyData.eqv (.tuple [.str "shown", _]) (.tuple [.str "letter", _]) = _; simp [PyData.eqv, PyData.eqvAll]; intro h; exact absurd h (by decide)
    | not a => show PyData.eqv (.tuple [.str "shown", _]) (.tuple [.str "not", _]) = _; simp [PyData.eqv, PyData.eqvAll]; intro h; exact absurd h (by decide)
    | shown a => show PyData.eqv (.tuple [.str "shown", py x.pv]) (.tuple [.str "shown", py a.pv]) = _; simp [PyData.eqv, PyData.eqvAll, ih]
  | bin o x y ihx ihy =>
    intro t
    cases t with
    | bin o' a b =>
      show PyData.eqv (.tuple [.str o.s, py x.pv, py y.pv]) (.tuple [.str o'.s, py a.pv, py b.pv]) = _
      have ho : (o.s = o'.s) ↔ o = o' := by
        constructor
        · intro h; cases o <;> cases o' <;> first | rfl | (exfalso; revert h; decide)
        · rintro rfl; rfl
      simp [PyData.eqv, PyData.eqvAll, ihx, ihy]
      by_cases e1 : o = o' <;> by_cases e2 : x = a <;> by_cases e3 : y = b <;> simp [e1, e2, e3, ho]
    | no => show PyData.eqv (.tuple [.str _, _, _]) (.tuple [.str _]) = _; simp [PyData.eqv, PyData.eqvAll]
    | lt m => show PyData.eqv (.tuple [.str _, _, _]) (.tuple [.str _, _]) = _; simp [PyData.eqv, PyData.eqvAll]
    | not a => show PyData.eqv (.tuple [.str _, _, _]) (.tuple [.str _, _]) = _; simp [PyData.eqv, PyData.eqvAll]
    | shown a => show PyData.eqv (.tuple [.str _, _, _]) (.tuple [.str _, _]) = _; simp [PyData.eqv, PyData.eqvAll]
end Sy
end Law

/-! Ss2: < of sayings, as the model reckons it -/
namespace Law
open PySem L2 Pl PySem.SeqAt PyProof.Rows PySem.W
namespace Sy
def wS : Nat → Str | 0 => "and" | 1 => "if" | 2 => "letter" | 3 => "no" | 4 => "not" | 5 => "or" | _ => "shown"
def kd : Sy → List PyData
  | no => []
  | lt l => [.str l.s]
  | not a => [py a.pv]
  | shown a => [py a.pv]
  | bin _ a b => [py a.pv, py b.pv]
def kc : Sy → List Nat
  | no => []
  | lt l => [l.ix]
  | not a => code a
  | shown a => code a
  | bin _ a b => code a ++ code b
theorem py_kd (s : Sy) : py s.pv = .tuple (.str (wS s.ix) :: kd s) := by
  cases s with
  | bin o a b => cases o <;> rfl
  | _ => rfl
theorem code_kc (s : Sy) : code s = s.ix :: kc s := by
  cases s with
  | bin o a b => cases o <;> rfl
  | _ => rfl
theorem ix_lt (s : Sy) : s.ix < 7 := by
  cases s with
  | bin o a b => cases o <;> simp [ix]
  | _ => simp [ix]
theorem wS_lt : ∀ i, i < 7 → ∀ j, j < 7 → decide ((wS i).cps.toList < (wS j).cps.toList) = decide (i < j) := by decide +kernel
theorem wS_eq : ∀ i, i < 7 → ∀ j, j < 7 → decide (wS i = wS j) = decide (i = j) := by decide +kernel
theorem lt_word {s t : Sy} (h : s.ix ≠ t.ix) : decide ((wS s.ix).cps.toList < (wS t.ix).cps.toList) = ltS s t := by
  rw [wS_lt _ (ix_lt s) _ (ix_lt t), ltS, code_kc s, code_kc t, lexN, if_neg h]
section
variable {A : Around} {z : Shared}
theorem eqStr {x y : Str} {v u : Value} {as bs : List Addr} (hv : Reads z.heap v (.str x) as) (hu : Reads z.heap u (.str y) bs) (hA : A.units < cLine) : EqAt A z v u (decide (x = y)) := by
  have := eqAt_plain (.str x) (.str y) A z v u as bs hv hu rfl rfl (by simpa [PyData.depth] using hA)
  rw [strs_eqv] at this; exact this
theorem rcStr {x y : Str} {v u : Value} {as bs : List Addr} (hv : Reads z.heap v (.str x) as) (hu : Reads z.heap u (.str y) bs) (hA : A.units < cLine) : RcLt A z v u (decide (x.cps.toList < y.cps.toList)) := by
  have := rcLt_alike (.str x) (.str y) A z v u as bs hv hu rfl (by simp) (by simpa [PyData.depth] using hA)
  rw [dataLt_str] at this; exact this
theorem eqSy {s t : Sy} {v u : Value} {as bs : List Addr} (hv : Reads z.heap v (py s.pv) as) (hu : Reads z.heap u (py t.pv) bs) (hA : A.units + s.ht < cLine) : EqAt A z v u (decide (s = t)) := by
  have := eqAt_plain _ _ A z v u as bs hv hu (pv_plain s) (pv_plain t) (by have := pv_depth s; omega)
  rw [eqv_pv] at this; exact this
theorem rcs : ∀ (n : Nat) (s t : Sy), s.ht ≤ n → ∀ (A : Around) (v u : Value) (as bs : List Addr), Reads z.heap v (py s.pv) as → Reads z.heap u (py t.pv) bs → A.units + n + 2 < cLine → RcLt A z v u (ltS s t) := by
  intro n
  induction n with
  | zero => intro s t h; have := ht_pos s; omega
  | succ n ih =>
    intro s t hs A v u as bs hv hu hA
    have hA' : A.in1.units = A.units + 1 := rfl
    rw [py_kd] at hv hu
    cases hv with
    | @tuple l o us m _ as₁ h1 h2 h3 h4 =>
      cases hu with
      | @tuple l' o' ws m' _ bs₁ k1 k2 k3 k4 =>
        refine Tlt.rc_tup ⟨_, h1, h2, _, h3⟩ ⟨_, k1, k2, _, k3⟩ (by omega) ?_
        have n1 : us.size = (PyData.str (wS s.ix) :: kd s).length := by simpa using ReadsAll.length _ _ _ h4
        have n2 : ws.size = (PyData.str (wS t.ix) :: kd t).length := by simpa using ReadsAll.length _ _ _ k4
        rw [n1, n2]
        generalize us.toList = xs at h4
        generalize ws.toList = ys at k4
        cases h4 with
        | cons r rs =>
          cases k4 with
          | cons r' rs' =>
            refine ⟨_, eqStr r r' (by omega), fun e => ?_, fun e => ?_⟩
            · have e1 : s.ix = t.ix := of_decide_eq_true (by rw [← wS_eq _ (ix_lt s) _ (ix_lt t)]; exact e)
              have shape : ∀ {a b : Sy} {vs ws : List Value} {as bs : List Addr}, ReadsAll z.heap vs [py a.pv] as → ReadsAll z.heap ws [py b.pv] bs → a.ht ≤ n → Tlt.LtP A.in1 z false (vs.zip ws) (ltS a b) := fun {a b vs ws as bs} rs rs' c3 => by
                cases rs with
                | cons q qs =>
                  cases rs' with
                  | cons q' qs' =>
                    cases qs
                    cases qs'
                    refine ⟨_, eqSy q q' (by omega), fun f => ?_, fun f => ih a b c3 A.in1 _ _ _ _ q q' (by omega)⟩
                    have : a = b := of_decide_eq_true f
                    subst this
                    show ltS a a = _
                    rw [ltS, lexN_self]
              cases s with
              | no =>
                cases t with
                | no => cases rs; cases rs'; show ltS no no = _; rfl
                | bin o a b => cases o <;> simp [ix] at e1
                | _ => simp [ix] at e1
              | lt x =>
                cases t with
                | lt y =>
                  cases rs with
                  | cons q qs =>
                    cases rs' with
                    | cons q' qs' =>
                      cases qs
                      cases qs'
                      refine ⟨_, eqStr q q' (by omega), fun f => ?_, fun f => ?_⟩
                      · have : x = y := lt_s_inj.mp (of_decide_eq_true f)
                        subst this
                        show ltS (lt x) (lt x) = _
                        rw [ltS, lexN_self]; rfl
                      · have := rcStr q q' (A := A.in1) (z := z) (by omega)
                        have e2 : decide (x.s.cps.toList < y.s.cps.toList) = ltS (lt x) (lt y) := by cases x <;> cases y <;> decide +kernel
                        rw [e2] at this; exact this
                | bin o a b => cases o <;> simp [ix] at e1
                | _ => simp [ix] at e1
              | not a =>
                cases t with
                | not b => rw [show ltS (not a) (not b) = ltS a b from ltS_kid 4 a b]; exact shape rs rs' (by simp only [ht] at hs; omega)
                | bin o a b => cases o <;> simp [ix] at e1
                | _ => simp [ix] at e1
              | shown a =>
                cases t with
                | shown b => rw [show ltS (shown a) (shown b) = ltS a b from ltS_kid 6 a b]; exact shape rs rs' (by simp only [ht] at hs; omega)
                | bin o a b => cases o <;> simp [ix] at e1
                | _ => simp [ix] at e1
              | bin o a b =>
                cases t with
                | bin o' a' b' =>
                  have eo : o = o' := by cases o <;> cases o' <;> first | rfl | (simp [ix] at e1)
                  subst eo
                  have hs' : a.ht ≤ n ∧ b.ht ≤ n := by simp only [ht] at hs; omega
                  have e3 : ltS (bin o a b) (bin o a' b') = if a = a' then ltS b b' else ltS a a' := by
                    rw [ltS, code, code, lexN, if_pos rfl, code_app]; rfl
                  cases rs with
                  | cons q qs =>
                    cases rs' with
                    | cons q' qs' =>
                      cases qs with
                      | cons p ps =>
                        cases qs' with
                        | cons p' ps' =>
                          cases ps
                          cases ps'
                          rw [e3]
                          refine ⟨_, eqSy q q' (by omega), fun f => ?_, fun f => ?_⟩
                          · rw [if_pos (of_decide_eq_true f)]
                            refine ⟨_, eqSy p p' (by omega), fun g => ?_, fun g => ih b b' hs'.2 A.in1 _ _ _ _ p p' (by omega)⟩
                            have : b = b' := of_decide_eq_true g
                            subst this
                            show ltS b b = _
                            rw [ltS, lexN_self]; rfl
                          · rw [if_neg (of_decide_eq_false f)]
                            exact ih a a' hs'.1 A.in1 _ _ _ _ q q' (by omega)
                | _ => cases o <;> simp [ix] at e1
            · have e1 : s.ix ≠ t.ix := of_decide_eq_false (by rw [← wS_eq _ (ix_lt s) _ (ix_lt t)]; exact e)
              have := rcStr r r' (A := A.in1) (z := z) (by omega)
              rw [lt_word e1] at this; exact this
end
end Sy
end Law

/-! Ss3: sorted() of sayings -/
namespace Law
open PySem L2 Pl PySem.SeqAt PyProof.Rows PySem.W
namespace Sy
section
variable {A : Around} {z : Shared}
theorem kidsP {s t : Sy} {vs ws : List Value} {as bs : List Addr} (e1 : s.ix = t.ix) (rs : ReadsAll z.heap vs (kd s) as) (rs' : ReadsAll z.heap ws (kd t) bs) (hA : A.units + s.ht + 4 < cLine) : Tlt.LtP A z false (vs.zip ws) (ltS s t) := by
  have shape : ∀ {a b : Sy} {vs ws : List Value} {as bs : List Addr}, ReadsAll z.heap vs [py a.pv] as → ReadsAll z.heap ws [py b.pv] bs → a.ht ≤ s.ht → Tlt.LtP A z false (vs.zip ws) (ltS a b) := fun {a b vs ws as bs} rs rs' c3 => by
    cases rs with
    | cons q qs =>
      cases rs' with
      | cons q' qs' =>
        cases qs
        cases qs'
        refine ⟨_, eqSy q q' (by omega), fun f => ?_, fun f => rcs a.ht a b (Nat.le_refl _) A _ _ _ _ q q' (by omega)⟩
        have : a = b := of_decide_eq_true f
        subst this
        show ltS a a = _
        rw [ltS, lexN_self]
  cases s with
  | no =>
    cases t with
    | no => cases rs; cases rs'; rfl
    | bin o a b => cases o <;> simp [ix] at e1
    | _ => simp [ix] at e1
  | lt x =>
    cases t with
    | lt y =>
      cases rs with
      | cons q qs =>
        cases rs' with
        | cons q' qs' =>
          cases qs
          cases qs'
          refine ⟨_, eqStr q q' (by omega), fun f => ?_, fun f => ?_⟩
          · have : x = y := lt_s_inj.mp (of_decide_eq_true f)
            subst this
            show ltS (lt x) (lt x) = _
            rw [ltS, lexN_self]
          · have := rcStr q q' (A := A) (z := z) (by omega)
            have e2 : decide (x.s.cps.toList < y.s.cps.toList) = ltS (lt x) (lt y) := by cases x <;> cases y <;> decide +kernel
            rw [e2] at this; exact this
    | bin o a b => cases o <;> simp [ix] at e1
    | _ => simp [ix] at e1
  | not a =>
    cases t with
    | not b => rw [show ltS (not a) (not b) = ltS a b from ltS_kid 4 a b]; exact shape rs rs' (by simp only [ht]; omega)
    | bin o a b => cases o <;> simp [ix] at e1
    | _ => simp [ix] at e1
  | shown a =>
    cases t with
    | shown b => rw [show ltS (shown a) (shown b) = ltS a b from ltS_kid 6 a b]; exact shape rs rs' (by simp only [ht]; omega)
    | bin o a b => cases o <;> simp [ix] at e1
    | _ => simp [ix] at e1
  | bin o a b =>
    cases t with
    | bin o' a' b' =>
      have eo : o = o' := by cases o <;> cases o' <;> first | rfl | (simp [ix] at e1)
      subst eo
      have e3 : ltS (bin o a b) (bin o a' b') = if a = a' then ltS b b' else ltS a a' := by
        rw [ltS, code, code, lexN, if_pos rfl, code_app]; rfl
      simp only [ht] at hA
      cases rs with
      | cons q qs =>
        cases rs' with
        | cons q' qs' =>
          rw [e3]
          refine ⟨_, eqSy q q' (by omega), fun f => ?_, fun f => ?_⟩
          · rw [if_pos (of_decide_eq_true f)]
            exact shape qs qs' (by simp only [ht]; omega)
          · rw [if_neg (of_decide_eq_false f)]
            exact rcs a.ht a a' (Nat.le_refl _) A _ _ _ _ q q' (by omega)
    | _ => cases o <;> simp [ix] at e1
end
def ar : Nat → Nat | 0 => 2 | 1 => 2 | 2 => 1 | 3 => 0 | 4 => 1 | 5 => 2 | _ => 1
theorem kd_len (s : Sy) : (kd s).length = ar s.ix := by
  cases s with
  | bin o a b => cases o <;> rfl
  | _ => rfl
section
variable {prog : Program} {w : World} {A : Around} {z : Shared}
theorem kat_of {fin : Bool} {Q : Bool → Shared → Prop} : ∀ (l : List (Value × Value)) (i : Nat) (k : Bool), Tlt.LtP A z fin l k → Q k z → KatLex prog w A true fin Q l (i + 1) z
  | [], i, k, h, q => by
    have h : k = fin := h
    subst h
    exact kat_nil q
  | (x, y) :: r, i, k, ⟨e, he, h1, h2⟩, q => by
    refine kat_cons (he prog w _ _ ?_)
    refine kat_go (fun e1 => kat_yes (kat_of r (i + 1) k (h1 e1) q)) fun e1 => ?_
    refine kat_no ?_
    rw [show (true && i + 1 == 0) = false from rfl]
    exact kat_one _ _ (h2 e1 prog w _ _ (show PySem.W.BoolBack Q (.bool k) z from q))
theorem cmpS {s t : Sy} {v u : Value} {as bs : List Addr} (hv : Reads z.heap v (py s.pv) as) (hu : Reads z.heap u (py t.pv) bs) (hA : A.units + s.ht + 4 < cLine) :
    wpAny (model prog w) A (keyLt' (tuples' true) v u) (fun r z' => z' = z ∧ r = ltS s t) (fun _ _ => False) z := by
  rw [py_kd] at hv hu
  cases hv with
  | @tuple l o us m _ as₁ h1 h2 h3 h4 =>
    cases hu with
    | @tuple l' o' ws m' _ bs₁ k1 k2 k3 k4 =>
      have n1 : us.size = (PyData.str (wS s.ix) :: kd s).length := by simpa using ReadsAll.length _ _ _ h4
      have n2 : ws.size = (PyData.str (wS t.ix) :: kd t).length := by simpa using ReadsAll.length _ _ _ k4
      refine kat_lt h1 h3 k1 k3 ?_
      rw [n1, n2]
      generalize us.toList = xs at h4
      generalize ws.toList = ys at k4
      cases h4 with
      | cons r rs =>
        cases k4 with
        | cons r' rs' =>
          refine kat_cons (eqStr (A := A) r r' (by omega) prog w _ _ ?_)
          refine kat_go (fun e => kat_yes ?_) fun e => kat_no ?_
          · have e1 : s.ix = t.ix := of_decide_eq_true (by rw [← wS_eq _ (ix_lt s) _ (ix_lt t)]; exact e)
            have el : (PyData.str (wS s.ix) :: kd s).length = (PyData.str (wS t.ix) :: kd t).length := by
              rw [List.length_cons, List.length_cons, kd_len, kd_len, e1]
            rw [el, show decide ((PyData.str (wS t.ix) :: kd t).length < (PyData.str (wS t.ix) :: kd t).length) = false from decide_eq_false (Nat.lt_irrefl _)]
            exact kat_of _ 0 (ltS s t) (kidsP e1 rs rs' hA) ⟨rfl, rfl⟩
          · have e1 : s.ix ≠ t.ix := of_decide_eq_false (by rw [← wS_eq _ (ix_lt s) _ (ix_lt t)]; exact e)
            cases r
            cases r'
            show wpAny (model prog w) A (oneLt' true _ _) _ _ z
            exact oneLt_str ⟨rfl, lt_word e1⟩
/-! ### the sort -/
theorem ra_cons {h : Heap} {vs : List Value} {d : PyData} {ds : List PyData} {as : List Addr} (r : ReadsAll h vs (d :: ds) as) : ∃ v ws a b, vs = v :: ws ∧ as = a ++ b ∧ Reads h v d a ∧ ReadsAll h ws ds b := by
  cases r with
  | cons q qs => exact ⟨_, _, _, _, rfl, rfl, q, qs⟩
theorem ra_nil {h : Heap} {vs : List Value} {as : List Addr} (r : ReadsAll h vs [] as) : vs = [] ∧ as = [] := by cases r; exact ⟨rfl, rfl⟩
theorem reads_tup {h h' : Heap} (keep : ∀ b o, h.get? b = some o → o.cls = .type "tuple" → h'.get? b = some o) : ∀ (s : Sy) (v : Value) (as : List Addr), Reads h v (py s.pv) as → Reads h' v (py s.pv) as := by
  intro s
  have str : ∀ {x : Str} {v : Value} {as : List Addr}, Reads h v (.str x) as → Reads h' v (.str x) as := fun r => by cases r; exact .str _ _
  induction s with
  | no =>
    intro v as r
    have r : Reads h v (.tuple [.str "no"]) as := r
    show Reads h' v (.tuple [.str "no"]) as
    cases r with
    | tuple h1 h2 h3 h4 =>
      obtain ⟨v1, w1, a1, b1, e1, f1, q1, r1⟩ := ra_cons h4
      refine .tuple (keep _ _ h1 h2) h2 h3 ?_
      rw [e1, f1, (ra_nil r1).1, (ra_nil r1).2]; exact .cons (str q1) .nil
  | lt l =>
    intro v as r
    have r : Reads h v (.tuple [.str "letter", .str l.s]) as := r
    show Reads h' v (.tuple [.str "letter", .str l.s]) as
    cases r with
    | tuple h1 h2 h3 h4 =>
      obtain ⟨v1, w1, a1, b1, e1, f1, q1, r1⟩ := ra_cons h4
      obtain ⟨v2, w2, a2, b2, e2, f2, q2, r2⟩ := ra_cons r1
      refine .tuple (keep _ _ h1 h2) h2 h3 ?_
      rw [e1, f1, e2, f2, (ra_nil r2).1, (ra_nil r2).2]; exact .cons (str q1) (.cons (str q2) .nil)
  | not a ih =>
    intro v as r
    have r : Reads h v (.tuple [.str "not", py a.pv]) as := r
    show Reads h' v (.tuple [.str "not", py a.pv]) as
    cases r with
    | tuple h1 h2 h3 h4 =>
      obtain ⟨v1, w1, a1, b1, e1, f1, q1, r1⟩ := ra_cons h4
      obtain ⟨v2, w2, a2, b2, e2, f2, q2, r2⟩ := ra_cons r1
      refine .tuple (keep _ _ h1 h2) h2 h3 ?_
      rw [e1, f1, e2, f2, (ra_nil r2).1, (ra_nil r2).2]; exact .cons (str q1) (.cons (ih _ _ q2) .nil)
  | shown a ih =>
    intro v as r
    have r : Reads h v (.tuple [.str "shown", py a.pv]) as := r
    show Reads h' v (.tuple [.str "shown", py a.pv]) as
    cases r with
    | tuple h1 h2 h3 h4 =>
      obtain ⟨v1, w1, a1, b1, e1, f1, q1, r1⟩ := ra_cons h4
      obtain ⟨v2, w2, a2, b2, e2, f2, q2, r2⟩ := ra_cons r1
      refine .tuple (keep _ _ h1 h2) h2 h3 ?_
      rw [e1, f1, e2, f2, (ra_nil r2).1, (ra_nil r2).2]; exact .cons (str q1) (.cons (ih _ _ q2) .nil)
  | bin o a b iha ihb =>
    intro v as r
    have r : Reads h v (.tuple [.str o.s, py a.pv, py b.pv]) as := r
    show Reads h' v (.tuple [.str o.s, py a.pv, py b.pv]) as
    cases r with
    | tuple h1 h2 h3 h4 =>
      obtain ⟨v1, w1, a1, b1, e1, f1, q1, r1⟩ := ra_cons h4
      obtain ⟨v2, w2, a2, b2, e2, f2, q2, r2⟩ := ra_cons r1
      obtain ⟨v3, w3, a3, b3, e3, f3, q3, r3⟩ := ra_cons r2
      refine .tuple (keep _ _ h1 h2) h2 h3 ?_
      rw [e1, f1, e2, f2, e3, f3, (ra_nil r3).1, (ra_nil r3).2]; exact .cons (str q1) (.cons (iha _ _ q2) (.cons (ihb _ _ q3) .nil))
theorem firsts {h : Heap} {k : Value → Sy} : ∀ {vs : List Value}, (∀ v ∈ vs, ∃ as, Reads h v (py (k v).pv) as) → ∃ fs : List Value, KatTups h vs fs ∧ fs.length = vs.length ∧ ∀ f ∈ fs, ∃ x t, f = Value.str x t
  | [], _ => ⟨[], KatTups.nil, rfl, fun _ hm => by simp at hm⟩
  | v :: vs, hp => by
    obtain ⟨fs, h1, h2, h3⟩ := firsts (vs := vs) fun v' hm => hp v' (List.mem_cons_of_mem _ hm)
    obtain ⟨as, r⟩ := hp v List.mem_cons_self
    rw [py_kd] at r
    cases r with
    | @tuple l o us m _ as₁ g1 g2 g3 g4 =>
      generalize hx : us.toList = xs at g4
      cases g4 with
      | cons q qs =>
        cases q
        rename_i t
        refine ⟨.str _ t :: fs, KatTups.cons g1 g2 g3 (by rw [← Array.getElem?_toList, hx]; rfl) h1, by rw [List.length_cons, List.length_cons, h2], fun f hm => ?_⟩
        rcases List.mem_cons.mp hm with rfl | hm
        · exact ⟨_, t, rfl⟩
        · exact h3 f hm
theorem lex_tr {x y z : List Nat} (h1 : lexN y x = false) (h2 : lexN z y = false) : lexN z x = false := by
  cases e : lexN z x with
  | false => rfl
  | true =>
    exfalso
    cases e1 : lexN x y with
    | false =>
      rw [lexN_tot _ _ e1 h1] at e
      rw [e] at h2; cases h2
    | true =>
      have := lexN_trans _ _ _ e e1
      rw [this] at h2; cases h2
theorem swo (k : Value → Sy) : SrtO.Swo fun v u => ltS (k v) (k u) := by
  exact ⟨fun x y h => lexN_asym _ _ h, fun x y z h1 h2 => lex_tr h1 h2⟩
end
end Sy
end Law

/-! Ss4: sorted() of sayings, the rule -/
namespace Law
open PySem L2 Pl PySem.SeqAt PyProof.Rows PySem.W PySem.Spec
section
variable {prog : Program} {w : World} {A : Around} {E : Value → Shared → Prop} {s : Shared}
theorem sortableS {a : Addr} {vs : List Value} {k : Value → Sy} (h0 : 0 < vs.length) (hp : ∀ v ∈ vs, (∃ as, Reads s.heap v (py (k v).pv) as) ∧ (k v).ht ≤ 180) (hA : A.units + 190 < cLine) (ha : ∀ o, s.heap.get? a = some o → o.cls ≠ .type "tuple") :
    SrtO.SortableO prog w A s a vs fun v u => Sy.ltS (k v) (k u) := by
  intro h' keep
  have hp' : ∀ v ∈ vs, ∃ as, Reads h' v (py (k v).pv) as := fun v hm => by
    obtain ⟨⟨as, r⟩, _⟩ := hp v hm
    exact ⟨as, Sy.reads_tup (fun b o e c => keep b o (fun q => by subst q; exact ha o e c) e) _ _ _ r⟩
  obtain ⟨fs, h1, h2, h3⟩ := Sy.firsts hp'
  refine ⟨tuples' true, fun Q E hq => ?_, fun p q hm hm' => ?_⟩
  · refine kat_kind (T := .type "str") h1 (by omega) (fun f hm => ?_) (by rfl) ?_
    · obtain ⟨x, t, rfl⟩ := h3 f hm
      exact Looks.now
    · have e : (Value.type "str" != Value.type "tuple") = true := by first | decide +kernel | rfl | decide
      rw [e]
      exact hq
  · obtain ⟨as, r1⟩ := hp' _ hm
    obtain ⟨bs, r2⟩ := hp' _ hm'
    have hh : (k p.1).ht ≤ 180 := (hp p.1 hm).2
    exact Sy.cmpS (A := A) r1 r2 (by omega)
theorem sortedS {l : Addr} {vs : List Value} {k : Value → Sy} {Q : Value → Shared → Prop} (hl : s.heap.IsList l vs.toArray) (hz : vs.length ≤ sizeLine) (hp : ∀ v ∈ vs, (∃ as, Reads s.heap v (py (k v).pv) as) ∧ (k v).ht ≤ 180) (hA : A.units + 195 < cLine)
    (h : ∀ (h' : Heap) (d : Addr) (out : List Value), SrtO.Srtd (fun v u => Sy.ltS (k v) (k u)) out → SrtO.Stb (fun v u => Sy.ltS (k v) (k u)) out vs → (∀ b o, s.heap.get? b = some o → h'.get? b = some o) → s.heap.objs.size ≤ d → (∃ n, h'.get? d = some (seqObj "list" out.toArray n)) → Q (.ref d) { s with heap := h' }) :
    wpAny (model prog w) A (call (.builtin "sorted") [.ref l]) Q E s := by
  refine SrtO.sorted_ord (Sy.swo k) hl hz (fun h2 h₁ a ha kk => ?_) fun out hs hb => h _ _ out hs hb (fun b o e => sortedAll_old e) (Nat.le_succ _) (sortedAll_at s.heap vs out.toArray)
  refine sortableS (s := { s with heap := h₁ }) (by omega) (fun v hm => ?_) (by show A.units + 1 + 1 + 190 < cLine; omega) fun o e => ?_
  · obtain ⟨⟨as, r⟩, hh⟩ := hp v hm
    exact ⟨⟨as, Sy.reads_tup (fun b o e _ => (kk b o e).2) _ _ _ r⟩, hh⟩
  · have e' : some o = some (seqObj "list" vs.toArray 0) := e.symm.trans ha
    cases e'
    intro c
    exact absurd (Value.type.inj c) (by decide)
end
/-- sorted(xs) of sayings -/
def rSortS (K : PySem.W.Frag) : List V → Hp → VK → Prop := fun vs H Q => ∃ (a : Addr) (xs : List V) (k : V → Sy), vs = [V.ref a] ∧ SqL K H a xs ∧ (∀ x ∈ xs, Dp K H x (py (k x).pv) ∧ (∃ t, x = V.ref t) ∧ (k x).ht ≤ 180) ∧
  ∀ ys p, SrtO.Srtd (fun x y => Sy.ltS (k x) (k y)) ys → SrtO.Stb (fun x y => Sy.ltS (k x) (k y)) ys xs → H p = none → Q (.ref p) (upd H p (.lst ys))
theorem swoV (k : V → Sy) : SrtO.Swo fun v u => Sy.ltS (k v) (k u) := by
  exact ⟨fun x y h => lexN_asym _ _ h, fun x y z h1 h2 => Sy.lex_tr h1 h2⟩
theorem cr_sortS {X : Cx} (hu : X.A.units + 200 < cLine) : CallR X (.builtin "sorted") (rSortS X.K) := by
  intro pins s σ H vs us Q I r h
  obtain ⟨a, xs, k, rfl, hs, hx, q⟩ := h
  obtain ⟨its, rv, hl, hz⟩ := I.list hs
  obtain ⟨u, rfl, ru⟩ := vals1 r
  obtain rfl : u = Value.ref a := ru
  obtain ⟨e1, e2⟩ := refs_back rv fun x m => (hx x m).2.1
  refine sortedS (k := fun u => k (backV u)) hl.isList (by rw [← rv.length]; exact hz) (fun v hv => ?_) (by omega) fun h' d out h1 h2 kp hd hn => ?_
  · obtain ⟨t, rfl⟩ := e2 v hv
    have hm : V.ref t ∈ xs := by rw [e1]; exact List.mem_map.mpr ⟨_, hv, rfl⟩
    obtain ⟨dp, _, hh⟩ := hx _ hm
    exact ⟨Dp.reads I _ _ _ dp rfl, hh⟩
  · have h3 : ∀ u ∈ out, ∃ a, u = Value.ref a := fun u hu => e2 u (h2.perm.mem_iff.mp hu)
    obtain ⟨n, hn⟩ := hn
    have hb : SrtO.Stb (fun x y => Sy.ltS (k x) (k y)) (out.map backV) xs := by
      rw [e1]
      exact SrtO.Stb.map (swoV k) backV h2
    refine ⟨.ref d, upd H d (.lst (out.map backV)), I.laid (t' := s.toks) kp hd ⟨?_, out, n, vals_back h3, hn⟩, rfl, q _ d (SrtO.srtd_map h1) hb (I.hok.fresh hd)⟩
    rw [hb.len]
    exact hz
end Law

/-! Ss5: sorted() of sayings, told by data -/
namespace Law
open PySem L2 Pl PySem.SeqAt PyProof.Rows PySem.W PySem.Spec
def leS (s t : Sy) : Bool := !Sy.ltS t s
theorem leS_trans (a b c : Sy) (h : leS a b = true) (g : leS b c = true) : leS a c = true := by
  unfold leS at *
  rw [Bool.not_eq_true'] at *
  exact Sy.lex_tr h g
theorem leS_total (a b : Sy) : (leS a b || leS b a) = true := by
  unfold leS
  cases h : Sy.ltS b a with
  | false => rfl
  | true => have : Sy.ltS a b = false := lexN_asym _ _ h; rw [this]; rfl
theorem leS_anti {a b : Sy} (h : leS a b = true) (g : leS b a = true) : a = b := by
  unfold leS at *
  rw [Bool.not_eq_true'] at *
  exact Sy.ltS_tot g h
/-- the sayings, in their order -/
def sortS (ss : List Sy) : List Sy := ss.mergeSort leS
theorem sortS_perm (ss : List Sy) : (sortS ss).Perm ss := List.mergeSort_perm ss leS
theorem sortS_pw (ss : List Sy) : (sortS ss).Pairwise fun a b => leS a b = true := List.pairwise_mergeSort leS_trans leS_total ss
theorem sortS_uniq {l ss : List Sy} (hp : l.Perm ss) (hs : l.Pairwise fun a b => leS a b = true) : l = sortS ss :=
  List.Perm.eq_of_pairwise (le := fun a b => leS a b = true) (fun a b _ _ h g => leS_anti h g) hs (sortS_pw ss) (hp.trans (sortS_perm ss).symm)
theorem pv_inj {s t : Sy} (h : py s.pv = py t.pv) : s = t := by
  have h1 := Sy.eqv_pv s t
  rw [h, eqv_refl_plain _ (Sy.pv_plain t)] at h1
  exact of_decide_eq_true h1.symm
/-- sorted(xs) of sayings, with what each thing bears -/
def rSortT (K : PySem.W.Frag) : List V → Hp → VK → Prop := fun vs H Q => ∃ (a : Addr) (xs : List V) (ss : List Sy), vs = [V.ref a] ∧ SqL K H a xs ∧ xs.length = ss.length ∧ (∀ q ∈ xs.zip ss, Dp K H q.1 (py q.2.pv) ∧ (∃ t, q.1 = V.ref t) ∧ q.2.ht ≤ 180) ∧
  ∀ (ys : List V) p, ys.length = (sortS ss).length → (∀ q ∈ ys.zip (sortS ss), q ∈ xs.zip ss) → H p = none → Q (.ref p) (upd H p (.lst ys))
open Classical in
noncomputable def pick (l : List (V × Sy)) (x : V) : Sy := if h : ∃ s, (x, s) ∈ l then Classical.choose h else .no
theorem cr_sortT {X : Cx} (hu : X.A.units + 200 < cLine) : CallR X (.builtin "sorted") (rSortT X.K) := by
  intro pins z σ H vs us Q I r h
  obtain ⟨a, xs, ss, rfl, hs, hl, hx, q⟩ := h
  have uni : ∀ x s t, (x, s) ∈ xs.zip ss → (x, t) ∈ xs.zip ss → s = t := fun x s t h1 h2 => by
    obtain ⟨d1, ⟨c, rfl⟩, _⟩ := hx _ h1
    obtain ⟨d2, _, _⟩ := hx _ h2
    obtain ⟨as, r1⟩ := Dp.reads I _ _ (.ref c) d1 rfl
    obtain ⟨bs, r2⟩ := Dp.reads I _ _ (.ref c) d2 rfl
    exact pv_inj (plain_unique _ _ _ _ _ (Sy.pv_plain s) r1 r2)
  have pk : ∀ x s, (x, s) ∈ xs.zip ss → pick (xs.zip ss) x = s := fun x s h => by
    unfold pick
    have he : ∃ s, (x, s) ∈ xs.zip ss := ⟨s, h⟩
    rw [dif_pos he]
    exact uni x _ s (Classical.choose_spec he) h
  have inz : ∀ x ∈ xs, (x, pick (xs.zip ss) x) ∈ xs.zip ss := fun x m => by
    obtain ⟨i, hi, e⟩ := List.getElem_of_mem m
    have hm : (x, ss[i]'(by omega)) ∈ xs.zip ss := by
      rw [← e, ← List.getElem_zip (h := by rw [List.length_zip]; omega)]
      exact List.getElem_mem _
    rw [pk x _ hm]; exact hm
  have emap : xs.map (pick (xs.zip ss)) = ss := by
    apply List.ext_getElem (by rw [List.length_map, hl])
    intro i h1 h2
    rw [List.getElem_map]
    apply pk
    rw [← List.getElem_zip (h := by rw [List.length_zip, List.length_map] at *; omega)]
    exact List.getElem_mem _
  refine cr_sortS hu pins z σ H _ us Q I r ⟨a, xs, pick (xs.zip ss), rfl, hs, fun x m => hx _ (inz x m), fun ys p h1 h2 hp => ?_⟩
  have es : ys.map (pick (xs.zip ss)) = sortS ss := by
    refine sortS_uniq ?_ ?_
    · have := h2.perm.map (pick (xs.zip ss))
      rw [emap] at this; exact this
    · refine List.pairwise_map.mpr (h1.imp fun {x y} e => ?_)
      show leS _ _ = true
      unfold leS
      have e : Sy.ltS (pick (xs.zip ss) y) (pick (xs.zip ss) x) = false := e
      rw [e]; rfl
  refine q ys p (by rw [← es, List.length_map]) (fun w hw => ?_) hp
  rw [← es] at hw
  obtain ⟨i, hi, e⟩ := List.getElem_of_mem hw
  rw [List.getElem_zip, List.getElem_map] at e
  rw [← e]
  exact inz _ (h2.perm.mem_iff.mp (List.getElem_mem _))
theorem boot_sorted' : bootBuiltins "sorted" = some (.builtin "sorted") := by decide +kernel
section
variable {C : Pl.Ctx} {E : ER} {Γ : Pl.Env} {Λ : Cells} {e : Expr} {p pos : Pos}
theorem reps_zip {K : PySem.W.Frag} {B : Hp} {α : List Addr} : ∀ {ss : List Sy} {vs : List V}, Reps K B α (ss.map Sy.pv) vs → vs.length = ss.length ∧ ∀ q ∈ vs.zip ss, Rep K B α q.2.pv q.1
  | [], vs, h => by
    rw [List.map_nil] at h
    unfold Reps at h; subst h; exact ⟨rfl, fun q hq => by simp at hq⟩
  | s :: ss, vs, h => by
    rw [List.map_cons] at h
    unfold Reps at h
    obtain ⟨v, r, rfl, h1, h2⟩ := h
    obtain ⟨g1, g2⟩ := reps_zip h2
    refine ⟨by simp [g1], fun q hq => ?_⟩
    rw [List.zip_cons_cons] at hq
    rcases List.mem_cons.mp hq with rfl | hq
    · exact h1
    · exact g2 q hq
theorem zip_reps {K : PySem.W.Frag} {B : Hp} {α : List Addr} : ∀ {ss : List Sy} {vs : List V}, vs.length = ss.length → (∀ q ∈ vs.zip ss, Rep K B α q.2.pv q.1) → Reps K B α (ss.map Sy.pv) vs
  | [], [], _, _ => .nil
  | [], _ :: _, h, _ => by simp at h
  | _ :: _, [], h, _ => by simp at h
  | s :: ss, v :: vs, h, g => by
    rw [List.map_cons]
    exact .cons (g (v, s) (by rw [List.zip_cons_cons]; exact List.mem_cons_self)) (zip_reps (by simpa using h) fun q hq => g q (by rw [List.zip_cons_cons]; exact List.mem_cons_of_mem _ hq))
end
/-! ### each once -/
def onceS (ss : List Sy) : List Sy := ss.foldl (fun told one => if told.getLast? = some one then told else told ++ [one]) []
theorem onceS_snoc (ss : List Sy) (x : Sy) : onceS (ss ++ [x]) = if (onceS ss).getLast? = some x then onceS ss else onceS ss ++ [x] := by
  unfold onceS; rw [List.foldl_append]; rfl
theorem onceS_len (ss : List Sy) : (onceS ss).length ≤ ss.length := by
  have go : ∀ (ss acc : List Sy), (ss.foldl (fun told one => if told.getLast? = some one then told else told ++ [one]) acc).length ≤ acc.length + ss.length := by
    intro ss
    induction ss with
    | nil => intro acc; exact Nat.le_refl _
    | cons x ss ih =>
      intro acc
      rw [List.foldl_cons, List.length_cons]
      split
      · have := ih acc; omega
      · have := ih (acc ++ [x]); rw [List.length_append, List.length_singleton] at this; omega
  have := go ss []
  simpa [onceS] using this
theorem onceS_mem {ss : List Sy} {x : Sy} (h : x ∈ onceS ss) : x ∈ ss := by
  have go : ∀ (ss acc : List Sy), x ∈ ss.foldl (fun told one => if told.getLast? = some one then told else told ++ [one]) acc → x ∈ acc ∨ x ∈ ss := by
    intro ss
    induction ss with
    | nil => intro acc h; exact .inl h
    | cons y ss ih =>
      intro acc h
      rw [List.foldl_cons] at h
      rcases ih _ h with z | z
      · split at z
        · exact .inl z
        · rcases List.mem_append.mp z with w | w
          · exact .inl w
          · simp at w; subst w; exact .inr List.mem_cons_self
      · exact .inr (List.mem_cons_of_mem _ z)
  rcases go ss [] h with z | z
  · simp at z
  · exact z
/-- all parts of a saying, the saying first -/
def partsL : Sy → List Sy
  | .no => [.no]
  | .lt l => [.lt l]
  | .not a => .not a :: partsL a
  | .shown a => .shown a :: partsL a
  | .bin o a b => .bin o a b :: (partsL a ++ partsL b)
theorem partsL_len : ∀ s : Sy, (partsL s).length = s.size
  | .no => rfl
  | .lt _ => rfl
  | .not a => by simp [partsL, Sy.size, partsL_len a]; omega
  | .shown a => by simp [partsL, Sy.size, partsL_len a]; omega
  | .bin o a b => by simp [partsL, Sy.size, partsL_len a, partsL_len b]; omega
theorem partsL_kids (s : Sy) : partsL s = s :: s.kids.flatMap partsL := by cases s <;> simp [partsL, Sy.kids]
end Law

/-! Sh1: the pure reading. U: data without cells; M: what a def comes to. -/
namespace Sh
open PySem L2 Pl
/-- a pure datum; `ins c us`: an instance of the class named c, its fields in order -/
inductive U where
  | non | bl (b : Bool) | int (i : Int) | str (s : Str)
  | tup (us : List U) | lst (us : List U) | fzl (us : List U)
  | dic (ks : List Key) (us : List U)
  | ins (c : Str) (us : List U)
  | exc (c : Str) (us : List U)
  deriving Inhabited
/-- where the classes stand, their fields -/
structure Kl where
  ad : Str → Addr
  fs : Str → List Str
mutual
def em (κ : Kl) : U → D
  | .non => .non
  | .bl b => .bl b
  | .int i => .int i
  | .str s => .str s
  | .tup us => .tup (ems κ us)
  | .lst us => .lst (ems κ us)
  | .fzl us => .fzl (ems κ us)
  | .dic ks us => .dic ks (ems κ us)
  | .ins c us => .ins (κ.ad c) (κ.fs c) (ems κ us)
  | .exc c us => .exc (κ.ad c) (κ.fs c) (ems κ us)
def ems (κ : Kl) : List U → List D
  | [] => []
  | u :: us => em κ u :: ems κ us
end
section
variable {κ : Kl} {Λ : Cells}
theorem ems_map : ∀ us : List U, ems κ us = us.map (em κ)
  | [] => rfl
  | u :: us => by rw [ems, ems_map us, List.map_cons]
theorem ems_app (us vs : List U) : ems κ (us ++ vs) = ems κ us ++ ems κ vs := by simp only [ems_map, List.map_append]
theorem ems_len (us : List U) : (ems κ us).length = us.length := by rw [ems_map, List.length_map]
mutual
theorem nl_em : ∀ u : U, nl (em κ u) = true
  | .non => rfl
  | .bl _ => rfl
  | .int _ => rfl
  | .str _ => rfl
  | .tup us => nls_em us
  | .lst us => nls_em us
  | .fzl us => nls_em us
  | .dic _ us => nls_em us
  | .ins _ us => nls_em us
  | .exc _ us => nls_em us
theorem nls_em : ∀ us : List U, nls (ems κ us) = true
  | [] => rfl
  | u :: us => by show (nl (em κ u) && nls (ems κ us)) = true; rw [nl_em u, nls_em us]; rfl
end
theorem vw_em (u : U) : vw Λ (em κ u) = em κ u := by cases u <;> rfl
mutual
/-- as the library's -/
def pyU : U → PyData
  | .non => .none
  | .bl b => .bool b
  | .int i => .int i
  | .str s => .str s
  | .tup us => .tuple (pyUs us)
  | .lst us => .list (pyUs us)
  | .fzl us => .list (pyUs us)
  | .dic _ _ => .dict []
  | .ins _ _ => .dict []
  | .exc _ _ => .dict []
def pyUs : List U → List PyData
  | [] => []
  | u :: us => pyU u :: pyUs us
end
mutual
theorem py_em : ∀ u : U, py (em κ u) = pyU u
  | .non => rfl
  | .bl _ => rfl
  | .int _ => rfl
  | .str _ => rfl
  | .tup us => by rw [em, py, pyU, pys_ems us]
  | .lst us => by rw [em, py, pyU, pys_ems us]
  | .fzl us => by rw [em, py, pyU, pys_ems us]
  | .dic _ us => rfl
  | .ins _ us => rfl
  | .exc _ us => rfl
theorem pys_ems : ∀ us : List U, pys (ems κ us) = pyUs us
  | [] => rfl
  | u :: us => by rw [ems, pys, pyUs, py_em u, pys_ems us]
end
theorem pyUs_map : ∀ us : List U, pyUs us = us.map pyU
  | [] => rfl
  | u :: us => by rw [pyUs, pyUs_map us, List.map_cons]
end

/-! ### what a def comes to -/
inductive M (α : Type) where
  | stuck
  | err (c : Str) (us : List U)
  | ok (a : α)
namespace M
variable {α β : Type}
def bind (m : M α) (k : α → M β) : M β := match m with
  | .stuck => .stuck
  | .err c us => .err c us
  | .ok a => k a
@[simp] theorem bind_ok (a : α) (k : α → M β) : (M.ok a).bind k = k a := rfl
@[simp] theorem bind_stuck (k : α → M β) : (M.stuck : M α).bind k = .stuck := rfl
@[simp] theorem bind_err (c : Str) (us : List U) (k : α → M β) : (M.err c us : M α).bind k = .err c us := rfl
/-- a refusal met where none may be -/
def calm (m : M α) : M α := match m with
  | .err _ _ => .stuck
  | m => m
@[simp] theorem calm_ok (a : α) : (M.ok a).calm = .ok a := rfl
@[simp] theorem calm_stuck : (M.stuck : M α).calm = .stuck := rfl
@[simp] theorem calm_err (c : Str) (us : List U) : (M.err c us : M α).calm = .stuck := rfl
end M
def wp {α : Type} (m : M α) (P : α → Prop) (E : Str → List U → Prop) : Prop := match m with
  | .stuck => False
  | .err c us => E c us
  | .ok a => P a
def no : Str → List U → Prop := fun _ _ => False
section
variable {α β : Type} {P P' : α → Prop} {Q : β → Prop} {Eh Eh' : Str → List U → Prop} {m : M α} {k : α → M β}
theorem wp_bind (h : wp (m.bind k) Q Eh) : wp m (fun a => wp (k a) Q Eh) Eh := by cases m <;> exact h
theorem wp_mono (h : wp m P Eh) (i : ∀ a, P a → P' a) (j : ∀ c us, Eh c us → Eh' c us) : wp m P' Eh' := by
  cases m with
  | stuck => exact h
  | err c us => exact j c us h
  | ok a => exact i a h
theorem wp_calm (h : wp m.calm P Eh) : wp m P no := by
  cases m with
  | stuck => exact h
  | err c us => exact h.elim
  | ok a => exact h
end
/-- a test of the size -/
def sz {α : Type} (n : Nat) (m : M α) : M α := if n < 10000000 then m else .stuck
theorem sz_ok {α : Type} {n : Nat} {m : M α} (h : n < 10000000) : sz n m = m := if_pos h
theorem wp_sz {α : Type} {n : Nat} {m : M α} {P : α → Prop} {E : Str → List U → Prop} (h : wp (sz n m) P E) : n < 10000000 ∧ wp m P E := by
  unfold sz at h; split at h
  · exact ⟨‹_›, h⟩
  · exact h.elim

/-! ### operations -/
def addM : U → U → M U
  | .int i, .int j => .ok (.int (i + j))
  | .str s, .str t => sz (s.length + t.length) (.ok (.str (s ++ t)))
  | .tup xs, .tup ys => sz (xs.length + ys.length) (.ok (.tup (xs ++ ys)))
  | .lst xs, .lst ys => sz (xs.length + ys.length) (.ok (.lst (xs ++ ys)))
  | _, _ => .stuck
def subM : U → U → M U
  | .int i, .int j => .ok (.int (i - j))
  | _, _ => .stuck
/-- a factor that is small -/
def small (i : Int) : Bool := decide (-(2 ^ 64) < i) && decide (i < 2 ^ 64)
def mulM : U → U → M U
  | .int i, .int j => if small i || small j then .ok (.int (i * j)) else .stuck
  | _, _ => .stuck
def fdivM : U → U → M U
  | .int i, .int j => if decide (0 < j) && decide (j < 2 ^ 8999) then .ok (.int (i / j)) else .stuck
  | _, _ => .stuck
def modM : U → U → M U
  | .int i, .int j => if 0 < j then .ok (.int (i % j)) else .stuck
  | _, _ => .stuck
def powM : U → U → M U
  | .int i, .int j => if decide (0 ≤ j) && (decide (j ≤ 1000000) && decide (i.natAbs < 2 ^ 64)) then .ok (.int (i ^ j.toNat)) else .stuck
  | _, _ => .stuck
def negM : U → M U
  | .int i => .ok (.int (-i))
  | _ => .stuck
/-- no dict, no instance lies within -/
def pl (u : U) : Bool := (pyU u).plain
def dp (u : U) : Nat := (pyU u).depth
def eqM (x y : U) : M Bool := if pl x && (pl y && decide (min (dp x) (dp y) ≤ 190)) then .ok (PyData.eqv (pyU x) (pyU y)) else .stuck
def ltM : U → U → M Bool
  | .int i, .int j => .ok (decide (i < j))
  | .str s, .str t => .ok (decide (s.cps.toList < t.cps.toList))
  | _, _ => .stuck
def leM : U → U → M Bool
  | .int i, .int j => .ok (decide (i ≤ j))
  | _, _ => .stuck
def gtM : U → U → M Bool
  | .int i, .int j => .ok (decide (j < i))
  | _, _ => .stuck
def geM : U → U → M Bool
  | .int i, .int j => .ok (decide (j ≤ i))
  | _, _ => .stuck
def isNone : U → Bool
  | .non => true
  | _ => false
/-- x is None, x is True -/
def isM : U → U → M Bool
  | x, .non => .ok (isNone x)
  | .bl a, .bl b => .ok (decide (a = b))
  | _, _ => .stuck
def keyU : U → Option Key
  | .int i => some (.inl i)
  | .str s => some (.inr s)
  | _ => none
def uLook (ks : List Key) (us : List U) (k : Key) : Option U := ((ks.zip us).find? fun kv => decide (kv.1 = k)).map (·.2)
/-- the items of a list, a tuple -/
def seqU : U → Option (List U)
  | .lst us => some us
  | .fzl us => some us
  | .tup us => some us
  | _ => none
def inM (x : U) : U → M Bool
  | .str t => match x with
    | .str s => .ok (strIn s t)
    | _ => .stuck
  | .dic ks us => match keyU x with
    | some k => .ok (uLook ks us k).isSome
    | none => .stuck
  | y => match seqU y with
    | some us => if PyData.plainAll (pyUs us) && (pl x && decide (min (PyData.depthAll (pyUs us)) (dp x) ≤ 190)) then .ok (us.any fun e => PyData.eqv (pyU e) (pyU x)) else .stuck
    | none => .stuck
def boolM : U → M Bool
  | .bl b => .ok b
  | _ => .stuck
def ixM : U → U → M U
  | .str s, .int i => match atI s.cps.toList i with
    | some c => if s.length ≤ sizeLine then .ok (.str ⟨#[c]⟩) else .stuck
    | none => .stuck
  | x, .int i => match seqU x with
    | some us => match atI us i with
      | some u => .ok u
      | none => .stuck
    | none => .stuck
  | _, _ => .stuck
/-- d[k] -/
def ixdM : U → U → M U
  | .dic ks us, y => match keyU y with
    | some k => match uLook ks us k with
      | some u => .ok u
      | none => .stuck
    | none => .stuck
  | _, _ => .stuck
def cutU (xs : List U) (lo hi : Option Int) : List U := (xs.drop (HT.sIx xs.length 0 lo)).take (HT.sIx xs.length xs.length hi - HT.sIx xs.length 0 lo)
/-- an end of a slice -/
def endM : U → M (Option Int)
  | .int i => .ok (some i)
  | _ => .stuck
def slM (x : U) (l u : Option Int) : M U := match x with
  | .str s => if s.length ≤ sizeLine then .ok (.str (cutS s l u)) else .stuck
  | .tup us => .ok (.tup (cutU us l u))
  | .lst us => .ok (.lst (cutU us l u))
  | .fzl us => .ok (.lst (cutU us l u))
  | _ => .stuck
def lenM : U → M U
  | .str s => if s.length ≤ sizeLine then .ok (.int s.length) else .stuck
  | x => match seqU x with
    | some us => .ok (.int us.length)
    | none => .stuck
def listM (x : U) : M (List U) := match seqU x with
  | some us => .ok us
  | none => .stuck
def tupleM (x : U) : M U := match seqU x with
  | some us => .ok (.tup us)
  | none => .stuck
/-- the items of a list -/
def itemsL : U → Option (List U)
  | .lst us => some us
  | .fzl us => some us
  | _ => none
def iterL (x : U) : M (List U) := match itemsL x with
  | some us => .ok us
  | none => .stuck
def iterT : U → M (List U)
  | .tup us => .ok us
  | _ => .stuck
def iterS : U → M (List U)
  | .str s => .ok (s.cps.toList.map fun c => .str ⟨#[c]⟩)
  | _ => .stuck
def rangeU (lo : Int) (n : Nat) : List U := (List.range n).map fun i => .int (lo + (i : Nat))
def range1M : U → M (List U)
  | .int n => if decide (-(2 ^ 62) ≤ n) && decide (n < 2 ^ 62) then .ok (rangeU 0 n.toNat) else .stuck
  | _ => .stuck
def asInts : List U → Option (List Int)
  | [] => some []
  | .int i :: us => (asInts us).map (i :: ·)
  | _ => none
def sumM (x : U) : M U := match itemsL x with
  | some us => match asInts us with
    | some ns => .ok (.int ns.sum)
    | none => .stuck
  | none => .stuck
def intM : U → M U
  | .int i => .ok (.int i)
  | .bl b => .ok (.int (if b then 1 else 0))
  | _ => .stuck
def tyU : U → Option String
  | .non => some "NoneType"
  | .bl _ => some "bool"
  | .int _ => some "int"
  | .str _ => some "str"
  | .tup _ => some "tuple"
  | .lst _ => some "list"
  | .fzl _ => some "list"
  | .dic _ _ => some "dict"
  | .ins _ _ => none
  | .exc _ _ => none
def isiM (x : U) (T : String) : M U := match tyU x with
  | some t => match isiB t T with
    | some b => .ok (.bl b)
    | none => .stuck
  | none => .stuck
/-- a tuple's two, three .. items -/
def un2 : U → M (U × U)
  | .tup [a, b] => .ok (a, b)
  | _ => .stuck
def un3 : U → M (U × U × U)
  | .tup [a, b, c] => .ok (a, b, c)
  | _ => .stuck
/-- xs.append(x): the list behind it -/
def appM (xs : List U) (x : U) : M (List U) := sz xs.length (.ok (xs ++ [x]))
def popM (xs : List U) : M (U × List U) := match xs.getLast? with
  | some x => .ok (x, xs.dropLast)
  | none => .stuck
def extM (xs : List U) (y : U) : M (List U) := match y with
  | .lst ys => sz (xs.length + ys.length) (.ok (xs ++ ys))
  | _ => .stuck
/-- xs[i] = x -/
def setM (xs : List U) (i x : U) : M (List U) := match i with
  | .int k => match ixN xs.length k with
    | some j => .ok (xs.set j x)
    | none => .stuck
  | _ => .stuck
/-! ### loops -/
/-- what a turn comes to -/
inductive Ct (σ ρ : Type) where
  | nx (s : σ) | bk (s : σ) | rt (r : ρ)
variable {σ ρ : Type}
def forN (f : σ → U → M σ) : List U → σ → M σ
  | [], s => .ok s
  | x :: xs, s => (f s x).bind fun s => forN f xs s
def forC (f : σ → U → M (Ct σ ρ)) : List U → σ → M (Ct σ ρ)
  | [], s => .ok (.nx s)
  | x :: xs, s => (f s x).bind fun c => match c with
    | .nx s => forC f xs s
    | .bk s => .ok (.nx s)
    | .rt r => .ok (.rt r)
/-- while, at most n turns -/
def whN (c : σ → M Bool) (f : σ → M σ) : Nat → σ → M σ
  | 0, _ => .stuck
  | n + 1, s => (c s).bind fun b => if b then (f s).bind fun s => whN c f n s else .ok s
def mapC (f : U → M U) : List U → M (List U)
  | [] => .ok []
  | x :: xs => (f x).calm.bind fun y => (mapC f xs).bind fun ys => .ok (y :: ys)
def filC (g : U → M Bool) (f : U → M U) : List U → M (List U)
  | [] => .ok []
  | x :: xs => (g x).calm.bind fun b => if b then (f x).calm.bind fun y => (filC g f xs).bind fun ys => .ok (y :: ys) else filC g f xs
/-- [f(x) for x in xs] -/
def compM (f : U → M U) (xs : List U) : M (List U) := sz xs.length (mapC f xs)
/-- [f(x) for x in xs if g(x)] -/
def compF (g : U → M Bool) (f : U → M U) (xs : List U) : M (List U) := sz xs.length (filC g f xs)
end Sh

/-! Sh2: from the pure reading to the wishes over data. -/
namespace Sh
open PySem L2 Pl
/-- the datum d, looked through its cell, is u -/
def Vw (κ : Kl) (Λ : Cells) (d : D) (u : U) : Prop := vw Λ d = em κ u
section
variable {κ : Kl} {Λ : Cells}
theorem vE {u : U} : Vw κ Λ (em κ u) u := vw_em u
theorem vL {n : Nat} {us : List U} (h : Λ[n]? = some (.lst (ems κ us))) : Vw κ Λ (.loc n) (.lst us) := by
  unfold Vw vw; dsimp only; rw [h]; rfl
theorem vD {n : Nat} {ks : List Key} {us : List U} (h : Λ[n]? = some (.dic ks (ems κ us))) : Vw κ Λ (.loc n) (.dic ks us) := by
  unfold Vw vw; dsimp only; rw [h]; rfl
theorem Vw.atom {d : D} {u : U} (h : Vw κ Λ d u) (h2 : ∀ us, u ≠ .lst us) (h3 : ∀ ks us, u ≠ .dic ks us) (h4 : ∀ c us, u ≠ .ins c us) : d = em κ u := by
  refine vw_noc h ?_ ?_ ?_ ?_
  · intro n e; cases u <;> cases e
  · intro ds e; cases u with
    | lst us => exact h2 us rfl
    | _ => cases e
  · intro ks ds e; cases u with
    | dic ks us => exact h3 ks us rfl
    | _ => cases e
  · intro c ns ds e; cases u with
    | ins c us => exact h4 c us rfl
    | _ => cases e
theorem Vw.py {d : D} {u : U} (h : Vw κ Λ d u) : py (vw Λ d) = pyU u := by rw [h, py_em]
theorem seq_of {d : D} {u : U} (h : Vw κ Λ d u) {us : List U} (e : seqU u = some us) : seqD Λ d = some (ems κ us) := by
  unfold seqD; rw [h]
  cases u <;> simp only [seqU, Option.some.injEq, reduceCtorEq] at e <;> subst e <;> rfl
theorem items_of {d : D} {u : U} (h : Vw κ Λ d u) {us : List U} (e : itemsL u = some us) : lstD Λ d = some (ems κ us) := by
  unfold lstD; rw [h]
  cases u <;> simp only [itemsL, Option.some.injEq, reduceCtorEq] at e <;> subst e <;> rfl
theorem atI_map' {α β : Type} (f : α → β) (xs : List α) (i : Int) : atI (xs.map f) i = (atI xs i).map f := by
  unfold L2.atI
  rw [List.length_map]
  cases ixN xs.length i with
  | none => rfl
  | some j => simp
theorem atI_ems {us : List U} {i : Int} {u : U} (h : atI us i = some u) : atI (ems κ us) i = some (em κ u) := by
  rw [ems_map, atI_map', h]; rfl
theorem cut_ems (us : List U) (l u : Option Int) : cutD (ems κ us) l u = ems κ (cutU us l u) := by
  unfold cutD cutU; rw [ems_len, ems_map, ems_map, List.map_take, List.map_drop]
theorem uLook_em {us : List U} {k : Key} : ∀ {ks : List Key}, dLook ks (ems κ us) k = (uLook ks us k).map (em κ) := by
  unfold dLook uLook
  induction us with
  | nil => intro ks; cases ks <;> rfl
  | cons u us ih =>
    intro ks
    cases ks with
    | nil => rfl
    | cons a ks =>
      rw [ems]
      simp only [List.zip_cons_cons, List.find?_cons]
      by_cases e : a = k
      · simp [e]
      · simp only [e, decide_false]
        exact ih
theorem key_of {d : D} {u : U} (h : Vw κ Λ d u) {k : Key} (e : keyU u = some k) : keyD d = some k := by
  have : d = em κ u := h.atom (by rintro _ rfl; cases e) (by rintro _ _ rfl; cases e) (by rintro _ _ rfl; cases e)
  subst this
  cases u <;> first | exact e | cases e
theorem sz_line {n : Nat} (h : n < 10000000) : n ≤ sizeLine := Pl.sz_lt h

theorem ints_em : ∀ {us : List U} {ns : List Int}, asInts us = some ns → ems κ us = ns.map .int
  | [], ns, e => by cases e; rfl
  | .int i :: us, ns, e => by
    simp only [asInts, Option.map_eq_some_iff] at e
    obtain ⟨ms, e1, rfl⟩ := e
    rw [ems, ints_em e1]; rfl
variable {α : Type} {Q : α → Prop} {Eh : Str → List U → Prop} {x y z : D} {P : D → Prop} {Pb : Bool → Prop}
section two
variable {k : U → M α} {kb : Bool → M α} (a b : U) (hx : Vw κ Λ x a) (hy : Vw κ Λ y b)
include hx hy
theorem addP_m (h : wp ((addM a b).bind k) Q Eh) (i : ∀ z, wp (k z) Q Eh → P (em κ z)) : addP Λ x y P := by
  replace h := wp_bind h
  unfold addP; rw [hx, hy]
  unfold addM at h
  split at h
  · exact i _ h
  · obtain ⟨h1, h2⟩ := wp_sz h
    exact ⟨sz_line h1, i _ h2⟩
  · obtain ⟨h1, h2⟩ := wp_sz h
    refine ⟨?_, ?_⟩
    · simp only [ems_len]; exact sz_line h1
    · have := i _ h2
      simp only [em, ems_app] at this
      exact this
  · obtain ⟨h1, h2⟩ := wp_sz h
    refine ⟨?_, ?_⟩
    · simp only [ems_len]; exact sz_line h1
    · have := i _ h2
      simp only [em, ems_app] at this
      exact this
  · exact h.elim
theorem subP_m (h : wp ((subM a b).bind k) Q Eh) (i : ∀ z, wp (k z) Q Eh → P (em κ z)) : intP (fun _ _ => True) (fun i j => .int (i - j)) x y P := by
  replace h := wp_bind h
  unfold subM at h
  split at h
  · have e1 := hx.atom (by simp) (by simp) (by simp); have e2 := hy.atom (by simp) (by simp) (by simp)
    subst e1; subst e2
    exact ⟨trivial, i _ h⟩
  · exact h.elim
theorem mulP_m (h : wp ((mulM a b).bind k) Q Eh) (i : ∀ z, wp (k z) Q Eh → P (em κ z)) : intP CMul (fun i j => .int (i * j)) x y P := by
  replace h := wp_bind h
  unfold mulM at h
  split at h
  · have e1 := hx.atom (by simp) (by simp) (by simp); have e2 := hy.atom (by simp) (by simp) (by simp)
    subst e1; subst e2
    split at h
    · rename_i hs
      refine ⟨?_, i _ h⟩
      simpa [small, CMul] using hs
    · exact h.elim
  · exact h.elim
theorem fdivP_m (h : wp ((fdivM a b).bind k) Q Eh) (i : ∀ z, wp (k z) Q Eh → P (em κ z)) : intP CDivW (fun i j => .int (i / j)) x y P := by
  replace h := wp_bind h
  unfold fdivM at h
  split at h
  · have e1 := hx.atom (by simp) (by simp) (by simp); have e2 := hy.atom (by simp) (by simp) (by simp)
    subst e1; subst e2
    split at h
    · rename_i i' j' hs
      refine ⟨?_, i _ h⟩
      rw [Bool.and_eq_true, decide_eq_true_eq, decide_eq_true_eq] at hs
      obtain ⟨h1, h2⟩ := hs
      refine ⟨h1, ?_⟩
      have h3 : j'.natAbs < 2 ^ 8999 := by
        have e : ((j'.natAbs : Nat) : Int) = j' := Int.natAbs_of_nonneg (Int.le_of_lt h1)
        generalize hm : (2 : Nat) ^ 8999 = m
        have hm' : (2 : Int) ^ 8999 = (m : Int) := by rw [← hm]; exact (Int.natCast_pow 2 8999).symm
        rw [hm'] at h2
        omega
      have h4 := (Nat.log2_lt (by omega)).mpr h3
      omega
    · exact h.elim
  · exact h.elim
theorem modP_m (h : wp ((modM a b).bind k) Q Eh) (i : ∀ z, wp (k z) Q Eh → P (em κ z)) : intP (fun _ j => 0 < j) (fun i j => .int (i % j)) x y P := by
  replace h := wp_bind h
  unfold modM at h
  split at h
  · have e1 := hx.atom (by simp) (by simp) (by simp); have e2 := hy.atom (by simp) (by simp) (by simp)
    subst e1; subst e2
    split at h
    · exact ⟨by assumption, i _ h⟩
    · exact h.elim
  · exact h.elim
theorem eqP_m (h : wp ((eqM a b).bind kb) Q Eh) (i : ∀ z, wp (kb z) Q Eh → Pb z) : eqP Λ x y Pb := by
  replace h := wp_bind h
  unfold eqM at h
  split at h
  · rename_i hs
    rw [Bool.and_eq_true, Bool.and_eq_true, decide_eq_true_eq] at hs
    obtain ⟨h1, h2, h3⟩ := hs
    have g := i _ h
    unfold eqP
    split
    · have e1 : em κ a = .int _ := hx.symm
      have e2 : em κ b = .int _ := hy.symm
      cases a <;> cases e1; cases b <;> cases e2
      rename_i p q
      have e : PyData.eqv (pyU (.int p)) (pyU (.int q)) = decide (p = q) := by
        simp only [pyU, PyData.eqv]; by_cases c : p = q <;> simp [c]
      rw [e] at g; exact g
    · have e1 : em κ a = .str _ := hx.symm
      have e2 : em κ b = .str _ := hy.symm
      cases a <;> cases e1; cases b <;> cases e2
      rename_i p q
      have e : PyData.eqv (pyU (.str p)) (pyU (.str q)) = decide (p = q) := Law.Sy.strs_eqv p q
      rw [e] at g; exact g
    · have e1 : em κ a = .bl _ := hx.symm
      have e2 : em κ b = .bl _ := hy.symm
      cases a <;> cases e1; cases b <;> cases e2
      rename_i p q
      have e : PyData.eqv (pyU (.bl p)) (pyU (.bl q)) = decide (p = q) := bl_eqv p q
      rw [e] at g; exact g
    · rw [hx.py, hy.py]
      exact ⟨h1, h2, h3, g⟩
  · exact h.elim
theorem ltP_m (h : wp ((ltM a b).bind kb) Q Eh) (i : ∀ z, wp (kb z) Q Eh → Pb z) : ltP x y Pb := by
  replace h := wp_bind h
  unfold ltM at h
  split at h
  · have e1 := hx.atom (by simp) (by simp) (by simp); have e2 := hy.atom (by simp) (by simp) (by simp)
    subst e1; subst e2
    exact i _ h
  · have e1 := hx.atom (by simp) (by simp) (by simp); have e2 := hy.atom (by simp) (by simp) (by simp)
    subst e1; subst e2
    exact ⟨rfl, i _ h⟩
  · exact h.elim
theorem gtP_m (h : wp ((gtM a b).bind kb) Q Eh) (i : ∀ z, wp (kb z) Q Eh → Pb z) : gtP x y Pb := by
  replace h := wp_bind h
  unfold gtM at h
  split at h
  · have e1 := hx.atom (by simp) (by simp) (by simp); have e2 := hy.atom (by simp) (by simp) (by simp)
    subst e1; subst e2
    exact i _ h
  · exact h.elim
theorem inP_m (h : wp ((inM a b).bind kb) Q Eh) (i : ∀ z, wp (kb z) Q Eh → Pb z) : inP Λ x y Pb := by
  replace h := wp_bind h
  unfold inM at h
  split at h
  · split at h
    · have e1 := hx.atom (by simp) (by simp) (by simp)
      subst e1
      unfold inP; rw [hy]
      exact ⟨_, rfl, i _ h⟩
    · exact h.elim
  · split at h
    · rename_i c e
      unfold inP; rw [hy]
      refine ⟨c, key_of hx e, ?_⟩
      have g := i _ h
      rw [uLook_em, Option.isSome_map]
      exact g
    · exact h.elim
  · split at h
    · rename_i us e
      split at h
      · rename_i hs
        rw [Bool.and_eq_true, Bool.and_eq_true, decide_eq_true_eq] at hs
        obtain ⟨h1, h2, h3⟩ := hs
        refine inP_seq (seq_of hy e) ?_ ?_ ?_ ?_
        · rw [pys_ems]; exact h1
        · rw [hx.py]; exact h2
        · rw [hx.py, pys_ems]; exact h3
        · rw [hx.py, pys_ems]
          have g := i _ h
          rw [pyUs_map, List.any_map]
          exact g
      · exact h.elim
    · exact h.elim
theorem ixP_m (h : wp ((ixM a b).bind k) Q Eh) (i : ∀ z, wp (k z) Q Eh → P (em κ z)) : ixP Λ x y P := by
  replace h := wp_bind h
  unfold ixM at h
  split at h
  · have e1 := hx.atom (by simp) (by simp) (by simp); have e2 := hy.atom (by simp) (by simp) (by simp)
    subst e1; subst e2
    split at h
    · split at h
      · rename_i c hc hl
        exact ixP_str hl hc (i _ h)
      · exact h.elim
    · exact h.elim
  · have e2 := hy.atom (by simp) (by simp) (by simp)
    subst e2
    split at h
    · rename_i us e
      split at h
      · rename_i u hu
        exact ixP_seq (seq_of hx e) (atI_ems hu) (i _ h)
      · exact h.elim
    · exact h.elim
  · exact h.elim
/-- d[k] -/
theorem ixdP_m (h : wp ((ixdM a b).bind k) Q Eh) (i : ∀ z, wp (k z) Q Eh → P (em κ z)) : ∃ ks ds c d, vw Λ x = .dic ks ds ∧ keyD y = some c ∧ dLook ks ds c = some d ∧ P d := by
  replace h := wp_bind h
  unfold ixdM at h
  split at h
  · split at h
    · rename_i c hc
      split at h
      · rename_i u hu
        exact ⟨_, _, c, _, hx, key_of hy hc, by rw [uLook_em, hu]; rfl, i _ h⟩
      · exact h.elim
    · exact h.elim
  · exact h.elim
theorem isP_m (h : wp ((isM a b).bind kb) Q Eh) (i : ∀ z, wp (kb z) Q Eh → Pb z) : isP x y Pb := by
  replace h := wp_bind h
  have hy' : b = .non ∨ (∃ c, b = .bl c) → y = em κ b := fun e => by rcases e with rfl | ⟨c, rfl⟩ <;> exact hy.atom (by simp) (by simp) (by simp)
  unfold isM at h
  split at h
  · have e2 := hy' (.inl rfl)
    subst e2
    have g := i _ h
    refine ⟨isNone a, ?_, g⟩
    have hv : vw Λ x = em κ a := hx
    by_cases hl : ∃ n, x = .loc n
    · obtain ⟨n, rfl⟩ := hl
      cases a with
      | non => exact absurd (hx.atom (by simp) (by simp) (by simp)) (by simp [em])
      | _ => rfl
    · have : x = em κ a := by
        cases x <;> first | exact absurd ⟨_, rfl⟩ hl | exact hv
      subst this
      cases a <;> rfl
  · have e2 := hy' (.inr ⟨_, rfl⟩)
    have e1 := hx.atom (by simp) (by simp) (by simp)
    subst e1; subst e2
    exact ⟨_, rfl, i _ h⟩
  · exact h.elim
end two
section one
variable {k : U → M α} {kb : Bool → M α} {kl : List U → M α} {ko : Option Int → M α} {Pl' : List D → Prop} (a : U) (hx : Vw κ Λ x a)
include hx
theorem negP_m (h : wp ((negM a).bind k) Q Eh) (i : ∀ z, wp (k z) Q Eh → P (em κ z)) : ∃ j, x = .int j ∧ P (.int (-j)) := by
  replace h := wp_bind h
  unfold negM at h
  split at h
  · exact ⟨_, hx.atom (by simp) (by simp) (by simp), i _ h⟩
  · exact h.elim
theorem boolP_m (h : wp ((boolM a).bind kb) Q Eh) (i : ∀ z, wp (kb z) Q Eh → Pb z) : boolP x Pb := by
  replace h := wp_bind h
  unfold boolM at h
  split at h
  · have e1 := hx.atom (by simp) (by simp) (by simp)
    subst e1
    exact i _ h
  · exact h.elim
theorem endP_m {Po : Option Int → Prop} (h : wp ((endM a).bind ko) Q Eh) (i : ∀ z, wp (ko z) Q Eh → Po z) : ∃ j, x = .int j ∧ Po (some j) := by
  replace h := wp_bind h
  unfold endM at h
  split at h
  · exact ⟨_, hx.atom (by simp) (by simp) (by simp), i _ h⟩
  · exact h.elim
theorem slP_m {l u : Option Int} (h : wp ((slM a l u).bind k) Q Eh) (i : ∀ z, wp (k z) Q Eh → P (em κ z)) : slP Λ x l u P := by
  replace h := wp_bind h
  unfold slM at h
  split at h
  · have e1 := hx.atom (by simp) (by simp) (by simp)
    subst e1
    split at h
    · rename_i hl
      exact slP_str hl (i _ h)
    · exact h.elim
  · have e1 := hx.atom (by simp) (by simp) (by simp)
    subst e1
    refine slP_tup rfl ?_
    rw [cut_ems]; exact i _ h
  · refine slP_lst (items_of hx rfl) ?_
    rw [cut_ems]; exact i _ h
  · refine slP_lst (items_of hx rfl) ?_
    rw [cut_ems]; exact i _ h
  · exact h.elim
theorem lenP_m (h : wp ((lenM a).bind k) Q Eh) (i : ∀ z, wp (k z) Q Eh → P (em κ z)) : lenP Λ x fun n => P (.int n) := by
  replace h := wp_bind h
  unfold lenM at h
  split at h
  · have e1 := hx.atom (by simp) (by simp) (by simp)
    subst e1
    split at h
    · rename_i hl
      exact lenP_str hl (i _ h)
    · exact h.elim
  · split at h
    · rename_i us e
      refine lenP_seq (seq_of hx e) ?_
      rw [ems_len]; exact i _ h
    · exact h.elim
theorem listP_m (h : wp ((listM a).bind kl) Q Eh) (i : ∀ z, wp (kl z) Q Eh → Pl' (ems κ z)) : ∃ zs, seqD Λ x = some zs ∧ Pl' zs := by
  replace h := wp_bind h
  unfold listM at h
  split at h
  · rename_i us e
    exact ⟨_, seq_of hx e, i _ h⟩
  · exact h.elim
theorem sumP_m (h : wp ((sumM a).bind k) Q Eh) (i : ∀ z, wp (k z) Q Eh → P (em κ z)) : ∃ ns : List Int, lstD Λ x = some (ns.map .int) ∧ P (.int ns.sum) := by
  replace h := wp_bind h
  unfold sumM at h
  split at h
  · rename_i us e
    split at h
    · rename_i ns e2
      exact ⟨ns, by rw [← ints_em (κ := κ) e2]; exact items_of hx e, i _ h⟩
    · exact h.elim
  · exact h.elim
theorem intOfP_m (h : wp ((intM a).bind k) Q Eh) (i : ∀ z, wp (k z) Q Eh → P (em κ z)) : intOf x fun n => P (.int n) := by
  replace h := wp_bind h
  unfold intM at h
  split at h
  · have e1 := hx.atom (by simp) (by simp) (by simp)
    subst e1; exact i _ h
  · have e1 := hx.atom (by simp) (by simp) (by simp)
    subst e1; exact i _ h
  · exact h.elim
theorem ty_of {t : String} (e : tyU a = some t) : tyD Λ x = some t := by
  unfold tyD; rw [hx]
  cases a <;> first | exact e | cases e
theorem isiP_m {T : String} (h : wp ((isiM a T).bind k) Q Eh) (i : ∀ z, wp (k z) Q Eh → P (em κ z)) : ∃ t b, tyD Λ x = some t ∧ isiB t T = some b ∧ P (.bl b) := by
  replace h := wp_bind h
  unfold isiM at h
  split at h
  · rename_i t e
    split at h
    · rename_i b e2
      exact ⟨t, b, ty_of a hx e, e2, i _ h⟩
    · exact h.elim
  · exact h.elim
theorem rng1P_m (h : wp ((range1M a).bind kl) Q Eh) (i : ∀ z, wp (kl z) Q Eh → Pl' (ems κ z)) : ∃ n : Int, x = .int n ∧ -(2 ^ 62) ≤ n ∧ n < 2 ^ 62 ∧ Pl' (rangeD 0 n.toNat) := by
  replace h := wp_bind h
  unfold range1M at h
  split at h
  · split at h
    · rename_i hs
      rw [Bool.and_eq_true, decide_eq_true_eq, decide_eq_true_eq] at hs
      refine ⟨_, hx.atom (by simp) (by simp) (by simp), hs.1, hs.2, ?_⟩
      have g := i _ h
      have e : ∀ lo n, ems κ (rangeU lo n) = rangeD lo n := fun lo n => by unfold rangeU rangeD; rw [ems_map, List.map_map]; rfl
      rw [e] at g; exact g
    · exact h.elim
  · exact h.elim
omit hx
/-- walked: a list's items, a tuple's, a text's -/
theorem iterLP_m (h : wp ((iterL a).bind kl) Q Eh) (i : ∀ z, wp (kl z) Q Eh → Pl' (ems κ z)) : ∃ ds, (em κ a = .lst ds ∨ em κ a = .fzl ds) ∧ nls ds = true ∧ Pl' ds := by
  replace h := wp_bind h
  unfold iterL at h
  split at h
  · rename_i us e
    refine ⟨ems κ us, ?_, nls_em us, i _ h⟩
    cases a <;> simp only [itemsL, Option.some.injEq, reduceCtorEq] at e <;> subst e
    · exact .inl rfl
    · exact .inr rfl
  · exact h.elim
theorem iterTP_m (h : wp ((iterT a).bind kl) Q Eh) (i : ∀ z, wp (kl z) Q Eh → Pl' (ems κ z)) : ∃ ds, em κ a = .tup ds ∧ nls ds = true ∧ Pl' ds := by
  replace h := wp_bind h
  unfold iterT at h
  split at h
  · rename_i us
    exact ⟨ems κ us, rfl, nls_em us, i _ h⟩
  · exact h.elim
end one
/-- a decided test -/
theorem ite_m {A B : Prop} {c : Bool} {m m' : M α} (h : wp (if c = true then m else m') Q Eh) (h1 : wp m Q Eh → A) (h2 : wp m' Q Eh → B) : if c = true then A else B := by
  cases c
  · rw [if_neg (by simp)] at h ⊢; exact h2 h
  · rw [if_pos rfl] at h ⊢; exact h1 h
end
end Sh

/-! Sh3: calls, loops, comprehensions, joins, defs in the pure reading. -/
namespace Sh
open PySem L2 Pl
/-- a refusal -/
def errD (κ : Kl) (c : Str) (us : List U) : Err := ⟨.ref (κ.ad c), match κ.fs c with
  | [] => none
  | ns => some (ns, ems κ us)⟩
/-- each refusal that is reckoned with is wished -/
def EI (κ : Kl) (Eh : Str → List U → Prop) (E : ER) : Prop := ∀ c us Γ Λ, Eh c us → E (errD κ c us) Γ Λ
theorem EI.no {κ : Kl} {E : ER} : EI κ no E := fun _ _ _ _ h => h.elim
theorem nlE_errD {κ : Kl} {c : Str} {us : List U} : nlE (errD κ c us) = true := by
  unfold nlE errD
  dsimp only
  cases κ.fs c with
  | nil => rfl
  | cons a b => exact nls_em us
/-! ### what defs promise -/
/-- a def of pure data: a value -/
def spV (κ : Kl) (n : Nat) (f : List U → M U) : Pl.Spec := fun ds Λ Q E => Λ = [] ∧ ∃ us, ds = ems κ us ∧ us.length = n ∧ wp (f us) (fun z => Q (.val (em κ z)) []) (fun c es => E (errD κ c es) [])
/-- .. a new list -/
def spN (κ : Kl) (n : Nat) (f : List U → M (List U)) : Pl.Spec := fun ds Λ Q E => Λ = [] ∧ ∃ us, ds = ems κ us ∧ us.length = n ∧ wp (f us) (fun z => Q (.new (ems κ z)) []) (fun c es => E (errD κ c es) [])
section
variable {κ : Kl} {n : Nat}
theorem spV_mono {f : List U → M U} : Mono (spV κ n f) := fun ds Λ Q Q' E E' ⟨h0, us, h1, h2, h3⟩ i j => ⟨h0, us, h1, h2, wp_mono h3 (fun z h => i _ _ h) fun c es h => j _ _ h⟩
theorem spN_mono {f : List U → M (List U)} : Mono (spN κ n f) := fun ds Λ Q Q' E E' ⟨h0, us, h1, h2, h3⟩ i j => ⟨h0, us, h1, h2, wp_mono h3 (fun z h => i _ _ h) fun c es h => j _ _ h⟩
variable {C : Pl.Ctx} {E : ER} {Γ : Pl.Env} {Λ : Cells} {pos p : Pos} {α : Type} {Q : α → Prop} {Eh : Str → List U → Prop}
/-- f(e, ..): a value -/
theorem we_callV [Cool C] {k : Nat} {x : Str} {e : Expr} {es : List Expr} {P : D → Cells → Prop} {f : List U → M U} (G : C.fn k x n (spV κ n f)) (hk : k ≤ C.k) (hj : GlAt C x)
    (h : WA C E Γ Λ (e :: es) fun ds Λ1 => ∃ us, ds = ems κ us ∧ us.length = n ∧ wp (f us) (fun z => P (em κ z) Λ1) (fun c es => E (errD κ c es) Γ Λ1))
    (he : plainE e = true := by rfl) (hes : es.all plainE = true := by rfl) (hdb : (x == ("__debug__" : Str)) = false := by decide) : WE C E Γ Λ (.Call (.Name x p) (e :: es) [] pos) P :=
  we_call G hk hj spV_mono (wa_mono h fun ds Λ1 ⟨us, h1, h2, h3⟩ => by
    subst h1
    exact ⟨nls_em us, by rw [ems_len]; exact h2, rfl, us, rfl, h2, wp_mono h3 (fun z h => ⟨rfl, _, rfl, h⟩) fun c es h => ⟨rfl, h⟩⟩) he hes hdb
theorem wn_callN [Cool C] {k : Nat} {x : Str} {e : Expr} {es : List Expr} {P : List D → Cells → Prop} {f : List U → M (List U)} (G : C.fn k x n (spN κ n f)) (hk : k ≤ C.k) (hj : GlAt C x)
    (h : WA C E Γ Λ (e :: es) fun ds Λ1 => ∃ us, ds = ems κ us ∧ us.length = n ∧ wp (f us) (fun z => P (ems κ z) Λ1) (fun c es => E (errD κ c es) Γ Λ1))
    (he : plainE e = true := by rfl) (hes : es.all plainE = true := by rfl) (hdb : (x == ("__debug__" : Str)) = false := by decide) : WN C E Γ Λ (.Call (.Name x p) (e :: es) [] pos) P :=
  wn_call G hk hj spN_mono (wa_mono h fun ds Λ1 ⟨us, h1, h2, h3⟩ => by
    subst h1
    exact ⟨nls_em us, by rw [ems_len]; exact h2, rfl, us, rfl, h2, wp_mono h3 (fun z h => ⟨rfl, _, rfl, h⟩) fun c es h => ⟨rfl, h⟩⟩) he hes hdb
/-! ### cells -/
theorem extP_m {n : Nat} {Λ : Cells} {us : List U} {y : D} {k : List U → M α} {P : D → Cells → Prop} (u : U) (hy : Vw κ Λ y u) (hn : Λ[n]? = some (.lst (ems κ us))) (h : wp ((extM us u).bind k) Q Eh) (i : ∀ z, wp (k z) Q Eh → P .non (Λ.set n (.lst (ems κ z)))) : ∃ ds zs, Λ[n]? = some (.lst ds) ∧ vw Λ y = .lst zs ∧ ds.length + zs.length ≤ sizeLine ∧ P .non (Λ.set n (.lst (ds ++ zs))) := by
  replace h := wp_bind h
  unfold extM at h
  split at h
  · obtain ⟨h1, h2⟩ := wp_sz h
    refine ⟨_, _, hn, hy, by rw [ems_len, ems_len]; exact sz_line h1, ?_⟩
    have := i _ h2
    rw [ems_app] at this; exact this
  · exact h.elim
/-! ### tests and values that join -/
theorem wt_cutM {e : Expr} {m : M Bool} {k : Bool → M α} {P : Bool → Cells → Prop} (h : wp (m.bind k) Q Eh) (h1 : ∀ Q', wp m Q' Eh → WT C E Γ Λ e fun b Λ' => Λ' = Λ ∧ Q' b) (h2 : ∀ b, wp (k b) Q Eh → P b Λ) : WT C E Γ Λ e P :=
  wt_mono (h1 _ (wp_bind h)) fun b Λ' ⟨e, q⟩ => by subst e; exact h2 b q
theorem we_cutM {e : Expr} {m : M U} {k : U → M α} {P : D → Cells → Prop} (h : wp (m.bind k) Q Eh) (h1 : ∀ Q', wp m Q' Eh → WE C E Γ Λ e fun d Λ' => Λ' = Λ ∧ ∃ z, d = em κ z ∧ Q' z) (h2 : ∀ z, wp (k z) Q Eh → P (em κ z) Λ) : WE C E Γ Λ e P :=
  we_mono (h1 _ (wp_bind h)) fun d Λ' ⟨e, z, e2, q⟩ => by subst e; subst e2; exact h2 z q
variable {Γ : Pl.Env} {R : Rs}
/-- behind a statement the state is of a shape -/
theorem ws_cutM {σ : Type} (sh : σ → Pl.Env → Cells → Prop) {s : Stmt} {m : M σ} {k : σ → M α} (h : wp (m.bind k) Q Eh) (h1 : ∀ Q', wp m Q' Eh → WS C Γ Λ s { R with nx := fun Γ Λ => ∃ st, sh st Γ Λ ∧ Q' st }) (h2 : ∀ st Γ Λ, sh st Γ Λ → wp (k st) Q Eh → R.nx Γ Λ) : WS C Γ Λ s R :=
  ws_mono (h1 _ (wp_bind h)) ⟨fun Γ Λ ⟨st, a, b⟩ => h2 st Γ Λ a b, fun _ _ z => z, fun _ _ z => z, fun _ _ z => z, fun _ _ _ z => z⟩
/-- .. or the statement has ended the block: c tells how -/
theorem ws_cutC {σ ρ : Type} (sh : σ → Pl.Env → Cells → Prop) (rt : ρ → Res → Cells → Prop) {s : Stmt} {m : M (Ct σ ρ)} {k : Ct σ ρ → M α} (h : wp (m.bind k) Q Eh)
    (h1 : ∀ Q', wp m Q' Eh → WS C Γ Λ s { R with nx := fun Γ Λ => ∃ st, sh st Γ Λ ∧ Q' (.nx st), bk := fun Γ Λ => ∃ st, sh st Γ Λ ∧ Q' (.bk st), rt := fun r Λ => ∃ c, rt c r Λ ∧ Q' (.rt c) })
    (h2 : ∀ st Γ Λ, sh st Γ Λ → wp (k (.nx st)) Q Eh → R.nx Γ Λ) (h3 : ∀ st Γ Λ, sh st Γ Λ → wp (k (.bk st)) Q Eh → R.bk Γ Λ) (h4 : ∀ c r Λ, rt c r Λ → wp (k (.rt c)) Q Eh → R.rt r Λ) : WS C Γ Λ s R :=
  ws_mono (h1 _ (wp_bind h)) ⟨fun Γ Λ ⟨st, a, b⟩ => h2 st Γ Λ a b, fun r Λ ⟨c, a, b⟩ => h4 c r Λ a b, fun Γ Λ ⟨st, a, b⟩ => h3 st Γ Λ a b, fun _ _ z => z, fun _ _ _ z => z⟩
/-! ### loops -/
variable {tg : Expr} {ws : List Nat} {body : List Stmt}
theorem loopN {σ : Type} (sh : σ → Pl.Env → Cells → Prop) (f : σ → U → M σ)
    (hb : ∀ st x Γ Λ Q', sh st Γ Λ → wp (f st x) Q' Eh → WG C Γ Λ tg (em κ x) ws fun Γ' => WSs C Γ' Λ body { R with nx := fun Γ Λ => ∃ st, sh st Γ Λ ∧ Q' st, ct := fun Γ Λ => ∃ st, sh st Γ Λ ∧ Q' st, bk := fun _ _ => False }) :
    ∀ (xs : List U) (st : σ) (Γ : Pl.Env) (Λ : Cells), sh st Γ Λ → wp (forN f xs st) (fun st => ∀ Γ Λ, sh st Γ Λ → R.nx Γ Λ) Eh → LoopP C tg ws body R (ems κ xs) Γ Λ
  | [], st, Γ, Λ, hs, h => h Γ Λ hs
  | x :: xs, st, Γ, Λ, hs, h => by
    replace h := wp_bind h
    refine wg_mono (hb st x Γ Λ _ hs h) fun Γ' h' => ?_
    exact wss_mono h' ⟨fun Γ Λ ⟨st, a, b⟩ => loopN sh f hb xs st Γ Λ a b, fun _ _ z => z, fun _ _ z => z.elim, fun Γ Λ ⟨st, a, b⟩ => loopN sh f hb xs st Γ Λ a b, fun _ _ _ z => z⟩
theorem loopC {σ ρ : Type} (sh : σ → Pl.Env → Cells → Prop) (rt : ρ → Res → Cells → Prop) (f : σ → U → M (Ct σ ρ))
    (hb : ∀ st x Γ Λ Q', sh st Γ Λ → wp (f st x) Q' Eh → WG C Γ Λ tg (em κ x) ws fun Γ' => WSs C Γ' Λ body { R with nx := fun Γ Λ => ∃ st, sh st Γ Λ ∧ Q' (.nx st), ct := fun Γ Λ => ∃ st, sh st Γ Λ ∧ Q' (.nx st), bk := fun Γ Λ => ∃ st, sh st Γ Λ ∧ Q' (.bk st), rt := fun r Λ => ∃ c, rt c r Λ ∧ Q' (.rt c) }) :
    ∀ (xs : List U) (st : σ) (Γ : Pl.Env) (Λ : Cells), sh st Γ Λ → wp (forC f xs st) (fun c => match c with | .nx st => ∀ Γ Λ, sh st Γ Λ → R.nx Γ Λ | .bk _ => True | .rt c => ∀ r Λ, rt c r Λ → R.rt r Λ) Eh → LoopP C tg ws body R (ems κ xs) Γ Λ
  | [], st, Γ, Λ, hs, h => h Γ Λ hs
  | x :: xs, st, Γ, Λ, hs, h => by
    replace h := wp_bind h
    refine wg_mono (hb st x Γ Λ _ hs h) fun Γ' h' => ?_
    exact wss_mono h' ⟨fun Γ Λ ⟨st, a, b⟩ => loopC sh rt f hb xs st Γ Λ a b, fun r Λ ⟨c, a, b⟩ => b r Λ a, fun Γ Λ ⟨st, a, b⟩ => b Γ Λ a, fun Γ Λ ⟨st, a, b⟩ => loopC sh rt f hb xs st Γ Λ a b, fun _ _ _ z => z⟩
/-- a for as a whole -/
theorem loopN_m {σ : Type} (sh : σ → Pl.Env → Cells → Prop) {f : σ → U → M σ} {xs : List U} {st : σ} {k : σ → M α} (h : wp ((forN f xs st).bind k) Q Eh) (hs : sh st Γ Λ)
    (hb : ∀ st x Γ Λ Q', sh st Γ Λ → wp (f st x) Q' Eh → WG C Γ Λ tg (em κ x) ws fun Γ' => WSs C Γ' Λ body { R with nx := fun Γ Λ => ∃ st, sh st Γ Λ ∧ Q' st, ct := fun Γ Λ => ∃ st, sh st Γ Λ ∧ Q' st, bk := fun _ _ => False })
    (h2 : ∀ st Γ Λ, sh st Γ Λ → wp (k st) Q Eh → R.nx Γ Λ) : LoopP C tg ws body R (ems κ xs) Γ Λ :=
  loopN sh f hb xs st Γ Λ hs (wp_mono (wp_bind h) (fun st h Γ Λ hs => h2 st Γ Λ hs h) fun _ _ h => h)
theorem loopC_m {σ ρ : Type} (sh : σ → Pl.Env → Cells → Prop) (rt : ρ → Res → Cells → Prop) {f : σ → U → M (Ct σ ρ)} {xs : List U} {st : σ} {k : Ct σ ρ → M α} (h : wp ((forC f xs st).bind k) Q Eh) (hs : sh st Γ Λ)
    (hb : ∀ st x Γ Λ Q', sh st Γ Λ → wp (f st x) Q' Eh → WG C Γ Λ tg (em κ x) ws fun Γ' => WSs C Γ' Λ body { R with nx := fun Γ Λ => ∃ st, sh st Γ Λ ∧ Q' (.nx st), ct := fun Γ Λ => ∃ st, sh st Γ Λ ∧ Q' (.nx st), bk := fun Γ Λ => ∃ st, sh st Γ Λ ∧ Q' (.bk st), rt := fun r Λ => ∃ c, rt c r Λ ∧ Q' (.rt c) })
    (h2 : ∀ st Γ Λ, sh st Γ Λ → wp (k (.nx st)) Q Eh → R.nx Γ Λ) (h4 : ∀ c r Λ, rt c r Λ → wp (k (.rt c)) Q Eh → R.rt r Λ) : LoopP C tg ws body R (ems κ xs) Γ Λ := by
  refine loopC sh rt f hb xs st Γ Λ hs (wp_mono (wp_bind h) (fun c h => ?_) fun _ _ h => h)
  cases c with
  | nx st => exact fun Γ Λ hs => h2 st Γ Λ hs h
  | bk st => trivial
  | rt c => exact fun r Λ hr => h4 c r Λ hr h
/-- while -/
theorem whN_m {σ : Type} (sh : σ → Pl.Env → Cells → Prop) {c : Expr} {cM : σ → M Bool} {f : σ → M σ} {n : Nat} {st : σ} {k : σ → M α} {pos : Pos} (h : wp ((whN cM f n st).bind k) Q Eh) (hs : sh st Γ Λ)
    (hc : ∀ st Γ Λ Q', sh st Γ Λ → wp (cM st) Q' Eh → WT C R.er Γ Λ c fun b Λ' => Λ' = Λ ∧ Q' b)
    (hb : ∀ st Γ Λ Q', sh st Γ Λ → wp (f st) Q' Eh → WSs C Γ Λ body { R with nx := fun Γ Λ => ∃ st, sh st Γ Λ ∧ Q' st, ct := fun Γ Λ => ∃ st, sh st Γ Λ ∧ Q' st, bk := fun _ _ => False })
    (h2 : ∀ st Γ Λ, sh st Γ Λ → wp (k st) Q Eh → R.nx Γ Λ) : WS C Γ Λ (.While c body [] pos) R := by
  refine ws_while (fun m Γ Λ => ∃ st, sh st Γ Λ ∧ wp (whN cM f m st) (fun st => wp (k st) Q Eh) Eh) ⟨n, st, hs, wp_bind h⟩ fun m Γ Λ ⟨st, hs, h⟩ => ?_
  cases m with
  | zero => exact h.elim
  | succ m =>
    replace h := wp_bind h
    refine wt_mono (hc st Γ Λ _ hs h) fun b Λ' ⟨e, h⟩ => ?_
    subst e
    refine ite_m h (fun h => ?_) fun h => h2 st Γ Λ' hs h
    replace h := wp_bind h
    exact wss_mono (hb st Γ Λ' _ hs h) ⟨fun Γ Λ ⟨st, a, b⟩ => ⟨m, Nat.lt_succ_self m, st, a, b⟩, fun _ _ z => z, fun _ _ z => z.elim, fun Γ Λ ⟨st, a, b⟩ => ⟨m, Nat.lt_succ_self m, st, a, b⟩, fun _ _ _ z => z⟩
/-! ### comprehensions -/
theorem comp_cp {f : U → M U} {elt : Expr} {P : List D → Prop} (hb : ∀ x Q', wp (f x) Q' no → WG C Γ Λ tg (em κ x) ws fun Γ' => WE C ER.none Γ' Λ elt fun d Λ' => Λ' = Λ ∧ ∃ z, d = em κ z ∧ Q' z) :
    ∀ (xs : List U) (acc : List D), acc.length + xs.length < 10000000 → wp (mapC f xs) (fun zs => P (acc ++ ems κ zs)) no → CompP C Γ Λ tg ws [] elt P (ems κ xs) acc
  | [], acc, hm, h => by
    have h : P (acc ++ []) := h
    rw [List.append_nil] at h; exact h
  | x :: xs, acc, hm, h => by
    rw [List.length_cons] at hm
    refine ⟨by omega, wg_mono (hb x _ (wp_calm (wp_bind h))) fun Γ' h' => we_mono h' fun d Λ' ⟨e, z, e2, q⟩ => ⟨e, ?_⟩⟩
    subst e2
    refine comp_cp hb xs _ (by simp; omega) (wp_mono (wp_bind q) (fun zs q => ?_) fun _ _ h => h)
    have q : P (acc ++ (em κ z :: ems κ zs)) := q
    rw [List.append_assoc]; exact q
theorem comp_cf {g : U → M Bool} {f : U → M U} {elt c : Expr} {P : List D → Prop} (hb : ∀ x Qb Q', wp (g x) Qb no → (Qb true → wp (f x) Q' no) → WG C Γ Λ tg (em κ x) ws fun Γ' => WT C ER.none Γ' Λ c fun b Λ' => Λ' = Λ ∧ Qb b ∧ (b = true → WE C ER.none Γ' Λ elt fun d Λ' => Λ' = Λ ∧ ∃ z, d = em κ z ∧ Q' z)) :
    ∀ (xs : List U) (acc : List D), acc.length + xs.length < 10000000 → wp (filC g f xs) (fun zs => P (acc ++ ems κ zs)) no → CompP C Γ Λ tg ws [c] elt P (ems κ xs) acc
  | [], acc, hm, h => by
    have h : P (acc ++ []) := h
    rw [List.append_nil] at h; exact h
  | x :: xs, acc, hm, h => by
    rw [List.length_cons] at hm
    replace h := wp_calm (wp_bind h)
    refine ⟨by omega, wg_mono (hb x (fun b => wp (if b = true then (f x).calm.bind fun y => (filC g f xs).bind fun ys => .ok (y :: ys) else filC g f xs) (fun zs => P (acc ++ ems κ zs)) no) (fun z => wp ((filC g f xs).bind fun ys => .ok (z :: ys)) (fun zs => P (acc ++ ems κ zs)) no) h fun h => ?_) fun Γ' h' => wt_mono h' fun b Λ' ⟨e, q, r⟩ => ⟨e, ?_⟩⟩
    · rw [if_pos rfl] at h; exact wp_calm (wp_bind h)
    · cases b with
      | false =>
        rw [if_neg (by simp)] at q ⊢
        exact comp_cf hb xs _ (by omega) q
      | true =>
        rw [if_pos rfl]
        have e := e.symm; subst e
        refine we_mono (r rfl) fun d Λ' ⟨e, z, e2, q⟩ => ⟨e, ?_⟩
        subst e2
        refine comp_cf hb xs _ (by simp; omega) (wp_mono (wp_bind q) (fun zs q => ?_) fun _ _ h => h)
        have q : P (acc ++ (em κ z :: ems κ zs)) := q
        rw [List.append_assoc]; exact q
end
section
variable {κ : Kl} {C : Pl.Ctx} {Γ : Pl.Env} {Λ : Cells} {α : Type} {Q : α → Prop} {Eh : Str → List U → Prop} {tg : Expr} {ws : List Nat}
/-- a comprehension as a whole -/
theorem comp_m {f : U → M U} {elt : Expr} {P : List D → Prop} {xs : List U} {k : List U → M α} (h : wp ((compM f xs).bind k) Q Eh)
    (hb : ∀ x Q', wp (f x) Q' no → WG C Γ Λ tg (em κ x) ws fun Γ' => WE C ER.none Γ' Λ elt fun d Λ' => Λ' = Λ ∧ ∃ z, d = em κ z ∧ Q' z) (i : ∀ zs, wp (k zs) Q Eh → P (ems κ zs)) : CompP C Γ Λ tg ws [] elt P (ems κ xs) [] := by
  obtain ⟨h1, h2⟩ := wp_sz (wp_bind h)
  refine comp_cp hb xs [] (by simpa using h1) ?_
  have key : ∀ xs : List U, ∀ c us, mapC f xs ≠ .err c us := by
    intro xs
    induction xs with
    | nil => intro c us e; cases e
    | cons x xs ih =>
      intro c us e
      unfold mapC at e
      cases e1 : f x <;> rw [e1] at e <;> try cases e
      cases e2 : mapC f xs <;> rw [e2] at e <;> try cases e
      exact ih _ _ e2
  cases e : mapC f xs with
  | stuck => rw [e] at h2; exact h2.elim
  | err c us => exact absurd e (key _ _ _)
  | ok a => rw [e] at h2; exact i a h2
theorem compF_m {g : U → M Bool} {f : U → M U} {elt c : Expr} {P : List D → Prop} {xs : List U} {k : List U → M α} (h : wp ((compF g f xs).bind k) Q Eh)
    (hb : ∀ x Qb Q', wp (g x) Qb no → (Qb true → wp (f x) Q' no) → WG C Γ Λ tg (em κ x) ws fun Γ' => WT C ER.none Γ' Λ c fun b Λ' => Λ' = Λ ∧ Qb b ∧ (b = true → WE C ER.none Γ' Λ elt fun d Λ' => Λ' = Λ ∧ ∃ z, d = em κ z ∧ Q' z)) (i : ∀ zs, wp (k zs) Q Eh → P (ems κ zs)) : CompP C Γ Λ tg ws [c] elt P (ems κ xs) [] := by
  obtain ⟨h1, h2⟩ := wp_sz (wp_bind h)
  refine comp_cf hb xs [] (by simpa using h1) ?_
  have key : ∀ xs : List U, ∀ c us, filC g f xs ≠ .err c us := by
    intro xs
    induction xs with
    | nil => intro c us e; cases e
    | cons x xs ih =>
      intro c us e
      unfold filC at e
      cases e1 : g x <;> rw [e1] at e <;> try cases e
      rename_i b
      have e : (if b = true then _ else _) = M.err c us := e
      split at e
      · cases e3 : f x <;> rw [e3] at e <;> try cases e
        cases e2 : filC g f xs <;> rw [e2] at e <;> try cases e
        exact ih _ _ e2
      · exact ih _ _ e
  cases e : filC g f xs with
  | stuck => rw [e] at h2; exact h2.elim
  | err c us => exact absurd e (key _ _ _)
  | ok a => rw [e] at h2; exact i a h2
end
/-! ### defs -/
section
variable {κ : Kl} {G : Gl}
theorem fn_none {x : Str} {st : Stmt} {ps : List Str} {S : Pl.Spec} {qn : Str} (h : DefAt G.K G.mg x st ps qn) {k : Nat} (hn : ∀ ds Λ Q E, ¬ S ds Λ Q E) : G.fn k x ps.length S := h.none hn
theorem spV_none {n : Nat} {f : List U → M U} (hf : ∀ us, f us = .stuck) (ds : List D) (Λ : Cells) (Q : Res → Cells → Prop) (E : Err → Cells → Prop) : ¬ spV κ n f ds Λ Q E := fun ⟨_, us, _, _, h⟩ => by rw [hf] at h; exact h
theorem spN_none {n : Nat} {f : List U → M (List U)} (hf : ∀ us, f us = .stuck) (ds : List D) (Λ : Cells) (Q : Res → Cells → Prop) (E : Err → Cells → Prop) : ¬ spN κ n f ds Λ Q E := fun ⟨_, us, _, _, h⟩ => by rw [hf] at h; exact h
/-- the refusals that a def may leave with -/
def erM (κ : Kl) (Eh : Str → List U → Prop) : ER := fun e _ _ => ∃ c us, e = errD κ c us ∧ Eh c us
theorem EI.erM {Eh : Str → List U → Prop} : EI κ Eh (erM κ Eh) := fun c us _ _ h => ⟨c, us, rfl, h⟩
/-- what a def's body is to reach: a value -/
def rtV (κ : Kl) (Q : U → Prop) (r : Res) (Λ : Cells) : Prop := (∃ u, r = .val (em κ u) ∧ Q u) ∨ (∃ n ks us, r = .val (.loc n) ∧ Λ[n]? = some (.dic ks (ems κ us)) ∧ Q (.dic ks us))
/-- .. a new list -/
def rtL (κ : Kl) (Q : List U → Prop) (r : Res) (Λ : Cells) : Prop := (∃ us, r = .new (ems κ us) ∧ Q us) ∨ (∃ n us, r = .val (.loc n) ∧ Λ[n]? = some (.lst (ems κ us)) ∧ Q us)
theorem def_V {x : Str} {st : Stmt} {ps : List Str} {qn : Str} (h : DefAt G.K G.mg x st ps qn) {N : List Str} {vs ls : List Bool} {gl : List Str} {k : Nat} {f : List U → M U} (sc : FnScope N ps (defScope st)) (good : goodC N (defScope st) vs ls gl = true)
    (hb : ∀ us, us.length = ps.length → ∀ Q Eh, wp (f us) Q Eh → WSs (G.cx N (defScope st) vs ls gl k 0) (Γ0 N (ems κ us)) [] (defBody st) ⟨fun _ _ => Q .non, rtV κ Q, fun _ _ => False, fun _ _ => False, erM κ Eh⟩) : G.fn (k + 1) x ps.length (spV κ ps.length f) :=
  def_okC (m := 0) h sc good (fun ds Λ Q E ⟨h, _⟩ => by subst h; exact Nat.le_refl _) fun ds Λ Q E hl ⟨h0, us, h1, h2, h3⟩ => by
    subst h0; subst h1
    refine wss_mono (hb us h2 _ _ h3) ⟨fun Γ Λ p => ?_, fun r Λ p => ?_, fun _ _ z => z, fun _ _ z => z, fun e Γ Λ p => ?_⟩
    · exact ⟨0, Nat.le_refl _, rfl, .inl ⟨rfl, p⟩⟩
    · rcases p with ⟨u, rfl, q⟩ | ⟨n, ks, us, rfl, q1, q2⟩
      · exact ⟨0, Nat.le_refl _, rfl, .inl ⟨ltD_nl _ (nl_em u), q⟩⟩
      · exact ⟨0, Nat.le_refl _, rfl, .inr (.inr ⟨n, ks, _, Nat.zero_le _, rfl, q1, nls_em us, q2⟩)⟩
    · obtain ⟨c, es, rfl, q⟩ := p
      exact ⟨nlE_errD, rfl, q⟩
theorem def_N {x : Str} {st : Stmt} {ps : List Str} {qn : Str} (h : DefAt G.K G.mg x st ps qn) {N : List Str} {vs ls : List Bool} {gl : List Str} {k : Nat} {f : List U → M (List U)} (sc : FnScope N ps (defScope st)) (good : goodC N (defScope st) vs ls gl = true)
    (hb : ∀ us, us.length = ps.length → ∀ Q Eh, wp (f us) Q Eh → WSs (G.cx N (defScope st) vs ls gl k 0) (Γ0 N (ems κ us)) [] (defBody st) ⟨fun _ _ => False, rtL κ Q, fun _ _ => False, fun _ _ => False, erM κ Eh⟩) : G.fn (k + 1) x ps.length (spN κ ps.length f) :=
  def_okC (m := 0) h sc good (fun ds Λ Q E ⟨h, _⟩ => by subst h; exact Nat.le_refl _) fun ds Λ Q E hl ⟨h0, us, h1, h2, h3⟩ => by
    subst h0; subst h1
    refine wss_mono (hb us h2 _ _ h3) ⟨fun Γ Λ p => p.elim, fun r Λ p => ?_, fun _ _ z => z, fun _ _ z => z, fun e Γ Λ p => ?_⟩
    · rcases p with ⟨u, rfl, q⟩ | ⟨n, us, rfl, q1, q2⟩
      · exact ⟨0, Nat.le_refl _, rfl, .inl ⟨nls_em u, q⟩⟩
      · exact ⟨0, Nat.le_refl _, rfl, .inr (.inl ⟨n, _, Nat.zero_le _, rfl, q1, nls_em us, q2⟩)⟩
    · obtain ⟨c, es, rfl, q⟩ := p
      exact ⟨nlE_errD, rfl, q⟩
/-- the law's own def -/
theorem law_M {x p : Str} {st : Stmt} {N : List Str} {vs ls : List Bool} {gl : List Str} {k n : Nat} {f : Addr} {fd : FuncData} {m : List U → M U} (F : Fun G.K x x st f fd) (sc : FnScope N [p] (defScope st)) (good : goodC N (defScope st) vs ls gl = true)
    (hb : ∀ us, us.length = 1 → ∀ Q Eh, wp (m us) Q Eh → WSs (G.cx N (defScope st) vs ls gl k 0) (Γ0 N (ems κ us)) [] (defBody st) ⟨fun _ _ => Q .non, rtV κ Q, fun _ _ => False, fun _ _ => False, erM κ Eh⟩)
    (hm : ∀ ns : List Int, ns.length ≤ n → m [.fzl (ns.map .int)] = .ok (.bl true)) : FnG G.P G.w G.K G.mg G.base (L2.CX G.P G.w) (k + 1) f fd [p] (spOf G.K 1 (lawSpec n)) :=
  law_ok F sc good fun ns hl => by
    have e : [em κ (.fzl (ns.map .int))] = [D.fzl (ns.map .int)] := by rw [em, ems_map, List.map_map]; rfl
    have := hb [.fzl (ns.map .int)] rfl (fun u => u = .bl true) no (by rw [hm ns hl]; exact rfl)
    have e2 : ems κ [.fzl (ns.map .int)] = [D.fzl (ns.map .int)] := e
    rw [e2] at this
    refine wss_mono this ⟨fun Γ Λ p => (by cases p), fun r Λ p => ?_, fun _ _ z => z, fun _ _ z => z, fun e Γ Λ p => ?_⟩
    · rcases p with ⟨u, rfl, rfl⟩ | ⟨n, ks, us, rfl, q1, q2⟩
      · rfl
      · cases q2
    · obtain ⟨c, es, rfl, q⟩ := p
      exact q
end
end Sh

/-! Sh4: the rules of expressions, in the pure reading. -/
namespace Sh
open PySem L2 Pl PyProof.Rows
abbrev Tr : Str → List U → Prop := fun _ _ => True
theorem wp_ret {α : Type} {m : M α} {P : α → Prop} {E : Str → List U → Prop} (h : wp m P E) : wp (m.bind .ok) P E := by cases m <;> exact h
section
variable {κ : Kl} {Λ : Cells} {α β : Type} {Q : α → Prop} {Eh : Str → List U → Prop} {x y : D}
theorem fin0 {m : M β} {k : β → M α} {P : β → Prop} (h : wp (m.bind k) Q Eh) (i : ∀ z, wp (k z) Q Eh → P z) : wp m P Tr := wp_mono (wp_bind h) i fun _ _ _ => trivial
theorem fin1 {f : U → M β} {k : β → M α} {P : β → Prop} (u : U) (hx : Vw κ Λ x u) (h : wp ((f u).bind k) Q Eh) (i : ∀ z, wp (k z) Q Eh → P z) : ∃ u, Vw κ Λ x u ∧ wp (f u) P Tr := ⟨u, hx, fin0 h i⟩
/-- the arguments of a call -/
theorem finF {β : Type} {n : Nat} {f : List U → M β} {E : ER} {Γ : Pl.Env} {ds : List D} {k : β → M α} {P : β → Prop} (us : List U) (hd : ds = ems κ us) (hn : us.length = n) (hE : EI κ Eh E) (h : wp ((f us).bind k) Q Eh) (i : ∀ z, wp (k z) Q Eh → P z) : ∃ us, ds = ems κ us ∧ us.length = n ∧ wp (f us) P (fun c es => E (errD κ c es) Γ Λ) :=
  ⟨us, hd, hn, wp_mono (wp_bind h) i fun c es h => hE _ _ _ _ h⟩
theorem fin2 {f : U → U → M β} {k : β → M α} {P : β → Prop} (u v : U) (hx : Vw κ Λ x u) (hy : Vw κ Λ y v) (h : wp ((f u v).bind k) Q Eh) (i : ∀ z, wp (k z) Q Eh → P z) : ∃ u v, Vw κ Λ x u ∧ Vw κ Λ y v ∧ wp (f u v) P Tr := ⟨u, v, hx, hy, fin0 h i⟩
end
section
variable {κ : Kl} {C : Pl.Ctx} {E : ER} {Γ : Pl.Env} {Λ : Cells} {P : D → Cells → Prop} {Pt : Bool → Cells → Prop} {Pn : List D → Cells → Prop} {pos p : Pos} {a b e e2 : Expr}
/-- two operands, an operation -/
abbrev Op2 (κ : Kl) (C : Pl.Ctx) (E : ER) (Γ : Pl.Env) (Λ : Cells) (a b : Expr) (f : U → U → M U) (P : D → Cells → Prop) : Prop := WE C E Γ Λ a fun x Λ1 => WE C E Γ Λ1 b fun y Λ2 => ∃ u v, Vw κ Λ2 x u ∧ Vw κ Λ2 y v ∧ wp (f u v) (fun z => P (em κ z) Λ2) Tr
abbrev Op2t (κ : Kl) (C : Pl.Ctx) (E : ER) (Γ : Pl.Env) (Λ : Cells) (a b : Expr) (f : U → U → M Bool) (P : Bool → Cells → Prop) : Prop := WE C E Γ Λ a fun x Λ1 => WE C E Γ Λ1 b fun y Λ2 => ∃ u v, Vw κ Λ2 x u ∧ Vw κ Λ2 y v ∧ wp (f u v) (fun z => P z Λ2) Tr
abbrev Op1 (κ : Kl) (C : Pl.Ctx) (E : ER) (Γ : Pl.Env) (Λ : Cells) (a : Expr) (f : U → M U) (P : D → Cells → Prop) : Prop := WE C E Γ Λ a fun x Λ1 => ∃ u, Vw κ Λ1 x u ∧ wp (f u) (fun z => P (em κ z) Λ1) Tr
abbrev Op1n (κ : Kl) (C : Pl.Ctx) (E : ER) (Γ : Pl.Env) (Λ : Cells) (a : Expr) (f : U → M (List U)) (P : List D → Cells → Prop) : Prop := WE C E Γ Λ a fun x Λ1 => ∃ u, Vw κ Λ1 x u ∧ wp (f u) (fun z => P (ems κ z) Λ1) Tr
theorem we_addM (h : Op2 κ C E Γ Λ a b addM P) : WE C E Γ Λ (.BinOp a .Add b pos) P := we_add (we_mono h fun x Λ1 h => we_mono h fun y Λ2 ⟨u, v, hx, hy, h⟩ => addP_m (P := fun d => P d Λ2) u v hx hy (wp_ret h) fun z h => h)
theorem we_subM (h : Op2 κ C E Γ Λ a b subM P) : WE C E Γ Λ (.BinOp a .Sub b pos) P := we_sub (we_mono h fun x Λ1 h => we_mono h fun y Λ2 ⟨u, v, hx, hy, h⟩ => subP_m (P := fun d => P d Λ2) u v hx hy (wp_ret h) fun z h => h)
theorem we_mulM (h : Op2 κ C E Γ Λ a b mulM P) : WE C E Γ Λ (.BinOp a .Mult b pos) P := we_mul (we_mono h fun x Λ1 h => we_mono h fun y Λ2 ⟨u, v, hx, hy, h⟩ => mulP_m (P := fun d => P d Λ2) u v hx hy (wp_ret h) fun z h => h)
theorem we_fdivM (h : Op2 κ C E Γ Λ a b fdivM P) : WE C E Γ Λ (.BinOp a .FloorDiv b pos) P := we_fdiv (we_mono h fun x Λ1 h => we_mono h fun y Λ2 ⟨u, v, hx, hy, h⟩ => fdivP_m (P := fun d => P d Λ2) u v hx hy (wp_ret h) fun z h => h)
theorem we_modM (h : Op2 κ C E Γ Λ a b modM P) : WE C E Γ Λ (.BinOp a .Mod b pos) P := we_mod (we_mono h fun x Λ1 h => we_mono h fun y Λ2 ⟨u, v, hx, hy, h⟩ => modP_m (P := fun d => P d Λ2) u v hx hy (wp_ret h) fun z h => h)
theorem we_negM (h : Op1 κ C E Γ Λ a negM P) : WE C E Γ Λ (.UnaryOp .USub a pos) P := we_neg (we_mono h fun x Λ1 ⟨u, hx, h⟩ => negP_m (P := fun d => P d Λ1) u hx (wp_ret h) fun z h => h)
/-! comparisons, as values and as tests -/
abbrev vB (f : U → U → M Bool) (u v : U) : M U := (f u v).bind fun b => .ok (.bl b)
theorem vB_wp {m : M Bool} {P : U → Prop} (h : wp (m.bind fun b => .ok (.bl b)) P Tr) : wp m (fun b => P (.bl b)) Tr := by cases m <;> exact h
abbrev nB (f : U → U → M Bool) (u v : U) : M Bool := (f u v).bind fun b => .ok (!b)
theorem nB_wp {m : M Bool} {P : Bool → Prop} (h : wp (m.bind fun b => .ok (!b)) P Tr) : wp m (fun b => P (!b)) Tr := by cases m <;> exact h
theorem wt_eqM (h : Op2t κ C E Γ Λ a b eqM Pt) : WT C E Γ Λ (.Compare a [.Eq] [b] pos) Pt := wt_eq (we_mono h fun x Λ1 h => we_mono h fun y Λ2 ⟨u, v, hx, hy, h⟩ => eqP_m (Pb := fun d => Pt d Λ2) u v hx hy (wp_ret h) fun z h => h)
theorem wt_neM (h : Op2t κ C E Γ Λ a b (nB eqM) Pt) : WT C E Γ Λ (.Compare a [.NotEq] [b] pos) Pt := wt_ne (we_mono h fun x Λ1 h => we_mono h fun y Λ2 ⟨u, v, hx, hy, h⟩ => eqP_m (Pb := fun d => Pt (!d) Λ2) u v hx hy (wp_ret (nB_wp h)) fun z h => h)
theorem wt_ltM (h : Op2t κ C E Γ Λ a b ltM Pt) : WT C E Γ Λ (.Compare a [.Lt] [b] pos) Pt := wt_lt (we_mono h fun x Λ1 h => we_mono h fun y Λ2 ⟨u, v, hx, hy, h⟩ => ltP_m (Pb := fun d => Pt d Λ2) u v hx hy (wp_ret h) fun z h => h)
theorem wt_gtM (h : Op2t κ C E Γ Λ a b gtM Pt) : WT C E Γ Λ (.Compare a [.Gt] [b] pos) Pt := wt_gt (we_mono h fun x Λ1 h => we_mono h fun y Λ2 ⟨u, v, hx, hy, h⟩ => gtP_m (Pb := fun d => Pt d Λ2) u v hx hy (wp_ret h) fun z h => h)
theorem wt_inM (h : Op2t κ C E Γ Λ a b inM Pt) (hm : behindInMarks .In b = false := by rfl) : WT C E Γ Λ (.Compare a [.In] [b] pos) Pt := wt_in (we_mono h fun x Λ1 h => we_mono h fun y Λ2 ⟨u, v, hx, hy, h⟩ => inP_m (Pb := fun d => Pt d Λ2) u v hx hy (wp_ret h) fun z h => h) hm
theorem wt_ninM (h : Op2t κ C E Γ Λ a b (nB inM) Pt) (hm : behindInMarks .NotIn b = false := by rfl) : WT C E Γ Λ (.Compare a [.NotIn] [b] pos) Pt := wt_nin (we_mono h fun x Λ1 h => we_mono h fun y Λ2 ⟨u, v, hx, hy, h⟩ => inP_m (Pb := fun d => Pt (!d) Λ2) u v hx hy (wp_ret (nB_wp h)) fun z h => h) hm
theorem we_eqM (h : Op2 κ C E Γ Λ a b (vB eqM) P) : WE C E Γ Λ (.Compare a [.Eq] [b] pos) P := we_eq (we_mono h fun x Λ1 h => we_mono h fun y Λ2 ⟨u, v, hx, hy, h⟩ => eqP_m (Pb := fun d => P (.bl d) Λ2) u v hx hy (wp_ret (vB_wp h)) fun z h => h)
theorem wt_isM (h : Op2t κ C E Γ Λ a b isM Pt) : WT C E Γ Λ (.Compare a [.Is] [b] pos) Pt :=
  wt_cmpK (fun X is => op_isN.or op_is_bl) (we_mono h fun x Λ1 p => we_mono p fun y Λ2 ⟨u, v, hx, hy, q⟩ => by
    have q : isP x y fun c => Pt c Λ2 := isP_m (Pb := fun d => Pt d Λ2) u v hx hy (wp_ret q) fun z h => h
    intro F B α σ H vx vy Q S rx ry k
    unfold isP at q
    split at q
    · obtain ⟨c, hc, p⟩ := q
      unfold Rep at ry
      refine .inl ⟨ry, ?_⟩
      have := isN_rep rx hc
      rw [this]
      exact k _ _ _ _ _ _ ⟨_, rfl, p⟩ S (Ex.refl B) (List.prefix_refl _) (by unfold Rep; rfl)
    · obtain ⟨c, rfl, p'⟩ := q
      unfold Rep at rx ry
      exact .inr ⟨_, _, rx, ry, k _ _ _ _ _ _ ⟨_, rfl, p'⟩ S (Ex.refl B) (List.prefix_refl _) (by unfold Rep; rfl)⟩
    · exact q.elim) (nomark b)
/-- x is not None -/
def isntM (x y : U) : M Bool := match y with
  | .non => .ok (!isNone x)
  | _ => .stuck
theorem isntP {u v : U} {x y : D} {P' : Bool → Prop} (hx : Vw κ Λ x u) (hy : Vw κ Λ y v) (h : wp (isntM u v) P' Tr) : y = .non ∧ ∃ c, isN x = some c ∧ P' (!c) := by
  unfold isntM at h
  split at h
  · have h2 : isP x y (fun c => P' (!c)) := isP_m (Pb := fun d => P' (!d)) (Q := fun b => P' (!b)) (Eh := Tr) (kb := .ok) u .non hx hy h fun z h => h
    have e2 : y = .non := hy.atom (by simp) (by simp) (by simp)
    subst e2
    exact ⟨rfl, h2⟩
  · exact h.elim
theorem wt_isntM (h : Op2t κ C E Γ Λ a b isntM Pt) : WT C E Γ Λ (.Compare a [.IsNot] [b] pos) Pt :=
  wt_isnt (we_mono h fun x Λ1 h => we_mono h fun y Λ2 ⟨u, v, hx, hy, h⟩ => isntP (P' := fun c => Pt c Λ2) hx hy h)
/-! and, or, not, tests by value -/
theorem we_andM {rest : List Expr} (h : WE C E Γ Λ a fun x Λ1 => ∃ u, Vw κ Λ1 x u ∧ wp (boolM u) (fun c => if c = true then WE C E Γ Λ1 (.BoolOp .And (b :: rest) pos) P else P (.bl false) Λ1) Tr) : WE C E Γ Λ (.BoolOp .And (a :: b :: rest) pos) P :=
  we_and (we_mono h fun x Λ1 ⟨u, hx, h⟩ => boolP_m u hx (wp_ret h) fun z h => h)
theorem wt_valM (h : WE C E Γ Λ a fun x Λ1 => ∃ u, Vw κ Λ1 x u ∧ wp (boolM u) (fun c => Pt c Λ1) Tr) (he : ∀ (env : PySem.Env) whole, isTrue a env whole = (do let v ← whole; standAt a.pos; holding [v] (truthy v)) := by intro _ _; rfl) : WT C E Γ Λ a Pt :=
  wt_val (we_mono h fun x Λ1 ⟨u, hx, h⟩ => boolP_m (Pb := fun c => Pt c Λ1) u hx (wp_ret h) fun z h => h) he
/-! subscripts, slices -/
theorem we_ixM (h : Op2 κ C E Γ Λ a b ixM P) (hs : PlainIx b := by intro _ _; rfl) : WE C E Γ Λ (.Subscript a b pos) P := we_ix (we_mono h fun x Λ1 h => we_mono h fun y Λ2 ⟨u, v, hx, hy, h⟩ => ixP_m (P := fun d => P d Λ2) u v hx hy (wp_ret h) fun z h => h) hs
theorem we_ixdM (h : Op2 κ C E Γ Λ a b ixdM P) (hs : NoSl b := by intro _ _; rfl) : WE C E Γ Λ (.Subscript a b pos) P := we_ixd (we_mono h fun x Λ1 h => we_mono h fun y Λ2 ⟨u, v, hx, hy, h⟩ => ixdP_m (P := fun d => P d Λ2) u v hx hy (wp_ret h) fun z h => h) hs
/-- a slice's end -/
def WOM (κ : Kl) (C : Pl.Ctx) (E : ER) (Γ : Pl.Env) (Λ : Cells) : Option Expr → (Option Int → Cells → Prop) → Prop
  | none, P => P none Λ
  | some e, P => WE C E Γ Λ e fun x Λ1 => ∃ u, Vw κ Λ1 x u ∧ wp (endM u) (fun z => P z Λ1) Tr
theorem wo_of {o : Option Expr} {P : Option Int → Cells → Prop} (h : WOM κ C E Γ Λ o P) : WO C E Γ Λ o P := by
  cases o with
  | none => exact h
  | some e => exact we_mono h fun x Λ1 ⟨u, hx, h⟩ => endP_m (Po := fun z => P z Λ1) u hx (wp_ret h) fun z h => h
theorem wo_mono {o : Option Expr} {P P' : Option Int → Cells → Prop} (h : WO C E Γ Λ o P) (i : ∀ z Λ, P z Λ → P' z Λ) : WO C E Γ Λ o P' := by
  cases o with
  | none => exact i _ _ h
  | some e => exact we_mono h fun x Λ1 ⟨j, e, h⟩ => ⟨j, e, i _ _ h⟩
theorem we_slM {lo hi : Option Expr} {p2 : Pos} (h : WE C E Γ Λ a fun x Λ1 => WOM κ C E Γ Λ1 lo fun l Λ2 => WOM κ C E Γ Λ2 hi fun r Λ3 => ∃ u, Vw κ Λ3 x u ∧ wp (slM u l r) (fun z => P (em κ z) Λ3) Tr) : WE C E Γ Λ (.Subscript a (.Slice lo hi none p2) pos) P :=
  we_sl (we_mono h fun x Λ1 h => wo_mono (wo_of h) fun l Λ2 h => wo_mono (wo_of h) fun r Λ3 ⟨u, hx, h⟩ => slP_m (P := fun d => P d Λ3) u hx (wp_ret h) fun z h => h)
/-! built-ins -/
theorem we_lenM (hj : GlAt C "len") (hm : C.mg "len" = none) (h : Op1 κ C E Γ Λ e lenM P) (he : plainE e = true := by rfl) : WE C E Γ Λ (.Call (.Name "len" p) [e] [] pos) P := we_len hj hm (we_mono h fun x Λ1 ⟨u, hx, h⟩ => lenP_m (P := fun d => P d Λ1) u hx (wp_ret h) fun z h => h) he
theorem wn_listM (hj : GlAt C "list") (hm : C.mg "list" = none) (h : Op1n κ C E Γ Λ e listM Pn) (he : plainE e = true := by rfl) : WN C E Γ Λ (.Call (.Name "list" p) [e] [] pos) Pn := wn_list hj hm (we_mono h fun x Λ1 ⟨u, hx, h⟩ => listP_m (Pl' := fun d => Pn d Λ1) u hx (wp_ret h) fun z h => h) he
theorem we_sumM [Cool C] (hj : GlAt C "sum") (hm : C.mg "sum" = none) (h : Op1 κ C E Γ Λ e sumM P) (he : plainE e = true := by rfl) : WE C E Γ Λ (.Call (.Name "sum" p) [e] [] pos) P := we_sum hj hm (we_mono h fun x Λ1 ⟨u, hx, h⟩ => sumP_m (P := fun d => P d Λ1) u hx (wp_ret h) fun z h => h) he
theorem we_intM (hj : GlAt C "int") (hm : C.mg "int" = none) (h : Op1 κ C E Γ Λ e intM P) (he : plainE e = true := by rfl) : WE C E Γ Λ (.Call (.Name "int" p) [e] [] pos) P := we_toInt hj hm (we_mono h fun x Λ1 ⟨u, hx, h⟩ => intOfP_m (P := fun d => P d Λ1) u hx (wp_ret h) fun z h => h) he
theorem we_isiM {x : Str} {T : String} {p2 : Pos} (hj : GlAt C "isinstance") (hm : C.mg "isinstance" = none) (hj2 : GlAt C x) (hm2 : C.mg x = none) (hv : bootBuiltins x = some (.type T)) (h : Op1 κ C E Γ Λ e (fun u => isiM u T) P) (he : plainE e = true := by rfl)
    (hn : x ≠ "__name__" := by decide) (hd : (x == ("__debug__" : Str)) = false := by decide) : WE C E Γ Λ (.Call (.Name "isinstance" p) [e, .Name x p2] [] pos) P := we_isiN hj hm hj2 hm2 hv (we_mono h fun x Λ1 ⟨u, hx, h⟩ => isiP_m (P := fun d => P d Λ1) u hx (wp_ret h) fun z h => h) he hn hd
/-! what is walked -/
variable {tg : Expr}
theorem wi_range1M (hj : GlAt C "range") (hm : C.mg "range" = none) (h : Op1n κ C E Γ Λ a range1M Pn) (ha : plainE a = true := by rfl) : WI C E Γ Λ tg (.Call (.Name "range" p) [a] [] pos) Pn := wi_range1 hj hm (we_mono h fun x Λ1 ⟨u, hx, h⟩ => rng1P_m (Pl' := fun d => Pn d Λ1) u hx (wp_ret h) fun z h => h) ha
abbrev OpI (κ : Kl) (C : Pl.Ctx) (E : ER) (Γ : Pl.Env) (Λ : Cells) (a : Expr) (f : U → M (List U)) (P : List D → Cells → Prop) : Prop := WE C E Γ Λ a fun x Λ1 => ∃ u, x = em κ u ∧ wp (f u) (fun z => P (ems κ z) Λ1) Tr
theorem wi_LM (h : OpI κ C E Γ Λ e iterL Pn) : WI C E Γ Λ tg e Pn := wi_list (we_mono h fun x Λ1 ⟨u, hx, h⟩ => by subst hx; exact iterLP_m (Pl' := fun d => Pn d Λ1) u (wp_ret h) fun z h => h)
theorem wi_TM (h : OpI κ C E Γ Λ e iterT Pn) : WI C E Γ Λ tg e Pn := wi_tup (we_mono h fun x Λ1 ⟨u, hx, h⟩ => by subst hx; exact iterTP_m (Pl' := fun d => Pn d Λ1) u (wp_ret h) fun z h => h)
theorem finI {α : Type} {Q : α → Prop} {Eh : Str → List U → Prop} {f : U → M (List U)} {k : List U → M α} {P : List U → Prop} (u : U) (h : wp ((f u).bind k) Q Eh) (i : ∀ z, wp (k z) Q Eh → P z) : ∃ v, em κ u = em κ v ∧ wp (f v) P Tr := ⟨u, rfl, fin0 h i⟩
/-! targets -/
variable {α : Type} {Q : α → Prop} {Eh : Str → List U → Prop} {ws : List Nat} {Pg : Pl.Env → Prop}
theorem tg2 {k : U × U → M α} (u : U) (h : wp ((un2 u).bind k) Q Eh) (i : ∀ a b, wp (k (a, b)) Q Eh → WG C Γ Λ tg (.tup [em κ a, em κ b]) ws Pg) : WG C Γ Λ tg (em κ u) ws Pg := by
  replace h := wp_bind h
  unfold un2 at h
  split at h
  · exact i _ _ h
  · exact h.elim
/-! methods of owned lists -/
variable {apos cpos : Pos} {o : Expr}
theorem we_appM (n : Nat) (h : WE C E Γ Λ o fun x Λ1 => x = .loc n ∧ (∃ us : List U, Λ1[n]? = some (.lst (ems κ us))) ∧ WE C E Γ Λ1 e fun y Λ2 => ∃ us u, y = em κ u ∧ Λ2[n]? = some (.lst (ems κ us)) ∧ wp (appM us u) (fun z => P .non (Λ2.set n (.lst (ems κ z)))) Tr)
    (ho : plainO o = true := by rfl) (he : plainE e = true := by rfl) (hl : (apos.endLine == cpos.line) = true := by rfl) : WE C E Γ Λ (.Call (.Attribute o "append" apos) [e] [] cpos) P :=
  we_append (we_mono h fun x Λ1 ⟨hx, ⟨us0, h0⟩, h⟩ => ⟨n, _, hx, h0, we_mono h fun y Λ2 ⟨us, u, hy, h1, h⟩ => by
    subst hy
    obtain ⟨h2, h3⟩ := wp_sz h
    refine ⟨_, h1, by rw [ems_len]; exact sz_ltt h2, ?_⟩
    have h3 : P .non (Λ2.set n (.lst (ems κ (us ++ [u])))) := h3
    rw [ems_app] at h3; exact h3⟩) ho he hl
theorem we_extM (n : Nat) (h : WE C E Γ Λ o fun x Λ1 => x = .loc n ∧ (∃ us : List U, Λ1[n]? = some (.lst (ems κ us))) ∧ WE C E Γ Λ1 e fun y Λ2 => ∃ us u, Vw κ Λ2 y u ∧ Λ2[n]? = some (.lst (ems κ us)) ∧ wp (extM us u) (fun z => P .non (Λ2.set n (.lst (ems κ z)))) Tr)
    (ho : plainO o = true := by rfl) (he : plainE e = true := by rfl) (hl : (apos.endLine == cpos.line) = true := by rfl) : WE C E Γ Λ (.Call (.Attribute o "extend" apos) [e] [] cpos) P :=
  we_extend (we_mono h fun x Λ1 ⟨hx, ⟨us0, h0⟩, h⟩ => ⟨n, _, hx, h0, we_mono h fun y Λ2 ⟨us, u, hy, h1, h⟩ =>
    extP_m (P := fun d Λ => P d Λ) u hy h1 (wp_ret h) fun z h => h⟩) ho he hl
theorem finA {f : List U → U → M (List U)} {n : Nat} {k : List U → M α} {P : List U → Prop} (us : List U) (u : U) (hn : Λ[n]? = some (.lst (ems κ us))) (h : wp ((f us u).bind k) Q Eh) (i : ∀ z, wp (k z) Q Eh → P z) : ∃ us v, em κ u = em κ v ∧ Λ[n]? = some (.lst (ems κ us)) ∧ wp (f us v) P Tr := ⟨us, u, rfl, hn, fin0 h i⟩
theorem finV {f : List U → U → M (List U)} {n : Nat} {y : D} {k : List U → M α} {P : List U → Prop} (us : List U) (u : U) (hy : Vw κ Λ y u) (hn : Λ[n]? = some (.lst (ems κ us))) (h : wp ((f us u).bind k) Q Eh) (i : ∀ z, wp (k z) Q Eh → P z) : ∃ us v, Vw κ Λ y v ∧ Λ[n]? = some (.lst (ems κ us)) ∧ wp (f us v) P Tr := ⟨us, u, hy, hn, fin0 h i⟩
variable {R : Rs} {pos' : Pos} {i : Expr}
theorem rtV_v {Q : U → Prop} {u : U} (h : Q u) : rtV κ Q (.val (em κ u)) Λ := .inl ⟨u, rfl, h⟩
theorem rtL_v {Q : List U → Prop} {us : List U} (h : Q us) : rtL κ Q (.new (ems κ us)) Λ := .inl ⟨us, rfl, h⟩
theorem rtL_o {Q : List U → Prop} {n : Nat} {us : List U} (hn : Λ[n]? = some (.lst (ems κ us))) (h : Q us) : rtL κ Q (.val (.loc n)) Λ := .inr ⟨n, us, rfl, hn, h⟩
theorem rtV_imp {Q : U → Prop} {c : U} {r : Res} (hr : rtV κ (fun u => u = c) r Λ) (h : Q c) : rtV κ Q r Λ := by
  rcases hr with ⟨u, rfl, rfl⟩ | ⟨n, ks, us, rfl, h1, h2⟩
  · exact .inl ⟨_, rfl, h⟩
  · subst h2; exact .inr ⟨n, ks, us, rfl, h1, h⟩
/-- a list that was owned is seen from now on; slot j told it -/
theorem freezeM {st : List Stmt} (n j : Nat) (us : List U) (hm0 : C.m ≤ n) (hn : Λ[n]? = some (.lst (ems κ us))) (hg : Γ[j]? = some (some (.loc n))) (h : WSs C (Γ.set j (some (em κ (.lst us)))) (Λ.set n .gone) st R) : WSs C Γ Λ st R :=
  wss_freeze n (ems κ us) hm0 hn _ (by simp) (fun i d hi => by
    by_cases e : j = i
    · subst e
      rw [List.getElem?_set_self (List.getElem?_eq_some_iff.mp hg).1] at hi
      cases hi
      exact .inr ⟨hg, rfl⟩
    · rw [List.getElem?_set_ne e] at hi
      exact .inl hi) h
theorem szd {n : Nat} (h : n < 10000000) : n ≤ sizeLine := Pl.sz_lt h
theorem len1 {us : List U} (h : us.length = 1) : ∃ a, us = [a] := by
  match us, h with
  | [a], _ => exact ⟨a, rfl⟩
theorem len2 {us : List U} (h : us.length = 2) : ∃ a b, us = [a, b] := by
  match us, h with
  | [a, b], _ => exact ⟨a, b, rfl⟩
theorem len3 {us : List U} (h : us.length = 3) : ∃ a b c, us = [a, b, c] := by
  match us, h with
  | [a, b, c], _ => exact ⟨a, b, c, rfl⟩
theorem len4 {us : List U} (h : us.length = 4) : ∃ a b c d, us = [a, b, c, d] := by
  match us, h with
  | [a, b, c, d], _ => exact ⟨a, b, c, d, rfl⟩
end
end Sh

/-! Sh5: sayings as pure data; sorted. -/
namespace Sh
open PySem L2 Pl Law
/-- a saying's datum -/
def su : Sy → U
  | .no => .tup [.str "no"]
  | .lt l => .tup [.str "letter", .str l.s]
  | .not a => .tup [.str "not", su a]
  | .shown a => .tup [.str "shown", su a]
  | .bin o a b => .tup [.str o.s, su a, su b]
theorem em_su {κ : Kl} : ∀ s : Sy, em κ (su s) = s.pv
  | .no => rfl
  | .lt l => rfl
  | .not a => by rw [su, em, ems, ems, ems, em_su a]; rfl
  | .shown a => by rw [su, em, ems, ems, ems, em_su a]; rfl
  | .bin o a b => by rw [su, em, ems, ems, ems, ems, em_su a, em_su b]; rfl
theorem ems_su {κ : Kl} (ss : List Sy) : ems κ (ss.map su) = ss.map Sy.pv := by
  rw [ems_map, List.map_map]; exact List.map_congr_left fun s _ => em_su s
theorem pyU_su (s : Sy) : pyU (su s) = py s.pv := by rw [← em_su (κ := ⟨fun _ => 0, fun _ => []⟩) s, py_em]
theorem su_inj {s t : Sy} (h : su s = su t) : s = t := pv_inj (by rw [← pyU_su, ← pyU_su, h])
theorem map_inj {α β : Type} {f : α → β} (hf : ∀ a b, f a = f b → a = b) : ∀ {xs ys : List α}, xs.map f = ys.map f → xs = ys
  | [], [], _ => rfl
  | [], _ :: _, h => by simp at h
  | _ :: _, [], h => by simp at h
  | x :: xs, y :: ys, h => by
    rw [List.map_cons, List.map_cons, List.cons.injEq] at h
    rw [hf _ _ h.1, map_inj hf h.2]
end Sh
namespace Law
open PySem L2 Pl
/-- letters, in their order -/
def leL (a b : Lt) : Bool := decide (a.ix ≤ b.ix)
def sortL (ls : List Lt) : List Lt := ls.mergeSort leL
theorem leL_trans (a b c : Lt) (h : leL a b = true) (g : leL b c = true) : leL a c = true := by
  unfold leL at *; rw [decide_eq_true_eq] at *; omega
theorem leL_total (a b : Lt) : (leL a b || leL b a) = true := by
  unfold leL; rw [Bool.or_eq_true, decide_eq_true_eq, decide_eq_true_eq]; omega
theorem sortL_perm (ls : List Lt) : (sortL ls).Perm ls := List.mergeSort_perm ls leL
theorem sortL_pw (ls : List Lt) : (sortL ls).Pairwise fun a b => leL a b = true := List.pairwise_mergeSort leL_trans leL_total ls
theorem lix_inj {a b : Lt} (h : a.ix = b.ix) : a = b := by cases a <;> cases b <;> first | rfl | cases h
theorem leL_anti {a b : Lt} (h : leL a b = true) (g : leL b a = true) : a = b := by
  unfold leL at h g; rw [decide_eq_true_eq] at h g; exact lix_inj (by omega)
theorem sortL_uniq {l ls : List Lt} (hp : l.Perm ls) (hs : l.Pairwise fun a b => leL a b = true) : l = sortL ls :=
  List.Perm.eq_of_pairwise (le := fun a b => leL a b = true) (fun a b _ _ h g => leL_anti h g) hs (sortL_pw ls) (hp.trans (sortL_perm ls).symm)
theorem lt_leL : ∀ a b : Lt, PySem.Spec.ltCps b.s.cps.toList a.s.cps.toList = !leL a b := by intro a b; cases a <;> cases b <;> decide +kernel
theorem rising_L : ∀ (ms : List Lt) (a : Lt), PyProof.Rows.risingS a.s (ms.map Lt.s) = true → (a :: ms).Pairwise fun a b => leL a b = true
  | [], a, _ => List.pairwise_singleton ..
  | b :: ms, a, h => by
    rw [List.map_cons, PyProof.Rows.risingS, Bool.and_eq_true, lt_leL, Bool.not_not] at h
    have ih := rising_L ms b h.2
    refine List.pairwise_cons.mpr ⟨fun c hc => ?_, ih⟩
    rcases List.mem_cons.mp hc with rfl | hc
    · exact h.1
    · exact leL_trans _ _ _ h.1 ((List.pairwise_cons.mp ih).1 c hc)
theorem sortedS_L {ms : List Lt} (h : PyProof.Rows.sortedS (ms.map Lt.s) = true) : ms.Pairwise fun a b => leL a b = true := by
  cases ms with
  | nil => exact List.Pairwise.nil
  | cons a ms => exact rising_L ms a h
def unL (s : Str) : Lt := if s = "p" then .p else if s = "q" then .q else .r
theorem unL_s (a : Lt) : unL a.s = a := by cases a <;> decide +kernel
theorem perm_L {ys : List Str} {ls : List Lt} (h : ys.Perm (ls.map Lt.s)) (s : PyProof.Rows.sortedS ys = true) : ys = (sortL ls).map Lt.s := by
  have e : ys = (ys.map unL).map Lt.s := by
    rw [List.map_map]
    have e : ys.map (Lt.s ∘ unL) = ys.map id := List.map_congr_left fun y hy => by
      obtain ⟨a, _, rfl⟩ := List.mem_map.mp (h.mem_iff.mp hy)
      simp [unL_s]
    rw [e, List.map_id]
  rw [e] at s ⊢
  rw [sortL_uniq (l := ys.map unL) ?_ (sortedS_L s)]
  have := h.map unL
  rw [List.map_map] at this
  rw [show ls.map (unL ∘ Lt.s) = ls by rw [show (unL ∘ Lt.s) = id from funext unL_s]; simp] at this
  exact this
end Law
namespace Sh
open PySem L2 Pl Law
def ltU (l : Lt) : U := .str l.s
open Classical in
/-- sorted(xs) of sayings, of letters -/
noncomputable def sortedM (x : U) : M (List U) :=
  if h : ∃ ss : List Sy, itemsL x = some (ss.map su) ∧ ∀ s ∈ ss, s.ht ≤ 180 then .ok ((sortS h.choose).map su)
  else if h : ∃ ls : List Lt, itemsL x = some (ls.map ltU) ∧ ls.length < 64 then .ok ((sortL h.choose).map ltU) else .stuck
theorem sortedM_su {x : U} {ss : List Sy} (e : itemsL x = some (ss.map su)) (h : ∀ s ∈ ss, s.ht ≤ 180) : sortedM x = .ok ((sortS ss).map su) := by
  have hx : ∃ ss : List Sy, itemsL x = some (ss.map su) ∧ ∀ s ∈ ss, s.ht ≤ 180 := ⟨ss, e, h⟩
  unfold sortedM
  rw [dif_pos hx]
  have g := e.symm.trans hx.choose_spec.1
  rw [← map_inj (fun _ _ => su_inj) (Option.some.inj g)]
section
variable {κ : Kl} {C : Pl.Ctx} {E : ER} {Γ : Pl.Env} {Λ : Cells} {Pn : List D → Cells → Prop} {pos p : Pos} {e : Expr}
def rSortA (K : PySem.W.Frag) : List V → Hp → VK → Prop := fun vs H Q => rSortT K vs H Q ∨ rSortedS K vs H Q
theorem cr_sortA {X : Cx} (hu : X.A.units + 200 < cLine) : CallR X (.builtin "sorted") (rSortA X.K) := by
  intro pins z σ H vs us Q I r h
  rcases h with h | h
  · exact cr_sortT hu pins z σ H vs us Q I r h
  · exact cr_sortedS pins z σ H vs us Q I r h
theorem ems_ltU (ls : List Lt) : ems κ (ls.map ltU) = ls.map fun l => D.str l.s := by rw [ems_map, List.map_map]; rfl
theorem wn_sortedM (hj : GlAt C "sorted") (hm : C.mg "sorted" = none) (h : Op1n κ C E Γ Λ e sortedM Pn) (he : plainE e = true := by rfl) : WN C E Γ Λ (.Call (.Name "sorted" p) [e] [] pos) Pn :=
  wn_callB (r := rSortA C.K) (fun X is => crK rSortA is (cr_sortA is.u200)) hj hm boot_sorted' (wa_cons (we_mono h fun x Λ1 ⟨u, hx, h⟩ => wa_nil (by
    intro F B α σ H vs Q S rs q
    obtain ⟨v, rfl, rv⟩ := reps1 rs
    unfold sortedM at h
    split at h
    · rename_i hs
      obtain ⟨h1, h2⟩ := hs.choose_spec
      generalize hs.choose = ss at h h1 h2
      have h3 : Pn (ems κ ((sortS ss).map su)) Λ1 := h
      have h1 : lstD Λ1 x = some (ss.map Sy.pv) := by rw [items_of hx h1, ems_su]
      rw [ems_su] at h3
      obtain ⟨a, ws, rfl, g1, g2⟩ := S.seqL rv h1
      obtain ⟨z1, z2⟩ := reps_zip g2
      refine .inl ⟨a, ws, ss, rfl, g1, z1, fun y hy => ?_, fun ys t l1 l2 ht => ?_⟩
      · have ry := z2 y hy
        refine ⟨Rep.dp S.bh _ _ (Sy.pv_plain _) ry, ?_, h2 _ (List.of_mem_zip hy).2⟩
        obtain ⟨ds, e⟩ := Sy.pv_tup y.2
        rw [e] at ry
        unfold Rep at ry
        obtain ⟨b, _, hb, _⟩ := ry
        exact ⟨b, hb⟩
      · exact q _ Λ1 t ys B α _ h3 (S.grow (Ex.new ht)) (Ex.refl B) (List.prefix_refl _) upd_same (S.bh.back ht) (S.dm t ht) (fun ha => (S.ah t ha).1 ht) (zip_reps l1 fun y hy => z2 y (l2 y hy))
    · split at h
      · rename_i hs
        obtain ⟨h1, h2⟩ := hs.choose_spec
        generalize hs.choose = ls at h h1 h2
        have h3 : Pn (ems κ ((sortL ls).map ltU)) Λ1 := h
        have h1 : lstD Λ1 x = some (ls.map fun l => D.str l.s) := by rw [items_of hx h1, ems_ltU]
        rw [ems_ltU] at h3
        obtain ⟨a, ws, rfl, g1, g2⟩ := S.seqL rv h1
        have hw : ws = (ls.map Lt.s).map V.str := by
          have key : ∀ (ls : List Lt) (ws : List V), Reps C.K B α (ls.map fun l => D.str l.s) ws → ws = (ls.map Lt.s).map V.str := by
            intro ls
            induction ls with
            | nil => intro ws h; unfold Reps at h; subst h; rfl
            | cons l ls ih =>
              intro ws h
              rw [List.map_cons] at h
              unfold Reps at h
              obtain ⟨v, r, rfl, a1, a2⟩ := h
              unfold Rep at a1
              rw [a1, ih r a2]; rfl
          exact key ls ws g2
        subst hw
        refine .inr ⟨a, ls.map Lt.s, rfl, g1, by rw [List.length_map]; exact h2, fun ys t l1 l2 ht => ?_⟩
        have e := perm_L l1 l2
        subst e
        have hr : Reps C.K B α ((sortL ls).map fun l => D.str l.s) (((sortL ls).map Lt.s).map V.str) := by
          generalize sortL ls = ms
          induction ms with
          | nil => exact .nil
          | cons m ms ih => exact .cons (by unfold Rep; rfl) ih
        exact q _ Λ1 t _ B α _ h3 (S.grow (Ex.new ht)) (Ex.refl B) (List.prefix_refl _) upd_same (S.bh.back ht) (S.dm t ht) (fun ha => (S.ah t ha).1 ht) hr
      · exact h.elim)) he) (he := he)
end
end Sh

/-! Sh6: more that is walked: enumerate, zip, reversed, ranges down. -/
namespace Sh
open PySem L2 Pl PyProof.Rows
section
variable {K : PySem.W.Frag} {B : Hp}
theorem Reps.at {α : List Addr} {ds : List D} {vs : List V} {i : Nat} {d : D} {x : V} (r : Reps K B α ds vs) (h : ds[i]? = some d) (hx : vs[i]? = some x) : Rep K B α d x := by
  obtain ⟨v, h1, h2⟩ := r.get h
  rw [hx] at h1; cases h1; exact h2
end
/-! the pure side -/
def enumU (us : List U) : List U := us.mapIdx fun i u => .tup [.int (i : Nat), u]
def zipU (us vs : List U) : List U := List.zipWith (fun a b => .tup [a, b]) us vs
def enumM (x : U) : M (List U) := match itemsL x with
  | some us => .ok (enumU us)
  | none => .stuck
def zipM (x y : U) : M (List U) := match itemsL x, itemsL y with
  | some us, some vs => .ok (zipU us vs)
  | _, _ => .stuck
def revM (x : U) : M (List U) := match itemsL x with
  | some us => .ok us.reverse
  | none => .stuck
section
variable {κ : Kl} {C : Pl.Ctx} {E : ER} {Γ : Pl.Env} {Λ : Cells} {Pn : List D → Cells → Prop} {pos p tpos : Pos} {e e2 tg : Expr} {elts : List Expr} {kk : Nat}
end
end Sh

/-! Sh7: cells handed, cells handed back; tuples of owned lists. -/
namespace Sh
open PySem L2 Pl PyProof.Rows
section
variable {κ : Kl} {Λ : Cells}
theorem ren_em {f : Nat → Nat} (u : U) : ren f (em κ u) = em κ u := ren_nl _ (nl_em u)
theorem ltD_em {m : Nat} (u : U) : ltD m (em κ u) = true := ltD_nl _ (nl_em u)
/-- looked through all cells, d is u -/
def Vx (κ : Kl) (Λ : Cells) (d : D) (u : U) : Prop := dv Λ d = em κ u
theorem Vx.cell {n : Nat} {us : List U} (h : Λ[n]? = some (.lst (ems κ us))) : Vx κ Λ (.loc n) (.lst us) := by
  unfold Vx dv; rw [h]; rfl
theorem Vx.tup {ds : List D} {us : List U} (h : dvs Λ ds = ems κ us) : Vx κ Λ (.tup ds) (.tup us) := by
  unfold Vx dv; rw [h]; rfl
theorem Vx.lst {ds : List D} {us : List U} (h : dvs Λ ds = ems κ us) : Vx κ Λ (.lst ds) (.lst us) := by
  unfold Vx dv; rw [h]; rfl
theorem Vx.nil : dvs Λ [] = ems κ [] := rfl
theorem Vx.cons {d : D} {u : U} {ds : List D} {us : List U} (h : Vx κ Λ d u) (h2 : dvs Λ ds = ems κ us) : dvs Λ (d :: ds) = ems κ (u :: us) := by
  rw [dvs, ems, h2]; unfold Vx at h; rw [h]
end
section
variable {κ : Kl} {C : Pl.Ctx} {E : ER} {Γ : Pl.Env} {Λ : Cells} {P : D → Cells → Prop} {Pt : Bool → Cells → Prop} {Pn : List D → Cells → Prop} {pos p : Pos} {a b e e2 : Expr}
/-- an operation that is known -/
theorem known {α β : Type} {Q : α → Prop} {Eh : Str → List U → Prop} {m : M β} {v : β} {k : β → M α} {A : Prop} (e : m = .ok v) (h : wp (m.bind k) Q Eh) (i : wp (k v) Q Eh → A) : A := by subst e; exact i h
end
/-! ### promises with cells -/
def spK (κ : Kl) {α γ β : Type} (Dd : α → List D) (L : α → Cells) (f : α → M γ) (g : γ → M β) (R : β → Res) (L' : α → β → Cells) : Pl.Spec := fun ds Λ Q _ => ∃ a, ds = Dd a ∧ Λ = L a ∧ wp (f a) (fun z => wp (g z) (fun w => Q (R w) (L' a w)) no) no
section
variable {κ : Kl} {α γ β : Type} {Dd : α → List D} {L : α → Cells} {f : α → M γ} {g : γ → M β} {R : β → Res} {L' : α → β → Cells}
theorem spK_mono : Mono (spK κ Dd L f g R L') := fun ds Λ Q Q' E E' ⟨a, h1, h2, h3⟩ i j => ⟨a, h1, h2, wp_mono h3 (fun z h => wp_mono h (fun w h => i _ _ h) fun _ _ h => h) fun _ _ h => h⟩
theorem spK_none (hf : ∀ a, f a = .stuck) (ds : List D) (Λ : Cells) (Q : Res → Cells → Prop) (E : Err → Cells → Prop) : ¬ spK κ Dd L f g R L' ds Λ Q E := fun ⟨a, _, _, h⟩ => by rw [hf] at h; exact h
variable {C : Pl.Ctx} {E : ER} {Γ : Pl.Env} {Λ : Cells} {pos p : Pos}
/-- the end of a call with cells -/
theorem kc {n : Nat} {ds : List D} {Pr : Res → Cells → Prop} (ls : List Nat) (a : α) (r2 : β → Res) (Λ2 : β → Cells) (h0 : Hand Λ ls) (h1 : ds = rens (gI ls Λ.length) (Dd a)) (h2 : ltDs ls.length (Dd a) = true) (h3 : (Dd a).length = n) (h4 : cellsAt Λ ls = L a)
    (h5 : ∀ w, (L' a w).all nlC = true) (h6 : ∀ w, match R w with | .val d => r2 w = .val (ren (gI ls Λ.length) d) | .new ds => nls ds = true ∧ r2 w = .new ds) (h7 : ∀ w, putB Λ ls (L' a w) = Λ2 w)
    (h : wp (f a) (fun z => wp (g z) (fun w => Pr (r2 w) (Λ2 w)) no) no) : CallC n (spK κ Dd L f g R L') E Γ Λ ds Pr := by
  refine ⟨ls, Dd a, h0, h1, h2, h3, a, rfl, h4, wp_mono h (fun z h => wp_mono h (fun w h => ⟨h5 w, ?_⟩) fun _ _ h => h) fun _ _ h => h⟩
  have h6 := h6 w
  rw [h7]
  cases e : R w with
  | val d => rw [e] at h6; dsimp only at h6 ⊢; rw [← h6]; exact h
  | new ds => rw [e] at h6; dsimp only at h6 ⊢; rw [← h6.2]; exact ⟨h6.1, h⟩
end
theorem finK1 {α γ : Type} {Q : α → Prop} {Eh : Str → List U → Prop} {m : M γ} {k : γ → M α} {P : γ → Prop} (h : wp (m.calm.bind k) Q Eh) (i : ∀ w, wp (k w) Q Eh → P w) : wp m (fun z => wp (M.ok z) P no) no :=
  wp_mono (wp_calm (wp_bind h)) (fun z h => i z h) fun _ _ h => h
/-! defs -/
section
variable {κ : Kl} {G : Gl} {α γ β : Type} {Dd : α → List D} {L : α → Cells} {f : α → M γ} {g : γ → M β} {R : β → Res} {L' : α → β → Cells}
def rtK (L0 : Cells) (R : β → Res) (L' : β → Cells) (Q : β → Prop) (r : Res) (Λ' : Cells) : Prop := ∃ w, Q w ∧ rtY L0 (fun r Λ => r = R w ∧ Λ = L' w) r Λ'
theorem def_K {x : Str} {st : Stmt} {ps : List Str} {qn : Str} (h : DefAt G.K G.mg x st ps qn) {N : List Str} {vs ls : List Bool} {gl : List Str} {k : Nat} (m : Nat) (sc : FnScope N ps (defScope st)) (good : goodC N (defScope st) vs ls gl = true)
    (hm : ∀ a, (L a).length ≤ m)
    (hb : ∀ a Q, wp (f a) (fun z => wp (g z) Q no) no → WSs (G.cx N (defScope st) vs ls gl k m) (Γ0 N (Dd a)) (L a) (defBody st) ⟨fun _ Λ' => rtK (L a) R (L' a) Q (.val .non) Λ', rtK (L a) R (L' a) Q, fun _ _ => False, fun _ _ => False, ER.none⟩) : G.fn (k + 1) x ps.length (spK κ Dd L f g R L') :=
  def_okC (m := m) h sc good (fun ds Λ Q E ⟨a, _, h, _⟩ => by subst h; exact hm a) fun ds Λ Q E hl ⟨a, h1, h2, h3⟩ => by
    subst h1; subst h2
    have key : ∀ r Λ', rtK (L a) R (L' a) (fun w => Q (R w) (L' a w)) r Λ' → rtY (L a) Q r Λ' := fun r Λ' ⟨w, q, m, a1, a2, a3⟩ => by
      refine ⟨m, a1, a2, ?_⟩
      rcases a3 with ⟨b1, b2, b3⟩ | ⟨n, ds, c1, c2, c3, c4, c5, c6⟩ | ⟨n, ks, ds, c1, c2, c3, c4, c5, c6⟩
      · exact .inl ⟨b1, by rw [b2, b3]; exact q⟩
      · exact .inr (.inl ⟨n, ds, c1, c2, c3, c4, by rw [c5, c6]; exact q⟩)
      · exact .inr (.inr ⟨n, ks, ds, c1, c2, c3, c4, by rw [c5, c6]; exact q⟩)
    exact wss_mono (hb a _ h3) ⟨fun Γ Λ p => key _ _ p, fun r Λ p => key _ _ p, fun _ _ z => z, fun _ _ z => z, fun e Γ Λ p => p.elim⟩
variable {L0 Λ : Cells} {L1 : β → Cells} {Q : β → Prop}
theorem rtK_v (w : β) (m : Nat) {d : D} (h : Q w) (e : R w = .val d) (h1 : L0.length ≤ m) (h2 : ltD m d = true) (h3 : Λ.take m = L1 w) (h4 : (L1 w).all nlC = true) : rtK L0 R L1 Q (.val d) Λ := ⟨w, h, m, h1, by rw [h3]; exact h4, .inl ⟨h2, e.symm, h3⟩⟩
end
/-! results that are taken apart -/
def gL2 : U → M (List U × List U)
  | .tup [.lst a, .lst b] => .ok (a, b)
  | _ => .stuck
end Sh
namespace Sh
open PySem L2 Pl PyProof.Rows
/-! the cells chosen anew between two statements -/
end Sh
namespace Sh
open PySem L2 Pl PyProof.Rows
end Sh

/-! Sh8: a def sees owned things, and hands back a bare word, number or truth. -/
namespace Sh
open PySem L2 Pl PyProof.Rows
mutual
/-- looked through all cells, dicts too -/
def fv (Λ : Cells) : D → D
  | .loc n => match Λ[n]? with
    | some (.lst ds) => .lst ds
    | some (.dic ks ds) => .dic ks ds
    | _ => .loc n
  | .tup ds => .tup (fvs Λ ds)
  | .lst ds => .lst (fvs Λ ds)
  | .fzl ds => .fzl (fvs Λ ds)
  | d => d
def fvs (Λ : Cells) : List D → List D
  | [] => []
  | d :: ds => fv Λ d :: fvs Λ ds
end
section
variable {K : PySem.W.Frag} {F : Fm} {B : Hp} {α : List Addr} {Γ : Pl.Env} {Λ : Cells} {σ : L2.St} {H : Hp}
end
/-- bare things -/
def atomM : U → M U
  | .non => .ok .non
  | .bl b => .ok (.bl b)
  | .int i => .ok (.int i)
  | .str s => .ok (.str s)
  | _ => .stuck
@[simp] theorem atomM_bl {b : Bool} : atomM (.bl b) = .ok (.bl b) := rfl
@[simp] theorem atomM_int {b : Int} : atomM (.int b) = .ok (.int b) := rfl
@[simp] theorem atomM_str {b : Str} : atomM (.str b) = .ok (.str b) := rfl
@[simp] theorem atomM_non : atomM .non = .ok .non := rfl
section
variable {κ : Kl} {C : Pl.Ctx} {E : ER} {Γ : Pl.Env} {Λ : Cells} {pos p : Pos}
end
end Sh

/-! Sh9: reckoning with the pure reading. -/
namespace Sh
open PySem L2 Pl Law
@[simp] theorem ofS_inj {a b : String} : (Str.ofString a = Str.ofString b) = (a = b) := by
  apply propext; constructor
  · intro h
    rw [Str.ofString_eq_toList, Str.ofString_eq_toList] at h
    have h1 : (a.toList.map Char.toNat) = b.toList.map Char.toNat := by
      have := congrArg (fun s : Str => s.cps.toList) h
      simpa using this
    have h2 : a.toList = b.toList := map_inj (fun c d e => Char.ext (UInt32.toNat_inj.mp e)) h1
    exact String.toList_injective h2
  · intro h; rw [h]
section
variable {i j : Int} {s t : Str} {us vs : List U}
@[simp] theorem addM_int : addM (.int i) (.int j) = .ok (.int (i + j)) := rfl
@[simp] theorem subM_int : subM (.int i) (.int j) = .ok (.int (i - j)) := rfl
@[simp] theorem negM_int : negM (.int i) = .ok (.int (-i)) := rfl
@[simp] theorem modM_int (h : 0 < j) : modM (.int i) (.int j) = .ok (.int (i % j)) := if_pos h
theorem p64 : (2 : Int) ^ 64 = 18446744073709551616 := by decide
theorem p64n : (2 : Nat) ^ 64 = 18446744073709551616 := by decide
theorem p62 : (2 : Int) ^ 62 = 4611686018427387904 := by decide
@[simp] theorem fdivM_int (h : 0 < j) (h2 : j < 18446744073709551616) : fdivM (.int i) (.int j) = .ok (.int (i / j)) := by
  have h3 : j < 2 ^ 8999 := Int.lt_of_lt_of_le h2 (by
    rw [← p64]
    have e : (2 : Int) ^ 8999 = 2 ^ 64 * 2 ^ 8935 := by rw [← Int.pow_add]
    rw [e]
    have : (0 : Int) < 2 ^ 8935 := Int.pow_pos (by decide)
    generalize (2 : Int) ^ 8935 = m at this
    rw [p64]; omega)
  exact if_pos (by rw [Bool.and_eq_true, decide_eq_true_eq, decide_eq_true_eq]; exact ⟨h, h3⟩)
theorem small_of (h : -18446744073709551616 < i) (h2 : i < 18446744073709551616) : small i = true := by
  unfold small; rw [Bool.and_eq_true, decide_eq_true_eq, decide_eq_true_eq, p64]; exact ⟨h, h2⟩
theorem mulM_r (h : -18446744073709551616 < j) (h2 : j < 18446744073709551616) : mulM (.int i) (.int j) = .ok (.int (i * j)) :=
  if_pos (by rw [small_of h h2, Bool.or_true])
theorem mulM_l (h : -18446744073709551616 < i) (h2 : i < 18446744073709551616) : mulM (.int i) (.int j) = .ok (.int (i * j)) :=
  if_pos (by rw [small_of h h2, Bool.true_or])
theorem powM_int (h : 0 ≤ j) (h2 : j ≤ 1000000) (h3 : i.natAbs < 18446744073709551616) : powM (.int i) (.int j) = .ok (.int (i ^ j.toNat)) :=
  if_pos (by rw [Bool.and_eq_true, Bool.and_eq_true, decide_eq_true_eq, decide_eq_true_eq, decide_eq_true_eq, p64n]; exact ⟨h, h2, h3⟩)
@[simp] theorem pow10_1 : powM (.int 10) (.int 1) = .ok (.int 10) := (powM_int (by decide) (by decide) (by decide)).trans (congrArg (fun z => M.ok (U.int z)) (by decide))
@[simp] theorem pow10_2 : powM (.int 10) (.int 2) = .ok (.int 100) := (powM_int (by decide) (by decide) (by decide)).trans (congrArg (fun z => M.ok (U.int z)) (by decide))
@[simp] theorem pow10_3 : powM (.int 10) (.int 3) = .ok (.int 1000) := (powM_int (by decide) (by decide) (by decide)).trans (congrArg (fun z => M.ok (U.int z)) (by decide))
@[simp] theorem pow10_4 : powM (.int 10) (.int 4) = .ok (.int 10000) := (powM_int (by decide) (by decide) (by decide)).trans (congrArg (fun z => M.ok (U.int z)) (by decide))
@[simp] theorem pow10_5 : powM (.int 10) (.int 5) = .ok (.int 100000) := (powM_int (by decide) (by decide) (by decide)).trans (congrArg (fun z => M.ok (U.int z)) (by decide))
@[simp] theorem pow10_6 : powM (.int 10) (.int 6) = .ok (.int 1000000) := (powM_int (by decide) (by decide) (by decide)).trans (congrArg (fun z => M.ok (U.int z)) (by decide))
@[simp] theorem pow10_7 : powM (.int 10) (.int 7) = .ok (.int 10000000) := (powM_int (by decide) (by decide) (by decide)).trans (congrArg (fun z => M.ok (U.int z)) (by decide))
@[simp] theorem pow10_8 : powM (.int 10) (.int 8) = .ok (.int 100000000) := (powM_int (by decide) (by decide) (by decide)).trans (congrArg (fun z => M.ok (U.int z)) (by decide))
@[simp] theorem pow10_9 : powM (.int 10) (.int 9) = .ok (.int 1000000000) := (powM_int (by decide) (by decide) (by decide)).trans (congrArg (fun z => M.ok (U.int z)) (by decide))
@[simp] theorem pow10_12 : powM (.int 10) (.int 12) = .ok (.int 1000000000000) := (powM_int (by decide) (by decide) (by decide)).trans (congrArg (fun z => M.ok (U.int z)) (by decide))
@[simp] theorem pow10_15 : powM (.int 10) (.int 15) = .ok (.int 1000000000000000) := (powM_int (by decide) (by decide) (by decide)).trans (congrArg (fun z => M.ok (U.int z)) (by decide))
@[simp] theorem pow10_18 : powM (.int 10) (.int 18) = .ok (.int 1000000000000000000) := (powM_int (by decide) (by decide) (by decide)).trans (congrArg (fun z => M.ok (U.int z)) (by decide))
@[simp] theorem pow10_20 : powM (.int 10) (.int 20) = .ok (.int 100000000000000000000) := (powM_int (by decide) (by decide) (by decide)).trans (congrArg (fun z => M.ok (U.int z)) (by decide))
@[simp] theorem pow10_24 : powM (.int 10) (.int 24) = .ok (.int 1000000000000000000000000) := (powM_int (by decide) (by decide) (by decide)).trans (congrArg (fun z => M.ok (U.int z)) (by decide))
@[simp] theorem pow10_30 : powM (.int 10) (.int 30) = .ok (.int 1000000000000000000000000000000) := (powM_int (by decide) (by decide) (by decide)).trans (congrArg (fun z => M.ok (U.int z)) (by decide))
@[simp] theorem ltM_int : ltM (.int i) (.int j) = .ok (decide (i < j)) := rfl
@[simp] theorem leM_int : leM (.int i) (.int j) = .ok (decide (i ≤ j)) := rfl
@[simp] theorem gtM_int : gtM (.int i) (.int j) = .ok (decide (j < i)) := rfl
@[simp] theorem geM_int : geM (.int i) (.int j) = .ok (decide (j ≤ i)) := rfl
@[simp] theorem eqM_int : eqM (.int i) (.int j) = .ok (decide (i = j)) := by
  unfold eqM
  rw [if_pos (by simp [pl, dp, pyU, PyData.plain, PyData.depth])]
  simp only [pyU, PyData.eqv]; by_cases h : i = j <;> simp [h]
@[simp] theorem eqM_str : eqM (.str s) (.str t) = .ok (decide (s = t)) := by
  unfold eqM
  rw [if_pos (by simp [pl, dp, pyU, PyData.plain, PyData.depth])]
  simp only [pyU]; rw [Law.Sy.strs_eqv]
@[simp] theorem eqM_bl {a b : Bool} : eqM (.bl a) (.bl b) = .ok (decide (a = b)) := by
  unfold eqM
  rw [if_pos (by simp [pl, dp, pyU, PyData.plain, PyData.depth])]
  have e : PyData.eqv (pyU (.bl a)) (pyU (.bl b)) = decide (a = b) := bl_eqv a b
  rw [e]
@[simp] theorem boolM_bl {b : Bool} : boolM (.bl b) = .ok b := rfl
@[simp] theorem endM_int : endM (.int i) = .ok (some i) := rfl
@[simp] theorem isM_non {x : U} : isM x .non = .ok (isNone x) := by cases x <;> rfl
@[simp] theorem isntM_non {x : U} : isntM x .non = .ok (!isNone x) := by cases x <;> rfl
@[simp] theorem isM_bl {a b : Bool} : isM (.bl a) (.bl b) = .ok (decide (a = b)) := rfl
@[simp] theorem lenM_lst : lenM (.lst us) = .ok (.int us.length) := rfl
@[simp] theorem lenM_fzl : lenM (.fzl us) = .ok (.int us.length) := rfl
@[simp] theorem lenM_tup : lenM (.tup us) = .ok (.int us.length) := rfl
@[simp] theorem iterL_lst : iterL (.lst us) = .ok us := rfl
@[simp] theorem iterL_fzl : iterL (.fzl us) = .ok us := rfl
@[simp] theorem iterT_tup : iterT (.tup us) = .ok us := rfl
@[simp] theorem iterS_str : iterS (.str s) = .ok (s.cps.toList.map fun c => .str ⟨#[c]⟩) := rfl
@[simp] theorem listM_lst : listM (.lst us) = .ok us := rfl
@[simp] theorem listM_fzl : listM (.fzl us) = .ok us := rfl
@[simp] theorem listM_tup : listM (.tup us) = .ok us := rfl
@[simp] theorem tupleM_lst : tupleM (.lst us) = .ok (.tup us) := rfl
@[simp] theorem tupleM_tup : tupleM (.tup us) = .ok (.tup us) := rfl
@[simp] theorem range1M_int (h : -4611686018427387904 ≤ i) (h2 : i < 4611686018427387904) : range1M (.int i) = .ok (rangeU 0 i.toNat) :=
  if_pos (by rw [Bool.and_eq_true, decide_eq_true_eq, decide_eq_true_eq, p62]; exact ⟨h, h2⟩)
@[simp] theorem isi_tup : isiM (.tup us) "tuple" = .ok (.bl true) := rfl
@[simp] theorem isi_lst : isiM (.lst us) "list" = .ok (.bl true) := rfl
@[simp] theorem isi_bl {b : Bool} : isiM (.bl b) "bool" = .ok (.bl true) := rfl
@[simp] theorem isi_str : isiM (.str s) "str" = .ok (.bl true) := rfl
@[simp] theorem isi_int : isiM (.int i) "int" = .ok (.bl true) := rfl
@[simp] theorem isi_st : isiM (.str s) "tuple" = .ok (.bl false) := rfl
@[simp] theorem isi_ts : isiM (.tup us) "str" = .ok (.bl false) := rfl
@[simp] theorem isi_ib : isiM (.int i) "bool" = .ok (.bl false) := rfl
/-! subscripts -/
theorem ixM_seq {x : U} (hx : seqU x = some us) : ixM x (.int i) = match atI us i with | some u => .ok u | none => .stuck := by
  cases x <;> first | (cases hx; done) | (simp only [seqU, Option.some.injEq] at hx; subst hx; rfl)
theorem ixM_at {u : U} {x : U} (hx : seqU x = some us) (h : atI us i = some u) : ixM x (.int i) = .ok u := by rw [ixM_seq hx, h]
theorem ixM_get {k : Nat} {u : U} {x : U} (hx : seqU x = some us) (h : us[k]? = some u) : ixM x (.int (k : Int)) = .ok u := by
  have hk := (List.getElem?_eq_some_iff.mp h).1
  have e : ixN us.length (k : Int) = some k := by
    unfold L2.ixN
    rw [if_pos (by omega), if_pos (by exact_mod_cast hk)]; simp
  exact ixM_at hx (by unfold L2.atI; rw [e]; exact h)
@[simp] theorem ix_t0 {a : U} : ixM (.tup (a :: us)) (.int 0) = .ok a := ixM_get (k := 0) rfl rfl
@[simp] theorem ix_t1 {a b : U} : ixM (.tup (a :: b :: us)) (.int 1) = .ok b := ixM_get (k := 1) rfl rfl
@[simp] theorem ix_t2 {a b c : U} : ixM (.tup (a :: b :: c :: us)) (.int 2) = .ok c := ixM_get (k := 2) rfl rfl
@[simp] theorem ix_t3 {a b c d : U} : ixM (.tup (a :: b :: c :: d :: us)) (.int 3) = .ok d := ixM_get (k := 3) rfl rfl
@[simp] theorem ix_l0 {a : U} : ixM (.lst (a :: us)) (.int 0) = .ok a := ixM_get (k := 0) rfl rfl
@[simp] theorem ix_l1 {a b : U} : ixM (.lst (a :: b :: us)) (.int 1) = .ok b := ixM_get (k := 1) rfl rfl
@[simp] theorem ix_l2 {a b c : U} : ixM (.lst (a :: b :: c :: us)) (.int 2) = .ok c := ixM_get (k := 2) rfl rfl
/-- the last one -/
@[simp] theorem ix_last {u : U} : ixM (.lst (us ++ [u])) (.int (-1)) = .ok u := by
  refine ixM_at rfl ?_
  unfold L2.atI L2.ixN
  rw [if_neg (by omega), if_pos (by rw [List.length_append]; simp only [List.length_cons, List.length_nil]; omega)]
  have e : (-1 + ((us ++ [u]).length : Int)).toNat = us.length := by rw [List.length_append]; simp only [List.length_cons, List.length_nil]; omega
  rw [e]; simp
/-- an index that is known to be within -/
theorem ixM_any {x : U} (hx : seqU x = some us) (h1 : 0 ≤ i) (h2 : i < us.length) : ∃ u ∈ us, ixM x (.int i) = .ok u := by
  obtain ⟨k, rfl⟩ := Int.eq_ofNat_of_zero_le h1
  have hk : k < us.length := by exact_mod_cast h2
  exact ⟨us[k], List.getElem_mem _, ixM_get hx (List.getElem?_eq_getElem hk)⟩
/-! lists that are owned -/
theorem appM_ok {x : U} (h : us.length < 10000000) : appM us x = .ok (us ++ [x]) := sz_ok h
@[simp] theorem popM_last {x : U} : popM (us ++ [x]) = .ok (x, us) := by unfold popM; simp
theorem extM_ok (h : us.length + vs.length < 10000000) : extM us (.lst vs) = .ok (us ++ vs) := sz_ok h
@[simp] theorem setM_last {x y : U} : setM (us ++ [x]) (.int (-1)) y = .ok (us ++ [y]) := by
  unfold setM
  have e : ixN (us ++ [x]).length (-1) = some us.length := by
    unfold L2.ixN
    rw [if_neg (by omega), if_pos (by simp only [List.length_append, List.length_cons, List.length_nil]; omega)]
    congr 1
    simp only [List.length_append, List.length_cons, List.length_nil]; omega
  dsimp only; rw [e]; simp
@[simp] theorem gL2_ok {a b : List U} : gL2 (.tup [.lst a, .lst b]) = .ok (a, b) := rfl
end
@[simp] theorem nB_ok {f : U → U → M Bool} {u v : U} : nB f u v = (f u v).bind fun b => .ok (!b) := rfl
@[simp] theorem vB_ok {f : U → U → M Bool} {u v : U} : vB f u v = (f u v).bind fun b => .ok (.bl b) := rfl
/-! total: m comes to something -/
def Ok {α : Type} (m : M α) (P : α → Prop) : Prop := ∃ a, m = .ok a ∧ P a
theorem Ok.bind {α β : Type} {m : M α} {k : α → M β} {P : α → Prop} {Q : β → Prop} (h : Ok m P) (i : ∀ a, P a → Ok (k a) Q) : Ok (m.bind k) Q := by
  obtain ⟨a, rfl, p⟩ := h; exact i a p
theorem Ok.ret {α : Type} {a : α} {P : α → Prop} (h : P a) : Ok (.ok a) P := ⟨a, rfl, h⟩
theorem Ok.of {α : Type} {m : M α} {a : α} {P : α → Prop} (e : m = .ok a) (h : P a) : Ok m P := ⟨a, e, h⟩
theorem Ok.mono {α : Type} {m : M α} {P P' : α → Prop} (h : Ok m P) (i : ∀ a, P a → P' a) : Ok m P' := by
  obtain ⟨a, e, p⟩ := h; exact ⟨a, e, i a p⟩
theorem Ok.calm {α : Type} {m : M α} {P : α → Prop} (h : Ok m P) : Ok m.calm P := by
  obtain ⟨a, rfl, p⟩ := h; exact ⟨a, rfl, p⟩
theorem Ok.eq {α : Type} {m : M α} {a : α} (h : Ok m fun z => z = a) : m = .ok a := by obtain ⟨z, e, rfl⟩ := h; exact e
theorem Ok.ite {α : Type} {c : Bool} {m m' : M α} {P : α → Prop} (h1 : c = true → Ok m P) (h2 : c = false → Ok m' P) : Ok (if c = true then m else m') P := by
  cases c
  · rw [if_neg (by simp)]; exact h2 rfl
  · rw [if_pos rfl]; exact h1 rfl
/-! loops -/
section
variable {σ ρ : Type}
theorem forN_inv {f : σ → U → M σ} (I : Nat → σ → Prop) : ∀ (xs : List U) (n : Nat) (s : σ), I n s → (∀ k x s, n ≤ k → xs[k - n]? = some x → I k s → Ok (f s x) (I (k + 1))) → Ok (forN f xs s) (I (n + xs.length))
  | [], n, s, h, _ => ⟨s, rfl, h⟩
  | x :: xs, n, s, h, i => by
    obtain ⟨s', e, h'⟩ := i n x s (Nat.le_refl _) (by simp) h
    have := forN_inv I xs (n + 1) s' h' fun k x s hk hx hs => i k x s (by omega) (by
      have e : k - n = (k - (n + 1)) + 1 := by omega
      rw [e]; simpa using hx) hs
    obtain ⟨s2, e2, h2⟩ := this
    refine ⟨s2, by rw [forN, e]; exact e2, ?_⟩
    have e3 : n + 1 + xs.length = n + (x :: xs).length := by simp; omega
    rw [e3] at h2; exact h2
theorem whN_down {c : σ → M Bool} {f : σ → M σ} (I : σ → Prop) (P : σ → Prop) (v : σ → Nat) (hc : ∀ s, I s → Ok (c s) fun b => if b = true then Ok (f s) (fun s' => I s' ∧ v s' < v s) else P s) : ∀ (n : Nat) (s : σ), I s → v s < n → Ok (whN c f n s) P
  | 0, s, _, h => absurd h (Nat.not_lt_zero _)
  | n + 1, s, hs, h => by
    obtain ⟨b, e, p⟩ := hc s hs
    cases b with
    | false => exact ⟨s, by rw [whN, e]; rfl, p⟩
    | true =>
      obtain ⟨s', e2, p1, p2⟩ := p
      obtain ⟨s2, e3, p3⟩ := whN_down I P v hc n s' p1 (by omega)
      exact ⟨s2, by rw [whN, e, M.bind_ok, if_pos rfl, e2]; exact e3, p3⟩
end
/-! comprehensions -/
theorem mapC_ok {β : Type} {f : U → M U} (g : β → U) (h : β → U) : ∀ {xs : List β}, (∀ x ∈ xs, f (g x) = .ok (h x)) → mapC f (xs.map g) = .ok (xs.map h)
  | [], _ => rfl
  | x :: xs, i => by
    rw [List.map_cons, mapC, i x (List.mem_cons_self ..), mapC_ok g h fun x hx => i x (List.mem_cons_of_mem _ hx)]; rfl
theorem compM_ok {β : Type} {f : U → M U} (g : β → U) (h : β → U) {xs : List β} (hl : xs.length < 10000000) (i : ∀ x ∈ xs, f (g x) = .ok (h x)) : compM f (xs.map g) = .ok (xs.map h) := by
  unfold compM; rw [sz_ok (by rw [List.length_map]; exact hl)]; exact mapC_ok g h i
theorem filC_ok {β : Type} {c : U → M Bool} {f : U → M U} (g : β → U) (p : β → Bool) (h : β → U) : ∀ {xs : List β}, (∀ x ∈ xs, c (g x) = .ok (p x)) → (∀ x ∈ xs, p x = true → f (g x) = .ok (h x)) → filC c f (xs.map g) = .ok ((xs.filter p).map h)
  | [], _, _ => rfl
  | x :: xs, i, j => by
    have ih := filC_ok g p h (fun x hx => i x (List.mem_cons_of_mem _ hx)) fun x hx => j x (List.mem_cons_of_mem _ hx)
    rw [List.map_cons, filC, i x (List.mem_cons_self ..)]
    simp only [M.calm_ok, M.bind_ok]
    cases e : p x with
    | false => rw [if_neg (by simp), ih, List.filter_cons_of_neg (by simp [e])]
    | true => rw [if_pos rfl, j x (List.mem_cons_self ..) e, ih, List.filter_cons_of_pos e]; rfl
theorem compF_ok {β : Type} {c : U → M Bool} {f : U → M U} (g : β → U) (p : β → Bool) (h : β → U) {xs : List β} (hl : xs.length < 10000000) (i : ∀ x ∈ xs, c (g x) = .ok (p x)) (j : ∀ x ∈ xs, p x = true → f (g x) = .ok (h x)) : compF c f (xs.map g) = .ok ((xs.filter p).map h) := by
  unfold compF; rw [sz_ok (by rw [List.length_map]; exact hl)]; exact filC_ok g p h i j
theorem All2.right {β γ : Type} {P : γ → Prop} {xs : List β} {ys : List γ} (h : All2 (fun _ z => P z) xs ys) : ∀ z ∈ ys, P z := by
  induction h with
  | nil => intro z hz; simp at hz
  | cons h1 _ ih =>
    intro z hz
    rcases List.mem_cons.mp hz with rfl | hz
    · exact h1
    · exact ih z hz
/-! sayings -/
theorem pl_su (s : Sy) : pl (su s) = true := by unfold pl; rw [pyU_su]; exact Sy.pv_plain s
theorem dp_su (s : Sy) : dp (su s) ≤ s.ht := by unfold dp; rw [pyU_su]; exact Sy.pv_depth s
theorem eqM_su {s t : Sy} (h : min s.ht t.ht ≤ 190) : eqM (su s) (su t) = .ok (decide (s = t)) := by
  unfold eqM
  have h1 := dp_su s; have h2 := dp_su t
  rw [if_pos (by rw [pl_su, pl_su]; simp only [Bool.true_and, decide_eq_true_eq]; omega), pyU_su, pyU_su, Sy.eqv_pv]
theorem pls_su (ss : List Sy) : PyData.plainAll (pyUs (ss.map su)) = true := by
  induction ss with
  | nil => rfl
  | cons s ss ih => rw [List.map_cons, pyUs, PyData.plainAll, ih, Bool.and_true]; exact pl_su s
theorem dps_su {ss : List Sy} {n : Nat} (h : ∀ s ∈ ss, s.ht ≤ n) : PyData.depthAll (pyUs (ss.map su)) ≤ n := by
  induction ss with
  | nil => simp [pyUs, PyData.depthAll]
  | cons s ss ih =>
    rw [List.map_cons, pyUs, PyData.depthAll]
    have h1 := dp_su s; unfold dp at h1
    have h2 := h s (List.mem_cons_self ..)
    have h3 := ih fun s hs => h s (List.mem_cons_of_mem _ hs)
    omega
/-- == of what bears no dicts and is not deep -/
theorem eqM_py {x y : U} (h1 : pl x = true) (h2 : pl y = true) (h3 : min (dp x) (dp y) ≤ 190) : eqM x y = .ok (PyData.eqv (pyU x) (pyU y)) := by
  unfold eqM; rw [if_pos (by rw [h1, h2]; simpa using h3)]
theorem eqM_rfl {x : U} (h1 : pl x = true) (h3 : dp x ≤ 190) : eqM x x = .ok true := by
  rw [eqM_py h1 h1 (by omega), PySem.SeqAt.eqv_refl_plain _ h1]
theorem pl_lst {us : List U} (h : PyData.plainAll (pyUs us) = true) : pl (.lst us) = true := by unfold pl pyU; rw [PyData.plain]; exact h
theorem inM_su {s : Sy} {ss : List Sy} {x : U} (hx : itemsL x = some (ss.map su)) (h : s.ht ≤ 190) : inM (su s) x = .ok (decide (s ∈ ss)) := by
  have key : ∀ us, seqU x = some us → us = ss.map su → inM (su s) x = .ok (decide (s ∈ ss)) := by
    intro us hs e
    subst e
    unfold inM
    have hnd : ∀ (ks : List Key) (us : List U), x ≠ .dic ks us := by rintro ks us rfl; cases hx
    have hns : ∀ t, x ≠ .str t := by rintro t rfl; cases hx
    split
    · exact absurd rfl (hns _)
    · exact absurd rfl (hnd _ _)
    · rw [hs]
      dsimp only
      rw [if_pos (by rw [pls_su, pl_su]; simp only [Bool.true_and, decide_eq_true_eq]; have := dp_su s; omega)]
      congr 1
      rw [List.any_map, Bool.eq_iff_iff, List.any_eq_true, decide_eq_true_eq]
      constructor
      · rintro ⟨t, ht, e⟩
        have e : PyData.eqv (pyU (su t)) (pyU (su s)) = true := e
        rw [pyU_su, pyU_su, Sy.eqv_pv, decide_eq_true_eq] at e
        rw [← e]; exact ht
      · intro hm
        exact ⟨s, hm, by show PyData.eqv (pyU (su s)) (pyU (su s)) = true; rw [pyU_su, Sy.eqv_pv]; simp⟩
  cases x <;> simp only [itemsL, Option.some.injEq, reduceCtorEq] at hx <;> subst hx <;> exact key _ rfl rfl
/-! folds -/
section
variable {σ ρ τ β : Type}
theorem forN_fold' {f : σ → U → M σ} (enc : τ → σ) (g : β → U) (step : τ → β → τ) (N : Nat) (I : Nat → τ → Prop) : ∀ (xs : List β) (n : Nat) (s : τ), n + xs.length = N → I n s → (∀ n s x, n < N → I n s → x ∈ xs → f (enc s) (g x) = .ok (enc (step s x)) ∧ I (n + 1) (step s x)) → forN f (xs.map g) (enc s) = .ok (enc (xs.foldl step s))
  | [], _, _, _, _, _ => rfl
  | x :: xs, n, s, hN, h, i => by
    rw [List.length_cons] at hN
    obtain ⟨e, h'⟩ := i n s x (by omega) h (List.mem_cons_self ..)
    rw [List.map_cons, forN, e, List.foldl_cons]
    exact forN_fold' enc g step N I xs (n + 1) (step s x) (by omega) h' fun n s y hn hs hy => i n s y hn hs (List.mem_cons_of_mem _ hy)
theorem forN_fold {f : σ → U → M σ} (enc : τ → σ) (g : β → U) (step : τ → β → τ) (I : Nat → τ → Prop) (xs : List β) (s : τ) (h : I 0 s) (i : ∀ n s x, n < xs.length → I n s → x ∈ xs → f (enc s) (g x) = .ok (enc (step s x)) ∧ I (n + 1) (step s x)) : forN f (xs.map g) (enc s) = .ok (enc (xs.foldl step s)) :=
  forN_fold' enc g step xs.length I xs 0 s (by omega) h i
end
theorem rangeU_len {lo : Int} {n : Nat} : (rangeU lo n).length = n := by unfold rangeU; simp
theorem rangeU_mem {lo : Int} {n : Nat} {x : U} (h : x ∈ rangeU lo n) : ∃ i : Nat, i < n ∧ x = .int (lo + i) := by
  unfold rangeU at h
  obtain ⟨i, hi, rfl⟩ := List.mem_map.mp h
  exact ⟨i, List.mem_range.mp hi, rfl⟩
/-- a list that is not empty ends with an item -/
theorem snoc_of {β : Type} {xs : List β} (h : xs ≠ []) : ∃ ys y, xs = ys ++ [y] := ⟨xs.dropLast, xs.getLast h, (List.dropLast_concat_getLast h).symm⟩
theorem forC_unit {ρ : Type} {f : Unit → U → M (Ct Unit ρ)} : ∀ {xs : List U}, (∀ x ∈ xs, f () x = .ok (.nx ())) → forC f xs () = .ok (.nx ())
  | [], _ => rfl
  | x :: xs, i => by
    rw [forC, i x (List.mem_cons_self ..), M.bind_ok]
    exact forC_unit fun x hx => i x (List.mem_cons_of_mem _ hx)
theorem pl_tup {us : List U} (h : PyData.plainAll (pyUs us) = true) : pl (.tup us) = true := by unfold pl pyU; rw [PyData.plain]; exact h
theorem dp_tup {us : List U} {n : Nat} (h : PyData.depthAll (pyUs us) ≤ n) : dp (.tup us) ≤ n + 1 := by unfold dp pyU; rw [PyData.depth]; omega
theorem pv_ht {s : Sy} {n : Nat} (h : s.size ≤ n) : s.ht ≤ n := Nat.le_trans (Sy.ht_size s) h
theorem eqM_nil {us : List U} (h : PyData.plainAll (pyUs us) = true) (hn : us ≠ []) : eqM (.lst us) (.lst []) = .ok false := by
  rw [eqM_py (pl_lst h) rfl (by have : dp (.lst []) = 1 := rfl; omega)]
  cases us with
  | nil => exact absurd rfl hn
  | cons a as => rfl
theorem two_pl {a b : List Sy} : PyData.plainAll (pyUs [.lst (a.map su), .lst (b.map su)]) = true := by
  simp only [pyUs, pyU, PyData.plainAll, PyData.plain, pls_su, Bool.and_self]
theorem two_dp {a b : List Sy} {n : Nat} (h : ∀ s ∈ a, s.ht ≤ n) (h2 : ∀ s ∈ b, s.ht ≤ n) : PyData.depthAll (pyUs [.lst (a.map su), .lst (b.map su)]) ≤ n + 1 := by
  have := dps_su h; have := dps_su h2
  simp only [pyUs, pyU, PyData.depthAll, PyData.depth]; omega
theorem Ok.bindw {α β : Type} {m : M α} {k : α → M β} {Q : β → Prop} (h : Ok m fun a => Ok (k a) Q) : Ok (m.bind k) Q := h.bind fun _ h => h
theorem Ok_ok {α : Type} {a : α} {P : α → Prop} : Ok (.ok a) P = P a := propext ⟨fun ⟨_, e, p⟩ => by cases e; exact p, fun h => ⟨a, rfl, h⟩⟩
theorem Ok_ite {α : Type} {c : Bool} {m m' : M α} {P : α → Prop} : Ok (if c = true then m else m') P = ((c = true → Ok m P) ∧ (c = false → Ok m' P)) := by
  cases c <;> simp
theorem Ok_itd {α : Type} {c : Prop} [Decidable c] {m m' : M α} {P : α → Prop} : Ok (if c then m else m') P = ((c → Ok m P) ∧ (¬ c → Ok m' P)) := by
  by_cases h : c <;> simp [h]
theorem Ok_bind {α β : Type} {m : M α} {k : α → M β} {Q : β → Prop} : Ok (m.bind k) Q = Ok m fun a => Ok (k a) Q := by
  apply propext; constructor
  · rintro ⟨b, e, q⟩
    cases m with
    | ok a => exact ⟨a, rfl, b, e, q⟩
    | stuck => cases e
    | err c us => cases e
  · exact Ok.bindw
theorem Ok_calm {α : Type} {m : M α} {P : α → Prop} : Ok m.calm P = Ok m P := by
  apply propext; constructor
  · rintro ⟨a, e, p⟩
    cases m with
    | ok b => exact ⟨a, e, p⟩
    | stuck => cases e
    | err c us => cases e
  · exact Ok.calm
/-- known to be, told as a wish -/
theorem Ok.is {α : Type} {m : M α} {a : α} {P : α → Prop} (e : m = .ok a) (h : P a) : Ok m P := ⟨a, e, h⟩
end Sh

/-! Sh10: sorted lists of sayings, each once. -/
namespace Law
open PySem L2 Pl Sh
/-- rising -/
def Rise (l : List Sy) : Prop := l.Pairwise fun a b => Sy.ltS a b = true
theorem ltS_irr (a : Sy) : Sy.ltS a a = false := by
  cases h : Sy.ltS a a with
  | false => rfl
  | true => have := lexN_asym _ _ h; rw [show lexN (Sy.code a) (Sy.code a) = Sy.ltS a a from rfl, h] at this; exact this
theorem rise_ext {l m : List Sy} (h : Rise l) (h2 : Rise m) (e : ∀ s, s ∈ l ↔ s ∈ m) : l = m := by
  have nd : ∀ {l : List Sy}, Rise l → l.Nodup := fun h => h.imp fun {a b} h e => by subst e; rw [ltS_irr] at h; cases h
  have p : l.Perm m := (List.perm_ext_iff_of_nodup (nd h) (nd h2)).mpr e
  refine List.Perm.eq_of_pairwise (le := fun a b => Sy.ltS a b = true) (fun a b _ _ h g => ?_) h h2 p
  have := lexN_asym _ _ h
  rw [show lexN (Sy.code b) (Sy.code a) = Sy.ltS b a from rfl, g] at this; cases this
theorem onceS_iff {x : Sy} {l : List Sy} : x ∈ onceS l ↔ x ∈ l := by
  refine ⟨onceS_mem, ?_⟩
  have key : ∀ (l acc : List Sy), (x ∈ acc ∨ x ∈ l) → x ∈ l.foldl (fun told one => if told.getLast? = some one then told else told ++ [one]) acc := by
    intro l
    induction l with
    | nil => intro acc h; rcases h with h | h
             · exact h
             · simp at h
    | cons y l ih =>
      intro acc h
      rw [List.foldl_cons]
      apply ih
      rcases h with h | h
      · left; split
        · exact h
        · exact List.mem_append_left _ h
      · rcases List.mem_cons.mp h with rfl | h
        · left; split
          · rename_i e; exact List.mem_of_getLast? e
          · simp
        · exact .inr h
  exact fun h => key l [] (.inr h)
theorem leS_of_not {a b : Sy} (h : leS a b = true) (n : a ≠ b) : Sy.ltS a b = true := by
  cases e : Sy.ltS a b with
  | true => rfl
  | false => exact absurd (leS_anti h (by unfold leS; rw [e]; rfl)) n
theorem once_rise {l : List Sy} (h : l.Pairwise fun a b => leS a b = true) : Rise (onceS l) := by
  have key : ∀ (n : Nat) (l : List Sy), l.length = n → (l.Pairwise fun a b => leS a b = true) → Rise (onceS l) := by
    intro n
    induction n with
    | zero => intro l hl _; rw [List.length_eq_zero_iff.mp hl]; exact List.Pairwise.nil
    | succ n ih =>
      intro l hl h
      obtain ⟨l, x, rfl⟩ := snoc_of (xs := l) (by intro e; subst e; simp at hl)
      rw [List.pairwise_append] at h
      obtain ⟨h1, _, h3⟩ := h
      have ih := ih l (by simpa using hl) h1
      rw [onceS_snoc]
      split
      · exact ih
      · rename_i hne
        refine List.pairwise_append.mpr ⟨ih, List.pairwise_singleton .., fun a ha b hb => ?_⟩
        rw [List.mem_singleton] at hb; subst hb
        refine leS_of_not (h3 a (onceS_mem ha) b (by simp)) fun e => ?_
        subst e
        obtain ⟨ys, z, e2⟩ := snoc_of (xs := onceS l) (by intro e; rw [e] at ha; simp at ha)
        rw [e2] at hne ha ih
        rcases List.mem_append.mp ha with q | q
        · have h4 := (List.pairwise_append.mp ih).2.2 a q z (by simp)
          have h5 := h3 z (onceS_mem (by rw [e2]; simp)) a (by simp)
          unfold leS at h5; rw [h4] at h5; cases h5
        · rw [List.mem_singleton] at q; subst q
          simp at hne
  exact key _ l rfl h
/-- the sayings, sorted, each once -/
def setS (l : List Sy) : List Sy := onceS (sortS l)
theorem setS_rise (l : List Sy) : Rise (setS l) := once_rise (sortS_pw l)
theorem setS_iff {x : Sy} {l : List Sy} : x ∈ setS l ↔ x ∈ l := onceS_iff.trans (sortS_perm l).mem_iff
theorem setS_ext {l m : List Sy} (e : ∀ s, s ∈ l ↔ s ∈ m) : setS l = setS m := rise_ext (setS_rise l) (setS_rise m) fun s => setS_iff.trans ((e s).trans setS_iff.symm)
theorem setS_is {l m : List Sy} (h : Rise m) (e : ∀ s, s ∈ m ↔ s ∈ l) : m = setS l := rise_ext h (setS_rise l) fun s => (e s).trans setS_iff.symm
theorem rise_filter {l : List Sy} (p : Sy → Bool) (h : Rise l) : Rise (l.filter p) := List.Pairwise.filter p h
theorem setS_len (l : List Sy) : (setS l).length ≤ l.length := by
  have := onceS_len (sortS l); have := (sortS_perm l).length_eq; unfold setS; omega
theorem parts_ht {s t : Sy} (h : t ∈ partsL s) : t.ht ≤ s.ht := by
  induction s with
  | no => simp [partsL] at h; subst h; exact Nat.le_refl _
  | lt l => simp [partsL] at h; subst h; exact Nat.le_refl _
  | not a ih => rcases List.mem_cons.mp h with rfl | h
                · exact Nat.le_refl _
                · have := ih h; simp only [Sy.ht]; omega
  | shown a ih => rcases List.mem_cons.mp h with rfl | h
                  · exact Nat.le_refl _
                  · have := ih h; simp only [Sy.ht]; omega
  | bin o a b ih1 ih2 =>
    rcases List.mem_cons.mp h with rfl | h
    · exact Nat.le_refl _
    · rcases List.mem_append.mp h with h | h
      · have := ih1 h; simp only [Sy.ht]; omega
      · have := ih2 h; simp only [Sy.ht]; omega
theorem parts_self (s : Sy) : s ∈ partsL s := by cases s <;> simp [partsL]
def isShown : Sy → Bool
  | .shown _ => true
  | _ => false
end Law
namespace Sh
open PySem L2 Pl Law
@[simp] theorem addM_lst {us vs : List U} (h : us.length + vs.length < 10000000) : addM (.lst us) (.lst vs) = .ok (.lst (us ++ vs)) := sz_ok h
@[simp] theorem slM_tail {us : List U} {a : U} : slM (.tup (a :: us)) (some 1) none = .ok (.tup us) := by
  show M.ok _ = _
  congr 2
  unfold cutU
  have e1 : HT.sIx (a :: us).length 0 (some 1) = 1 := by unfold HT.sIx; simp
  have e2 : HT.sIx (a :: us).length (a :: us).length none = us.length + 1 := by unfold HT.sIx; simp
  rw [e1, e2]; simp
/-- the first word of a saying -/
def wd : Sy → Str
  | .no => "no"
  | .lt _ => "letter"
  | .not _ => "not"
  | .shown _ => "shown"
  | .bin o _ _ => o.s
/-- what stands behind it -/
def tl : Sy → List U
  | .no => []
  | .lt l => [.str l.s]
  | .not a => [su a]
  | .shown a => [su a]
  | .bin _ a b => [su a, su b]
theorem su_tup (s : Sy) : su s = .tup (.str (wd s) :: tl s) := by cases s <;> rfl
@[simp] theorem ix_su0 {s : Sy} : ixM (su s) (.int 0) = .ok (.str (wd s)) := by rw [su_tup]; exact ix_t0
theorem sl_su {s : Sy} : slM (su s) (some 1) none = .ok (.tup (tl s)) := by rw [su_tup]; exact slM_tail
theorem isi_su {s : Sy} : isiM (su s) "tuple" = .ok (.bl true) := by rw [su_tup]; exact isi_tup
@[simp] theorem wd_shown {s : Sy} : (wd s = Str.ofString "shown") = (isShown s = true) := by
  cases s with
  | bin o a b => cases o <;> simp [wd, isShown, Bop.s]
  | _ => simp [wd, isShown]
end Sh
namespace Sh
open PySem L2 Pl Law
/-- lists that are put behind one another -/
theorem forN_ext {f : List U → U → M (List U)} (g : Sy → List Sy) : ∀ (xs : List Sy) (acc : List U), (∀ (acc : List U) (x : Sy), x ∈ xs → acc.length + (g x).length < 10000000 → f acc (su x) = .ok (acc ++ (g x).map su)) → acc.length + (xs.flatMap g).length < 10000000 → forN f (xs.map su) acc = .ok (acc ++ (xs.flatMap g).map su)
  | [], acc, _, _ => by simp [forN]
  | x :: xs, acc, h, hl => by
    rw [List.flatMap_cons, List.length_append] at hl
    rw [List.map_cons, forN, h acc x (by simp) (by omega), M.bind_ok, forN_ext g xs _ (fun acc y hy => h acc y (by simp [hy])) (by rw [List.length_append, List.length_map]; omega)]
    simp
@[simp] theorem un2_ok {a b : U} : un2 (.tup [a, b]) = .ok (a, b) := rfl
@[simp] theorem un3_ok {a b c : U} : un3 (.tup [a, b, c]) = .ok (a, b, c) := rfl
@[simp] theorem zipM_lst {us vs : List U} : zipM (.lst us) (.lst vs) = .ok (zipU us vs) := rfl
@[simp] theorem enumM_lst {us : List U} : enumM (.lst us) = .ok (enumU us) := rfl
@[simp] theorem revM_lst {us : List U} : revM (.lst us) = .ok us.reverse := rfl
theorem sumM_ints {bs : List Int} : sumM (.lst (bs.map .int)) = .ok (.int bs.sum) := by
  have : ∀ bs : List Int, asInts (bs.map .int) = some bs := by
    intro bs; induction bs with
    | nil => rfl
    | cons b bs ih => rw [List.map_cons, asInts, ih]; rfl
  unfold sumM itemsL; dsimp only; rw [this]
end Sh
namespace Sh
open PySem L2 Pl Law
end Sh
namespace Law
open PySem L2 Pl Sh
def words : List Str := ["and", "if", "letter", "no", "not", "or", "shown"]
end Law
namespace Sh
open PySem L2 Pl Law
@[simp] theorem ltM_str {s t : Str} : ltM (.str s) (.str t) = .ok (decide (s.cps.toList < t.cps.toList)) := rfl
end Sh
namespace Sh
open PySem L2 Pl Law
end Sh

/-! Sh11: index; dicts. -/
namespace Sh
open PySem L2 Pl PyProof.Rows Law
/-- a dict's keys and what stands under them -/
abbrev Dc := List Key × List U
def putM (d : Dc) (k v : U) : M Dc := match keyU k with
  | some c => sz d.1.length (.ok (putKs d.1 c, putDs d.1 d.2 c v))
  | none => .stuck
section
variable {κ : Kl} {C : Pl.Ctx} {E : ER} {Γ : Pl.Env} {Λ : Cells} {P : D → Cells → Prop} {pos apos cpos p : Pos} {o e f : Expr}
theorem ems_put {ks : List Key} {us : List U} {k : Key} {u : U} : ems κ (putDs ks us k u) = putDs ks (ems κ us) k (em κ u) := by
  unfold putDs
  split
  · rw [ems_map, ems_map, List.zip_map_right, List.map_map, List.map_map]
    refine List.map_congr_left fun q _ => ?_
    simp only [Function.comp, Prod.map, id]
    split <;> rfl
  · rw [ems_app]; rfl
variable {R : Rs} {pos' : Pos} {i : Expr}
/-- d[k] = v, d owned -/
theorem ws_putM (n : Nat) (h : WE C R.er Γ Λ e fun d Λ1 => WE C R.er Γ Λ1 o fun x Λ2 => WE C R.er Γ Λ2 i fun y Λ3 => x = .loc n ∧ ∃ (dc : Dc) (u j : U), d = em κ u ∧ Vw κ Λ3 y j ∧ Λ3[n]? = some (.dic dc.1 (ems κ dc.2)) ∧ wp (putM dc j u) (fun z => R.nx Γ (Λ3.set n (.dic z.1 (ems κ z.2)))) Tr)
    (hc : noComp e = true := by rfl) : WS C Γ Λ (.Assign [.Subscript o i pos'] e pos) R :=
  ws_dput (we_mono h fun d Λ1 h => we_mono h fun x Λ2 h => we_mono h fun y Λ3 ⟨hx, dc, u, j, hd, hy, hn, p⟩ => by
    subst hx; subst hd
    unfold putM at p
    split at p
    · rename_i c hc
      obtain ⟨p1, p2⟩ := wp_sz p
      have p2 : R.nx Γ (Λ3.set n (.dic (putKs dc.1 c) (ems κ (putDs dc.1 dc.2 c u)))) := p2
      rw [ems_put] at p2
      exact ⟨n, _, _, c, rfl, key_of hy hc, hn, p1, p2⟩
    · exact p.elim) hc
theorem finP {α : Type} {Q : α → Prop} {Eh : Str → List U → Prop} {n : Nat} {y : D} {k : Dc → M α} {P : Dc → Prop} (dc : Dc) (u j : U) (hy : Vw κ Λ y j) (hn : Λ[n]? = some (.dic dc.1 (ems κ dc.2))) (h : wp ((putM dc j u).bind k) Q Eh) (i : ∀ z, wp (k z) Q Eh → P z) : ∃ (dc : Dc) (v w : U), em κ u = em κ v ∧ Vw κ Λ y w ∧ Λ[n]? = some (.dic dc.1 (ems κ dc.2)) ∧ wp (putM dc w v) P Tr := ⟨dc, u, j, rfl, hy, hn, fin0 h i⟩
end
end Sh
namespace Sh
open PySem L2 Pl PyProof.Rows Law
section
variable {κ : Kl} {Λ : Cells} {α : Type} {Q : α → Prop} {Eh : Str → List U → Prop} {x : D}
def asD : U → M Dc
  | .dic ks us => .ok (ks, us)
  | _ => .stuck
@[simp] theorem asD_ok {ks : List Key} {us : List U} : asD (.dic ks us) = .ok (ks, us) := rfl
end
end Sh
namespace Law
open PySem L2 Pl Sh
def isLt : Sy → Bool
  | .lt _ => true
  | _ => false
theorem canLay_su : ∀ s : Sy, (pyU (su s)).canLay0 = true
  | .no => by show (PyData.tuple [.str "no"]).canLay0 = true; decide +kernel
  | .lt l => by cases l <;> (show (PyData.tuple [.str "letter", .str _]).canLay0 = true) <;> decide +kernel
  | .not a => by
    have h : PyData.canLay0 (.str "not") = true := by decide +kernel
    show (PyData.tuple [.str "not", pyU (su a)]).canLay0 = true
    simp only [PyData.canLay0, PyData.canLayAll0, canLay_su a, Bool.and_true]
    simpa only [PyData.canLay0] using h
  | .shown a => by
    have h : PyData.canLay0 (.str "shown") = true := by decide +kernel
    show (PyData.tuple [.str "shown", pyU (su a)]).canLay0 = true
    simp only [PyData.canLay0, PyData.canLayAll0, canLay_su a, Bool.and_true]
    simpa only [PyData.canLay0] using h
  | .bin o a b => by
    have h : ∀ o : Bop, PyData.canLay0 (.str o.s) = true := by intro o; cases o <;> decide +kernel
    have h := h o
    show (PyData.tuple [.str o.s, pyU (su a), pyU (su b)]).canLay0 = true
    simp only [PyData.canLay0, PyData.canLayAll0, canLay_su a, canLay_su b, Bool.and_true]
    simpa only [PyData.canLay0] using h
theorem canLay_lt (l : Lt) : (pyU (ltU l)).canLay0 = true := by cases l <;> (show (PyData.str _).canLay0 = true) <;> decide +kernel
/-- a letter or a saying, not deep -/
def Th (n : Nat) (u : U) : Prop := (∃ l : Lt, u = ltU l) ∨ ∃ s : Sy, u = su s ∧ s.ht ≤ n
theorem Th.lay {n : Nat} {u : U} (h : Th n u) : (pyU u).canLay0 = true ∧ (pyU u).depth ≤ n ∧ pl u = true := by
  rcases h with ⟨l, rfl⟩ | ⟨s, rfl, hs⟩
  · exact ⟨canLay_lt l, Nat.zero_le _, by cases l <;> rfl⟩
  · have := dp_su s; unfold dp at this
    exact ⟨canLay_su s, by omega, pl_su s⟩
theorem Th.refl {n : Nat} {u : U} (h : Th n u) : PyData.eqv (pyU u) (pyU u) = true := PySem.SeqAt.eqv_refl_plain _ h.lay.2.2
def litU : Sy → U
  | .lt l => ltU l
  | _ => .non
end Law

/-! Sh12: classes: made, their fields, their methods. -/
namespace Sh
open PySem L2 Pl PyProof.Rows Law
/-- a class of the module with plain fields -/
structure ClsAt (K : PySem.W.Frag) (mg : Str → Option Value) (x : Str) (Cl : Addr) (ns : List Str) : Prop where
  gl : mg x = some (.ref Cl)
  cl : Cls K Cl
  nf : ∀ f ∈ ns, NoAttr K Cl f
structure MethAt (K : PySem.W.Frag) (Cl : Addr) (m qual : Str) (st : Stmt) (ps : List Str) : Prop where
  ex : ∃ f fd, Fun K m qual st f fd ∧ Meth K Cl m f ∧ ∀ us : List Value, us.length = ps.length → bindArgs fd ⟨us, []⟩ = pure (ps.zip us)
structure InitAt (K : PySem.W.Frag) (Cl : Addr) (qual : Str) (st : Stmt) (ps : List Str) : Prop where
  ex : ∃ f fd, Fun K "__init__" qual st f fd ∧ Mk K Cl f ∧ ∀ us : List Value, us.length = ps.length → bindArgs fd ⟨us, []⟩ = pure (ps.zip us)
theorem methAt_mk {K : PySem.W.Frag} {Cl : Addr} {m qual : Str} {st : Stmt} {ps : List Str} {f : Addr} {oc : Value} {od an : Option Addr} {osl : Array (Option Value)} {kV doc pm cdv ct : Value}
    (hb : ∀ (kV doc pm : Value) (an : Option Addr) (cdv ct : Value) (us : List Value), us.length = ps.length → bindArgs (PySem.W.fnOf m qual (defArgs st) (defBody st) (defScope st) .none kV doc pm an cdv ct) ⟨us, []⟩ = pure (ps.zip us))
    (a : PySem.W.findIn K (.ref Cl) m = some (some (.ref f))) (l : K.lookup f = some ⟨oc, od, .func (PySem.W.fnOf m qual (defArgs st) (defBody st) (defScope st) .none kV doc pm an cdv ct), osl⟩) (c : PySem.W.codeIn K cdv qual = true) (k : PySem.W.keepIn K (.ref f) = true) (i : PySem.W.isFn K (.ref f) = true) :
    MethAt K Cl m qual st ps := ⟨f, _, fun_mk l c k, ⟨a, i, k⟩, fun us hl => hb kV doc pm an cdv ct us hl⟩
theorem initAt_mk {K : PySem.W.Frag} {Cl : Addr} {qual : Str} {st : Stmt} {ps : List Str} {f : Addr} {oc : Value} {od an : Option Addr} {osl : Array (Option Value)} {kV doc pm cdv ct : Value}
    (hb : ∀ (kV doc pm : Value) (an : Option Addr) (cdv ct : Value) (us : List Value), us.length = ps.length → bindArgs (PySem.W.fnOf "__init__" qual (defArgs st) (defBody st) (defScope st) .none kV doc pm an cdv ct) ⟨us, []⟩ = pure (ps.zip us))
    (a : PySem.W.findIn K (.ref Cl) "__init__" = some (some (.ref f))) (l : K.lookup f = some ⟨oc, od, .func (PySem.W.fnOf "__init__" qual (defArgs st) (defBody st) (defScope st) .none kV doc pm an cdv ct), osl⟩) (c : PySem.W.codeIn K cdv qual = true) (k : PySem.W.keepIn K (.ref f) = true) (i : PySem.W.isFn K (.ref f) = true)
    (mk : PySem.W.makesIn K Cl = true) (kc : PySem.W.keepIn K (.ref Cl) = true) :
    InitAt K Cl qual st ps := ⟨f, _, fun_mk l c k, ⟨mk, a, i, kc⟩, fun us hl => hb kV doc pm an cdv ct us hl⟩
/-- a method's promise, an __init__'s -/
structure Mt (P : Program) (w : World) (K : PySem.W.Frag) (mg : Str → Option Value) (base : Heap) (k : Nat) (Cl : Addr) (m : Str) (n : Nat) (S : Pl.Spec) : Prop where
  ex : ∃ f fd ps, FnG P w K mg base (L2.CX P w) k f fd ps (spOf K n S) ∧ Meth K Cl m f ∧ Binds K fd ps []
structure It (P : Program) (w : World) (K : PySem.W.Frag) (mg : Str → Option Value) (base : Heap) (k : Nat) (Cl : Addr) (n : Nat) (S : Pl.Spec) : Prop where
  ex : ∃ f fd ps, FnG P w K mg base (L2.CX P w) k f fd ps (spOf K n S) ∧ Mk K Cl f ∧ Binds K fd ps []
abbrev mt (C : Pl.Ctx) := Mt C.P C.w C.K C.mg C.base
abbrev it (C : Pl.Ctx) := It C.P C.w C.K C.mg C.base
theorem passF {X : Cx} {P : Program} {w : World} : Passes (L2.CX P w) X fun _ _ _ => False := fun pins σ H s e s' I hc => by
  obtain ⟨_, _, _, _, _, _, _, _, _, _, _, _, z⟩ := hc
  exact z.elim
section
variable {K : PySem.W.Frag} {F : Fm} {B : Hp} {α : List Addr} {Γ : Pl.Env} {Λ : Cells} {σ : L2.St} {H : Hp}
theorem sat_ins (S : Sat K F B α Γ Λ σ H) {x : D} {v : V} {Cl : Addr} {ns : List Str} {ds : List D} (r : Rep K B α x v) (e : vw Λ x = .ins Cl ns ds) : ∃ a dx vs, v = .ref a ∧ H a = some (.ins Cl dx (ns.zip vs)) ∧ Reps K B α ds vs ∧ ns.length = ds.length := by
  cases x with
  | ins C' ns' ds' =>
    cases e
    unfold Rep at r
    obtain ⟨a, dx, vs, rfl, h1, h2, h3⟩ := r
    exact ⟨a, dx, vs, rfl, S.bh _ _ h1, h2, h3⟩
  | loc n =>
    unfold Rep at r
    obtain ⟨a, rfl, ha⟩ := r
    unfold vw at e
    dsimp only at e
    split at e
    · cases e
    · cases e
    · rename_i C' ns' ds' hc
      cases e
      obtain ⟨a', q1, q2, q3, dx, vs, q4, q5, q6⟩ := S.ce n _ hc (by simp)
      rw [ha] at q1; cases q1
      exact ⟨a, dx, vs, rfl, q4, q5, q6⟩
    · cases e
  | _ => cases e
theorem look_rep {f : Str} : ∀ {ns : List Str} {ds : List D} {vs : List V} {d : D}, Reps K B α ds vs → (ns.zip ds).lookup f = some d → ∃ v, (ns.zip vs).lookup f = some v ∧ Rep K B α d v
  | [], _, _, _, _, h => by simp at h
  | a :: ns, [], _, _, _, h => by simp at h
  | a :: ns, e :: ds, vs, d, r, h => by
    unfold Reps at r
    obtain ⟨v, vs', rfl, r1, r2⟩ := r
    rw [List.zip_cons_cons, List.lookup_cons] at h ⊢
    split at h
    · cases h; exact ⟨v, rfl, r1⟩
    · exact look_rep r2 h
theorem look_none {f : Str} : ∀ {ns : List Str} {vs : List V}, f ∉ ns → (ns.zip vs).lookup f = none
  | [], _, _ => by simp
  | a :: ns, [], _ => by simp
  | a :: ns, v :: vs, h => by
    rw [List.zip_cons_cons, List.lookup_cons]
    have : (f == a) = false := by simpa using fun e => h (by simp [e])
    rw [this]
    exact look_none fun z => h (by simp [z])
end
section
variable {κ : Kl} {C : Pl.Ctx} {E : ER} {Γ : Pl.Env} {Λ : Cells} {pos p apos pos' : Pos} {o e : Expr} {es : List Expr} {f : Str}
variable {R : Rs}
/-- self.f = e, the first field -/
theorem ws_fld {Cl : Addr} {pos2 : Pos} (hc : Cls C.K Cl) (hn : NoAttr C.K Cl f) (h : WE C R.er Γ Λ e fun d Λ1 => WE C R.er Γ Λ1 o fun x Λ2 => ∃ n, x = .loc n ∧ Λ2[n]? = some (.ins Cl [] []) ∧ R.nx Γ (Λ2.set n (.ins Cl [f] [d])))
    (hs : ∀ env, swapsWith e (some (.Attribute o f pos2)) pos.line env = pure false := by intro _; rfl) : WS C Γ Λ (.Assign [.Attribute o f pos2] e pos) R := fun X F W is hm tk => by
  refine ps_imp (L2.ps_fld pe_U pe_U (hs _)) fun Dn σ H ⟨B, α, S, q⟩ => ?_
  refine WE.use h is tk S q.er.at fun d Λ1 v B1 α1 H1 p1 S1 e1 f1 r1 => ?_
  refine WE.use p1 is tk S1 (q.er.mono e1).at fun x Λ2 vx B2 α2 H2 p2 S2 e2 f2 r2 => ?_
  obtain ⟨n, rfl, hn2, p⟩ := p2
  unfold Rep at r2
  obtain ⟨a, rfl, ha⟩ := r2
  obtain ⟨a', q1, q2, q3, dx, vs, q4, q5, q6⟩ := S2.ce n _ hn2 (by simp)
  rw [ha] at q1; cases q1
  have hvs : vs = [] := by unfold Reps at q5; exact q5
  subst hvs
  refine ⟨a, Cl, dx, [], rfl, q4, by rw [is.K]; exact hc, by rw [is.K]; exact hn, by simp, ?_⟩
  exact q.nx Γ _ B2 α2 σ _ p (S2.put ha q2 ⟨dx, [v], upd_same, .one (r1.mono e2 f2), rfl⟩) (e1.trans e2)
end
/-! defs of classes -/
section
variable {κ : Kl} {G : Gl} {Cl : Addr}
abbrev Glmt (G : Gl) := Mt G.P G.w G.K G.mg G.base
abbrev Glit (G : Gl) := It G.P G.w G.K G.mg G.base
theorem MethAt.fn {m qual : Str} {st : Stmt} {ps : List Str} (h : MethAt G.K Cl m qual st ps) {k : Nat} {S : Pl.Spec} (H : ∀ (f : Addr) (fd : FuncData), Fun G.K m qual st f fd → FnG G.P G.w G.K G.mg G.base (L2.CX G.P G.w) k f fd ps (spOf G.K ps.length S)) : Glmt G k Cl m ps.length S := by
  obtain ⟨f, fd, h1, h2, h3⟩ := h.ex
  exact ⟨f, fd, ps, H f fd h1, h2, .all h3⟩
theorem InitAt.fn {qual : Str} {st : Stmt} {ps : List Str} (h : InitAt G.K Cl qual st ps) {k : Nat} {S : Pl.Spec} (H : ∀ (f : Addr) (fd : FuncData), Fun G.K "__init__" qual st f fd → FnG G.P G.w G.K G.mg G.base (L2.CX G.P G.w) k f fd ps (spOf G.K ps.length S)) : Glit G k Cl ps.length S := by
  obtain ⟨f, fd, h1, h2, h3⟩ := h.ex
  exact ⟨f, fd, ps, H f fd h1, h2, .all h3⟩
end
end Sh

/-! Sh13: a loop over a list of owned lists, its body one expression. -/
namespace Sh
open PySem L2 Pl PyProof.Rows Law
section
variable {C : Pl.Ctx} {Γ : Pl.Env} {Λ : Cells} {R : Rs} {pos pos2 : Pos}
end
end Sh
namespace Sh
open PySem L2 Pl PyProof.Rows Law
section
variable {κ : Kl} {C : Pl.Ctx} {E : ER} {Γ : Pl.Env} {Λ : Cells} {pos : Pos} {a b : Expr} {P : D → Cells → Prop}
end
end Sh
namespace Sh
open PySem L2 Pl PyProof.Rows Law
/-! classes in the text -/
/-- the one field of a thing of the class c -/
def fldM (c : Str) : U → M U
  | .ins c' [k] => if c' = c then .ok k else .stuck
  | _ => .stuck
@[simp] theorem fldM_ok {c : Str} {k : U} : fldM c (.ins c [k]) = .ok k := if_pos rfl
section
variable {κ : Kl} {Λ : Cells} {α : Type} {Q : α → Prop} {Eh : Str → List U → Prop} {c f : Str} {u : U} {k : U → M α}
theorem finKm {β : Type} {m : M β} {k : β → M α} {P : β → Prop} (h : wp (m.calm.bind k) Q Eh) (i : ∀ z, wp (k z) Q Eh → P z) : wp m P no := wp_mono (wp_calm (wp_bind h)) i fun _ _ h => h
end
section
variable {G : Gl} {Cl : Addr}
theorem MethAt.none {m qual : Str} {st : Stmt} {ps : List Str} (h : MethAt G.K Cl m qual st ps) {k : Nat} {S : Pl.Spec} (hS : ∀ ds Λ Q E, ¬ S ds Λ Q E) : Glmt G k Cl m ps.length S :=
  h.fn fun f fd F => ⟨fun vs H Q E ⟨_, _, _, _, _, _, _, z⟩ => absurd z (hS _ _ _ _), fun A outer s H args us vs Q E _ _ _ _ ⟨_, _, _, _, _, _, _, z⟩ => absurd z (hS _ _ _ _)⟩
theorem InitAt.none {qual : Str} {st : Stmt} {ps : List Str} (h : InitAt G.K Cl qual st ps) {k : Nat} {S : Pl.Spec} (hS : ∀ ds Λ Q E, ¬ S ds Λ Q E) : Glit G k Cl ps.length S :=
  h.fn fun f fd F => ⟨fun vs H Q E ⟨_, _, _, _, _, _, _, z⟩ => absurd z (hS _ _ _ _), fun A outer s H args us vs Q E _ _ _ _ ⟨_, _, _, _, _, _, _, z⟩ => absurd z (hS _ _ _ _)⟩
end
section
variable {κ : Kl} {C : Pl.Ctx} {E : ER} {Γ : Pl.Env} {Λ : Cells} {P : D → Cells → Prop} {pos apos cpos : Pos} {o e : Expr}
def IntAt (mg : Str → Option Value) (x : Str) (i : Int) : Prop := ∃ t, mg x = some (.int i t)
theorem we_gint {x : Str} {i : Int} (hj : GlAt C x) (hm : IntAt C.mg x i) (h : P (.int i) Λ) (hd : (x == ("__debug__" : Str)) = false := by decide) : WE C E Γ Λ (.Name x pos) P := fun X F W is tk => by
  obtain ⟨t, hm⟩ := hm
  refine pe_imp (pe_glob (v := .int i) (is.gl hj) (by rw [is.mg]; exact hm) ⟨t, rfl⟩ hd) fun σ H Q ⟨B, α, S, q, er⟩ => ?_
  exact q _ Λ _ B α H h S (Ex.refl B) (List.prefix_refl _) (by unfold Rep; rfl)
def asStrs : List U → Option (List Str)
  | [] => some []
  | .str s :: us => (asStrs us).map (s :: ·)
  | _ => none
/-- s.join(xs) -/
def joinM (x y : U) : M U := match x with
  | .str a => match itemsL y with
    | some us => match asStrs us with
      | some ys => if (ys.map (·.length)).sum + ys.length * a.length ≤ 1000000 then .ok (.str (Txt.join a ys)) else .stuck
      | none => .stuck
    | none => .stuck
  | _ => .stuck
theorem strs_em : ∀ {us : List U} {ys : List Str}, asStrs us = some ys → ems κ us = ys.map .str
  | [], ys, e => by cases e; rfl
  | .str i :: us, ys, e => by
    simp only [asStrs, Option.map_eq_some_iff] at e
    obtain ⟨ms, e1, rfl⟩ := e
    rw [ems, strs_em e1]; rfl
theorem strs_rep {K : PySem.W.Frag} {B : Hp} {α : List Addr} : ∀ {ys : List Str} {vs : List V}, Reps K B α (ys.map .str) vs → vs = ys.map V.str
  | [], _, h => by unfold Reps at h; exact h
  | y :: ys, _, h => by
    rw [List.map_cons] at h
    unfold Reps at h
    obtain ⟨v, r, rfl, h1, h2⟩ := h
    unfold Rep at h1
    rw [h1, strs_rep h2]; rfl
theorem we_joinM (h : WE C E Γ Λ o fun x Λ1 => ∃ a, x = .str a ∧ WE C E Γ Λ1 e fun y Λ2 => ∃ v, Vw κ Λ2 y v ∧ wp (joinM (.str a) v) (fun z => P (em κ z) Λ2) Tr)
    (ho : plainO o = true := by rfl) (he : plainE e = true := by rfl) (hl : (apos.endLine == cpos.line) = true := by rfl) : WE C E Γ Λ (.Call (.Attribute o "join" apos) [e] [] cpos) P := fun X F W is tk => by
  refine pe_imp (pe_join pe_U pe_U (star_plain he) (base_plain ho) hl) fun σ H Q ⟨B, α, S, q, er⟩ => ?_
  refine WE.use h is tk S er fun x Λ1 vx B1 α1 H1 p1 S1 e1 f1 r1 => ?_
  obtain ⟨a, rfl, p1⟩ := p1
  unfold Rep at r1
  subst r1
  refine ⟨⟨a, rfl⟩, ?_⟩
  refine WE.use p1 is tk S1 (er.mono e1) fun y Λ2 vy B2 α2 H2 p2 S2 e2 f2 r2 => ?_
  obtain ⟨v, hv, p⟩ := p2
  unfold joinM at p
  dsimp only at p
  split at p
  · rename_i us hu
    split at p
    · rename_i ys hy
      split at p
      · rename_i hle
        obtain ⟨b, ws, rfl, g1, g2⟩ := S2.seqL r2 (items_of hv hu)
        rw [strs_em hy] at g2
        rw [strs_rep g2] at g1
        exact ⟨a, b, ys, rfl, rfl, .inl (by rw [is.K]; exact g1), by omega, q _ Λ2 _ B2 α2 H2 p S2 (e1.trans e2) (f1.trans f2) (by show Rep _ _ _ (.str _) _; unfold Rep; rfl)⟩
      · exact p.elim
    · exact p.elim
  · exact p.elim
end
end Sh

/-! Sh14: zip of a text with a list. -/
namespace Sh
open PySem L2 Pl PyProof.Rows Law
section
variable {P : Program} {w : World} {K : PySem.W.Frag} {elts : List Expr} {kk : Nat} {tpos : Pos} {b z TI TO i1 i2 : Addr} {x : Str} {tx : Tok}
end
section
variable {K : PySem.W.Frag} {B : Hp}
end
section
variable {κ : Kl} {C : Pl.Ctx} {E : ER} {Γ : Pl.Env} {Λ : Cells} {Pn : List D → Cells → Prop} {pos p tpos : Pos} {e e2 tg : Expr} {elts : List Expr} {kk : Nat}
end
end Sh

/-! Sh15: things of one of several classes; a def read off a class; what is owned looked at by an expression that gives a bare thing. -/
namespace Sh
open PySem L2 Pl PyProof.Rows Law
section
variable {X : Cx} {CX : CXT} {E : XK} {o e : Expr} {es : List Expr} {m : Str} {pos apos : Pos} {ta : TE} {t : TA} {pl : Sem Bool}
end
section
variable {κ : Kl} {C : Pl.Ctx} {E : ER} {Γ : Pl.Env} {Λ : Cells} {pos p apos pos' : Pos} {o e : Expr} {es : List Expr} {f m : Str} {cs : List Str} {k n : Nat}
abbrev MethT (pl : PySem.Env → Sem Bool) (o : Expr) (m : Str) (apos : Pos) (es : List Expr) (pos : Pos) : Prop := ∀ env, eval (.Call (.Attribute o m apos) es [] pos) env = (do
      let ov ← eval o env
      standAt apos.atName
      let (f, first) ← holding [ov] (getMethod ov m (pl env))
      callWith pos f first (backTo pos (starEach es env)) (backToKw pos (keywordEach [] env)))
end
/-! a def read off a class, called with the thing that is being made -/
structure CAt (K : PySem.W.Frag) (mg : Str → Option Value) (x m qual : Str) (st : Stmt) (ps : List Str) : Prop where
  ex : ∃ Cl mc f fd, mg x = some (.ref Cl) ∧ ClX.CRead K Cl mc ∧ PySem.W.findCls K (.ref Cl) mc m = some (.val (.ref f)) ∧ PySem.W.keepIn K (.ref f) = true ∧ Fun K m qual st f fd ∧ ∀ us : List Value, us.length = ps.length → bindArgs fd ⟨us, []⟩ = pure (ps.zip us)
structure Cfn (P : Program) (w : World) (K : PySem.W.Frag) (mg : Str → Option Value) (base : Heap) (k : Nat) (x m : Str) (n : Nat) (S : Pl.Spec) : Prop where
  ex : ∃ Cl mc f fd ps, mg x = some (.ref Cl) ∧ ClX.CRead K Cl mc ∧ PySem.W.findCls K (.ref Cl) mc m = some (.val (.ref f)) ∧ PySem.W.keepIn K (.ref f) = true ∧ FnG P w K mg base (L2.CX P w) k f fd ps (spOf K n S) ∧ Binds K fd ps []
abbrev Glct (G : Gl) := Cfn G.P G.w G.K G.mg G.base
section
variable {κ : Kl} {C : Pl.Ctx} {E : ER} {Γ : Pl.Env} {Λ : Cells} {pos p apos : Pos} {e : Expr} {es : List Expr} {f m x : Str} {k n : Nat} {G : Gl}
theorem CAt.fn {qual : Str} {st : Stmt} {ps : List Str} (h : CAt G.K G.mg x m qual st ps) {S : Pl.Spec} (H : ∀ (f : Addr) (fd : FuncData), Fun G.K m qual st f fd → FnG G.P G.w G.K G.mg G.base (L2.CX G.P G.w) k f fd ps (spOf G.K ps.length S)) : Glct G k x m ps.length S := by
  obtain ⟨Cl, mc, f, fd, h1, h2, h3, h4, h5, h6⟩ := h.ex
  exact ⟨Cl, mc, f, fd, ps, h1, h2, h3, h4, H f fd h5, .all h6⟩
theorem CAt.none {qual : Str} {st : Stmt} {ps : List Str} (h : CAt G.K G.mg x m qual st ps) {S : Pl.Spec} (hS : ∀ ds Λ Q E, ¬ S ds Λ Q E) : Glct G k x m ps.length S :=
  h.fn fun f fd F => ⟨fun vs H Q E ⟨_, _, _, _, _, _, _, z⟩ => absurd z (hS _ _ _ _), fun A outer s H args us vs Q E _ _ _ _ ⟨_, _, _, _, _, _, _, z⟩ => absurd z (hS _ _ _ _)⟩
end
/-! ### an expression that gives a bare thing sees what is owned -/
inductive ThE (κ : Kl) (Λ : Cells) : Pl.Env → Pl.Env → Prop where
  | nil : ThE κ Λ [] []
  | no {o : Option D} {Γ Γ' : Pl.Env} (h : ThE κ Λ Γ Γ') : ThE κ Λ (o :: Γ) (none :: Γ')
  | so {d : D} {u : U} {Γ Γ' : Pl.Env} (h : fv Λ d = em κ u) (h2 : ThE κ Λ Γ Γ') : ThE κ Λ (some d :: Γ) (some (em κ u) :: Γ')
theorem ThE.len {κ : Kl} {Λ : Cells} {Γ Γ' : Pl.Env} (h : ThE κ Λ Γ Γ') : Γ'.length = Γ.length := by
  induction h with
  | nil => rfl
  | no _ ih => simp [ih]
  | so _ _ ih => simp [ih]
theorem ThE.get {κ : Kl} {Λ : Cells} {Γ Γ' : Pl.Env} (h : ThE κ Λ Γ Γ') : ∀ (i : Nat) (d' : D), Γ'[i]? = some (some d') → ∃ d u, Γ[i]? = some (some d) ∧ fv Λ d = em κ u ∧ d' = em κ u := by
  induction h with
  | nil => intro i d' e; simp at e
  | no _ ih => intro i d' e; cases i with
    | zero => simp at e
    | succ i => simpa using ih i d' (by simpa using e)
  | so h _ ih => intro i d' e; cases i with
    | zero => simp at e; exact ⟨_, _, rfl, h, e.symm⟩
    | succ i => simpa using ih i d' (by simpa using e)
section
variable {κ : Kl} {C : Pl.Ctx} {E : ER} {Γ Γ' : Pl.Env} {Λ : Cells} {e : Expr}
/-- all of them bare -/
def bare : U → Bool
  | .non => true
  | .bl _ => true
  | .int _ => true
  | .str _ => true
  | _ => false
end
/-! ### the facts of classes, out of the text -/
def adOf (mg : Str → Option Value) (x : Str) : Addr := match mg x with
  | some (.ref a) => a
  | _ => 0
section
variable {K : PySem.W.Frag} {mg : Str → Option Value} {x : Str} {C : Addr}
theorem adOf_eq (h : mg x = some (.ref C)) : adOf mg x = C := by unfold adOf; rw [h]
theorem gAt (h : mg x = some (.ref C)) : mg x = some (.ref (adOf mg x)) := by rw [adOf_eq h]; exact h
theorem mAt {m qual : Str} {st : Stmt} {ps : List Str} {f : Addr} {oc : Value} {od an : Option Addr} {osl : Array (Option Value)} {kV doc pm cdv ct : Value} {hp : Heap} (KX : K.In hp) (h : mg x = some (.ref C))
    (hb : ∀ (kV doc pm : Value) (an : Option Addr) (cdv ct : Value) (us : List Value), us.length = ps.length → bindArgs (PySem.W.fnOf m qual (defArgs st) (defBody st) (defScope st) .none kV doc pm an cdv ct) ⟨us, []⟩ = pure (ps.zip us))
    (a : PySem.W.findIn K (.ref C) m = some (some (.ref f))) (l : K.lookup f = some ⟨oc, od, .func (PySem.W.fnOf m qual (defArgs st) (defBody st) (defScope st) .none kV doc pm an cdv ct), osl⟩) (c : PySem.W.codeIn K cdv qual = true) (k : PySem.W.keepIn K (.ref f) = true) (i : PySem.W.isFn K (.ref f) = true) :
    MethAt K (adOf mg x) m qual st ps := by rw [adOf_eq h]; exact methAt_mk hb a l c k i
theorem iAt {qual : Str} {st : Stmt} {ps : List Str} {f : Addr} {oc : Value} {od an : Option Addr} {osl : Array (Option Value)} {kV doc pm cdv ct : Value} {hp : Heap} (KX : K.In hp) (h : mg x = some (.ref C))
    (hb : ∀ (kV doc pm : Value) (an : Option Addr) (cdv ct : Value) (us : List Value), us.length = ps.length → bindArgs (PySem.W.fnOf "__init__" qual (defArgs st) (defBody st) (defScope st) .none kV doc pm an cdv ct) ⟨us, []⟩ = pure (ps.zip us))
    (a : PySem.W.findIn K (.ref C) "__init__" = some (some (.ref f))) (l : K.lookup f = some ⟨oc, od, .func (PySem.W.fnOf "__init__" qual (defArgs st) (defBody st) (defScope st) .none kV doc pm an cdv ct), osl⟩) (c : PySem.W.codeIn K cdv qual = true) (k : PySem.W.keepIn K (.ref f) = true) (i : PySem.W.isFn K (.ref f) = true)
    (mk : PySem.W.makesIn K C = true) (kc : PySem.W.keepIn K (.ref C) = true) : InitAt K (adOf mg x) qual st ps := by rw [adOf_eq h]; exact initAt_mk hb a l c k i mk kc
end
theorem intAt_mk {K : PySem.W.Frag} {h : Heap} {mg : Str → Option Value} {x : Str} {i : Int} {t : Tok} (X : K.In h) (G : h.Ns mainGlobals mg) (a : PySem.W.nsIn K mainGlobals x = some (some (.int i t))) : IntAt mg x i := ⟨t, PySem.W.mg_of X G a⟩
section
variable {κ : Kl} {C : Pl.Ctx} {Γ : Pl.Env} {Λ : Cells} {tg : Expr} {ws : List Nat} {Pg : Pl.Env → Prop} {α : Type} {Q : α → Prop} {Eh : Str → List U → Prop}
end
end Sh

/-! Sh16: what is owned, handed to a def that hands back bare things and tuples of such; things made with what is owned. -/
namespace Sh
open PySem L2 Pl PyProof.Rows Law
/-- bare things and tuples of such -/
def imm : U → Bool
  | .non => true
  | .bl _ => true
  | .int _ => true
  | .str _ => true
  | .tup us => imms us
  | _ => false
where imms : List U → Bool
  | [] => true
  | u :: us => imm u && imms us
def immM (u : U) : M U := if imm u = true then .ok u else .stuck
@[simp] theorem immM_int {i : Int} : immM (.int i) = .ok (.int i) := rfl
@[simp] theorem immM_bl {i : Bool} : immM (.bl i) = .ok (.bl i) := rfl
section
variable {K : PySem.W.Frag} {F : Fm} {B : Hp} {α : List Addr} {Γ : Pl.Env} {Λ : Cells} {σ : L2.St} {H : Hp}
variable {H1 B' H2 : Hp} {α' α0 : List Addr} {Γ' : Pl.Env} {Λ' : Cells} {σ' : L2.St} {X : Addr → Prop}
end
section
variable {κ : Kl} {C : Pl.Ctx} {E : ER} {Γ Γ' : Pl.Env} {Λ : Cells} {e : Expr}
end
/-! ### __init__: the field is a new list -/
section
variable {κ : Kl}
end
section
variable {κ : Kl} {G : Gl} {Cl : Addr} {x m : Str} {N : List Str} {vs ls : List Bool} {gl : List Str} {k : Nat} {f : Str} {g : List U → M (List U)} {qual : Str} {st : Stmt} {ps : List Str}
end
section
variable {κ : Kl} {C : Pl.Ctx} {E : ER} {Γ : Pl.Env} {Λ : Cells} {pos p apos : Pos} {e : Expr} {es : List Expr} {f m x c : Str} {k n : Nat}
variable {R : Rs} {o : Expr}
end
end Sh

/-! Sh17: list(reversed(x)), list(range(..)), x.reverse(), isinstance(x, C). -/
namespace Sh
open PySem PySem.Spec L2 Pl PyProof.Rows Law
section
variable {prog : Program} {w : World} {A : Around} {E : Value → Shared → Prop} {s : Shared}
end
section
variable {κ : Kl} {C : Pl.Ctx} {E : ER} {Γ : Pl.Env} {Λ : Cells} {pos p p2 pos2 apos cpos : Pos} {e e2 o : Expr}
/-- isinstance(x, T), x a thing of the class at Ci -/
structure IsiC (K : PySem.W.Frag) (Ci Ct : Addr) : Prop where
  cl : Cls K Ci
  ha : PySem.W.findIn K (.ref Ci) "__class__" = some (some (.builtin "object.__class__"))
  hn : PySem.W.specialIn K (.builtin "object.__class__") "__get__" = some (some (.builtin "getset_descriptor.__get__"))
  htk : PySem.W.takesIn K (.builtin "object.__class__") = some true
  hm : PySem.W.mroIn K Ci (.type "object") = some true
  me : PySem.W.kitOne K (.ref Ci) (.ref Ct) = some true
end
end Sh

/-! Sh18: refusals: raise, try, what was caught. -/
namespace L2
open PySem PySem.Spec PyProof.Rows
section
variable {X : Cx} {pins : List (Addr × Obj)} {σ : St} {H : Hp} {s : Shared}
/-- X(), X an own exception class without own __init__ -/
theorem pmk_own0 {C : Addr} {bmB : List Value} {B newId initId : String} {x : Str} {p pos : Pos} (F : ExcBaseFacts B newId initId bmB) (q : PySem.W.excIn X.K C bmB newId = true) (gC : X.mg x = some (.ref C))
    (kC : PySem.W.keepIn X.K (.ref C) = true) (r : Raises X (.ref C)) (hg : Gl X x) (hdb : (x == ("__debug__" : Str)) = false) :
    PMk X (.Call (.Name x p) [] [] pos) (fun σ H Q => Q (.ref C) none H) := by
  intro pins s σ H Q I h
  refine wpAny_Call_Name_kw (ld_glob I hg gC ?_ hdb)
  refine PySem.W.callWith_K0 (first := []) I.kIn kC ?_
  show wpAny _ _ (call (.ref C) []) _ _ _
  obtain ⟨bm, N, nm, qn, bs, hdct, sn, sub, ab, col, dd, k0, k1, k2, k3, k5, mN, hC, hN, hni, T⟩ := exc_obj I.kIn q
  refine wpAny_call_exc_subT F T hC hN hni (fun h' e hm => ?_) (Nat.zero_le _)
  exact mk_of I hm r h (I.hok.gone hm.new)
theorem excHO_ok {P : Program} {w : World} {h : Heap} {C a : Addr} {d : Option Addr} {oe : Obj} {vs : Array Value} (e : h.get? a = some oe) (z : Zc (.ref C) d oe) (hd : oe.data = .fields vs) : ObjOk P w H h a (Pl.excHO C a d) :=
  ⟨⟨oe, vs, e, z, hd⟩, ⟨oe, e⟩, fun _ _ ⟨o, v, q, r⟩ k => ⟨o, v, k o q, r⟩⟩
/-- an exception that was caught is tracked -/
theorem Inv.track {a C : Addr} {d : Option Addr} {oe : Obj} {vs : Array Value} (I : Inv X pins σ H s) (ha : s.heap.get? a = some oe) (hz : Zc (.ref C) d oe) (hd : oe.data = .fields vs) (na : H a = none) (n0 : X.s_0.heap.get? a = none) (nL : a ≠ X.env.locals)
    (nP : ∀ p ∈ X.pn ++ pins, p.1 ≠ a) : Inv X pins σ (upd H a (Pl.excHO C a d)) s := by
  have ne0 : ∀ b o, X.s_0.heap.get? b = some o → b ≠ a := fun b o e z => by rw [z, n0] at e; cases e
  have neS : ∀ b u, H b = some u → b ≠ a := fun b u e z => by rw [z, na] at e; cases e
  have neC : ∀ x c, X.env.cells.lookup x = some c → c ≠ a := fun x c e z => by
    obtain ⟨v, o, ho, hc⟩ := I.cell x c e
    rw [z, ha] at ho; cases ho
    rw [hd] at hc; cases hc
  refine ⟨I.ok, I.os, I.bare, ⟨fun b o e n hb hq => I.base.keep b o e n hb hq, fun b o e n hb hq => I.base.slot b o e n hb hq, fun b o e n hq => ?_, fun b o e hq => I.base.there b o e hq, fun b xs e => ?_, fun b o u e => ?_, fun b ps e => ?_⟩, I.loc, I.cell, ?_, fun x c e => ?_, fun p hp => ?_, fun b u e => ?_, I.len⟩
  · rw [upd_ne (ne0 b o e)]; exact I.base.free b o e n hq
  · have q := I.base.tups b xs e
    rw [upd_ne (neS b _ q)]; exact q
  · have q := I.base.frzs b o u e
    rw [upd_ne (neS b _ q)]; exact q
  · obtain ⟨m, q⟩ := I.base.tbls b ps e
    exact ⟨m, by rw [upd_ne (neS b _ q)]; exact q⟩
  · rw [upd_ne (Ne.symm nL)]; exact I.free
  · rw [upd_ne (neC x c e)]; exact I.freeC x c e
  · obtain ⟨e, n, r⟩ := I.pin p hp
    exact ⟨e, by rw [upd_ne (nP p hp)]; exact n, r⟩
  · by_cases hb : b = a
    · subst hb
      rw [upd_same] at e; cases e
      exact excHO_ok ha hz hd
    · rw [upd_ne hb] at e
      refine (I.hok b u e).stay (fun c v hc q => q) (fun c q => ?_) fun c xs q => ?_
      · rw [upd_ne (neS c _ q)]; exact q
      · rw [upd_ne (neS c _ q)]; exact q
end
section
variable {X : Cx} {x n y : Str} {c : Value} {i j : Nat} {body : List Stmt} {np np2 yp apos pos pos' : Pos} {tb : WX → TS}
end
end L2

/-! Sh19: refusals in the pure reading. -/
namespace Pl
open PySem L2 PyProof.Rows
/-- the datum of an exception that was caught -/
def excD (C : Addr) (e : Err) : D := match e.fs with
  | none => .exc C [] []
  | some (ns, ds) => .exc C ns ds
section
variable {K : PySem.W.Frag} {F : Fm} {B B' : Hp} {α α' : List Addr} {Γ : Env} {Λ : Cells} {σ : L2.St} {H H' : Hp}
theorem Sat.unset {i : Nat} (S : Sat K F B α Γ Λ σ H) : Sat K F B α (Γ.set i none) Λ (σ.set i none) H := by
  refine S.env (by simpa using S.ln) fun k d h => ?_
  by_cases e : i = k
  · subst e
    by_cases hl : i < Γ.length
    · rw [List.getElem?_set_self hl] at h; cases h
    · rw [List.getElem?_eq_none (by simpa using hl)] at h; cases h
  · rw [List.getElem?_set_ne e] at h ⊢
    exact S.sl k d h
/-- a thing of the heap that is new is seen -/
theorem Sat.seeIf {p : Addr} {o : HO} (S : Sat K F B α Γ Λ σ H) (hp : H p = some o) (h : B p = none → F.H0 p = none ∧ p ∉ α) (hn : NoTbl o := by intro _ q; cases q) : ∃ B1, Sat K F B1 α Γ Λ σ H ∧ Ex B B1 ∧ B1 p = some o := by
  cases e : B p with
  | none => exact ⟨_, S.see hp e (h e).1 (h e).2 hn, Ex.new e, upd_same⟩
  | some u =>
    have := S.bh p u e
    rw [hp] at this; cases this
    exact ⟨B, S, Ex.refl B, e⟩
theorem Sat.caught {e : Err} {C a : Addr} {d : Option Addr} (S : Sat K F B α Γ Λ σ H) (ea : ErrAt K F B α H e (.ref C) d) (ha : H a = none) : ∃ B1, Sat K F B1 α Γ Λ σ (upd H a (excHO C a d)) ∧ Ex B B1 ∧ Rep K B1 α (excD C e) (.ref a) := by
  obtain ⟨_, e2⟩ := ea
  unfold excD
  cases hf : e.fs with
  | none =>
    rw [hf] at e2
    have hB : B a = none := S.bh.back ha
    refine ⟨_, S.lay ha, Ex.new hB, ?_⟩
    unfold Rep
    exact ⟨a, d, [], rfl, upd_same, .nil, rfl, (fun _ => rfl), fun dx q => by rw [e2] at q; cases q⟩
  | some z =>
    obtain ⟨ns, ds⟩ := z
    rw [hf] at e2
    obtain ⟨p, vs, q1, q2, q3, q4, q5⟩ := e2
    obtain ⟨B1, S1, x1, h1⟩ := S.seeIf q2 q5
    have hB : B1 a = none := S1.bh.back ha
    have x2 : Ex B1 (upd B1 a (excHO C a d)) := Ex.new hB
    refine ⟨_, S1.lay ha, x1.trans x2, ?_⟩
    dsimp only
    unfold Rep
    exact ⟨a, d, vs, rfl, upd_same, q3.mono (x1.trans x2) (List.prefix_refl _), q4, (fun z => by rw [q1] at z; cases z), fun dx q => by rw [q1] at q; cases q; exact x2 _ _ h1⟩
end
section
variable {C : Ctx} {Γ : Env} {Λ : Cells} {R : Rs} {x n y : Str} {CA : Addr} {i j : Nat} {body : List Stmt} {np np2 yp apos pos pos' : Pos}
/-- raise x() -/
theorem ws_raise0 [Cool C] (hg : GlAt C x) (hm : C.mg x = some (.ref CA)) (hq : PySem.W.excIn C.K CA [.type "ValueError", .type "Exception", .type "BaseException", .type "object"] "ValueError.__new__" = true) (hk : PySem.W.keepIn C.K (.ref CA) = true)
    (hb : PySem.W.subIn C.K (.ref CA) (.type "BaseException") = some true) (ht : PySem.W.typeIn C.K (.ref CA) = some (.type "type")) (h : R.er ⟨.ref CA, none⟩ Γ Λ) (hd : (x == ("__debug__" : Str)) = false := by decide) :
    WS C Γ Λ (.Raise (some (.Call (.Name x np) [] [] pos)) none pos') R := fun X F W is hm' tk => by
  have e1 := is.K; have e2 := is.mg
  refine ps_imp (ps_raise is.calm tk (pmk_own0 PySem.F.excBase_ValueError (by rw [e1]; exact hq) (by rw [e2]; exact hm) (by rw [e1]; exact hk) (raises_own (by rw [e1]; exact hb) (by rw [e1]; exact ht)) (is.gl hg) hd)) fun D σ H ⟨B, α, S, q⟩ => ?_
  exact q.er ⟨.ref CA, none⟩ Γ Λ B α σ H (.ref CA) none h S (Ex.refl B) ⟨rfl, rfl⟩
end
end Pl
namespace Sh
open PySem L2 Pl PyProof.Rows
/-- k1 behind what goes well; refusals of the classes cs (each with its number of fields) are caught -/
def tryK {α σ : Type} (cs : List (Str × Nat)) (m : M σ) (k1 : σ → M α) (k2 : Str → List U → M α) : M α := match m with
  | .ok s => k1 s
  | .err c us => if cs.contains (c, us.length) then k2 c us else .stuck
  | .stuck => .stuck
@[simp] theorem tryK_ok {α σ : Type} {cs : List (Str × Nat)} {k1 : σ → M α} {k2 : Str → List U → M α} (a : σ) : tryK cs (.ok a) k1 k2 = k1 a := rfl
@[simp] theorem tryK_err {α σ : Type} {cs : List (Str × Nat)} {k1 : σ → M α} {k2 : Str → List U → M α} (c : Str) (us : List U) : tryK cs (.err c us) k1 k2 = if cs.contains (c, us.length) then k2 c us else .stuck := rfl
/-- .. at this state -/
def EIa (κ : Kl) (Eh : Str → List U → Prop) (E : ER) (Γ : Pl.Env) (Λ : Cells) : Prop := ∀ c us, Eh c us → E (errD κ c us) Γ Λ
theorem EI.at {κ : Kl} {Eh : Str → List U → Prop} {E : ER} {Γ : Pl.Env} {Λ : Cells} (h : EI κ Eh E) : EIa κ Eh E Γ Λ := fun c us q => h c us Γ Λ q
/-- .. where the first m cells are told -/
def EIm (κ : Kl) (m : Nat) (Eh : Str → List U → Prop) (E : ER) : Prop := ∀ c us Γ Λ, m ≤ Λ.length → (Λ.take m).all nlC = true → Eh c us → E (errD κ c us) Γ Λ
theorem EIm.at {κ : Kl} {m : Nat} {Eh : Str → List U → Prop} {E : ER} {Γ : Pl.Env} {Λ : Cells} (h : EIm κ m Eh E) (h1 : m ≤ Λ.length) (h2 : (Λ.take m).all nlC = true) : EIa κ Eh E Γ Λ := fun c us q => h c us Γ Λ h1 h2 q
theorem EI.m {κ : Kl} {m : Nat} {Eh : Str → List U → Prop} {E : ER} (h : EI κ Eh E) : EIm κ m Eh E := fun c us Γ Λ _ _ q => h c us Γ Λ q
/-- the wish of a try's body -/
def erT (κ : Kl) (Eh : Str → List U → Prop) (Γ : Pl.Env) (Λ : Cells) : ER := fun e Γ' Λ' => Γ' = Γ ∧ Λ' = Λ ∧ ∃ c us, e = errD κ c us ∧ Eh c us
theorem EIa.erT {κ : Kl} {Eh : Str → List U → Prop} {Γ : Pl.Env} {Λ : Cells} : EIa κ Eh (erT κ Eh Γ Λ) Γ Λ := fun c us h => ⟨rfl, rfl, c, us, rfl, h⟩
theorem excD_err {κ : Kl} {c : Str} {us : List U} (h : (κ.fs c).length = us.length) : excD (κ.ad c) (errD κ c us) = em κ (.exc c us) := by
  unfold excD errD
  dsimp only
  cases e : κ.fs c with
  | nil =>
    rw [e] at h
    have : us = [] := List.length_eq_zero_iff.mp h.symm
    subst this
    show D.exc _ [] [] = em κ (.exc c [])
    rw [em, e]; rfl
  | cons a b =>
    show D.exc _ _ _ = _
    rw [em, e]
theorem finFt {α β : Type} {κ : Kl} {Q : α → Prop} {Eh : Str → List U → Prop} {n : Nat} {f : List U → M β} {E : ER} {Γ : Pl.Env} {Λ : Cells} {ds : List D} {k : β → M α} {P : β → Prop} (us : List U) (hd : ds = ems κ us) (hn : us.length = n) (hE : EIa κ Eh E Γ Λ) (h : wp ((f us).bind k) Q Eh) (i : ∀ z, wp (k z) Q Eh → P z) : ∃ us, ds = ems κ us ∧ us.length = n ∧ wp (f us) P (fun c es => E (errD κ c es) Γ Λ) :=
  ⟨us, hd, hn, wp_mono (wp_bind h) i fun c es h => hE _ _ h⟩
/-- a class of refusals that a def raises without fields -/
structure ExcK (K : PySem.W.Frag) (mg : Str → Option Value) (κ : Kl) (c : Str) : Prop where
  g : mg c = some (.ref (κ.ad c))
  q : PySem.W.excIn K (κ.ad c) [.type "ValueError", .type "Exception", .type "BaseException", .type "object"] "ValueError.__new__" = true
  k : PySem.W.keepIn K (.ref (κ.ad c)) = true
  b : PySem.W.subIn K (.ref (κ.ad c)) (.type "BaseException") = some true
  t : PySem.W.typeIn K (.ref (κ.ad c)) = some (.type "type")
  f : κ.fs c = []
section
variable {κ : Kl} {C : Pl.Ctx} {E : ER} {Γ : Pl.Env} {Λ : Cells} {R : Rs} {pos pos' np : Pos} {x n y : Str} {Eh : Str → List U → Prop}
theorem errD0 {c : Str} (h : κ.fs c = []) : errD κ c [] = ⟨.ref (κ.ad c), none⟩ := by unfold errD; rw [h]
theorem ws_raiseM [Cool C] {α : Type} {Q : α → Prop} (hg : GlAt C x) (T : ExcK C.K C.mg κ x) (hE : EIa κ Eh R.er Γ Λ) (h : wp (M.err x [] : M α) Q Eh) (hd : (x == ("__debug__" : Str)) = false := by decide) :
    WS C Γ Λ (.Raise (some (.Call (.Name x np) [] [] pos)) none pos') R :=
  ws_raise0 hg T.g T.q T.k T.b T.t (by rw [← errD0 T.f]; exact hE x [] h) hd
theorem tryK_key {α σ : Type} {Q : α → Prop} {cs : List (Str × Nat)} {m : M σ} {k1 : σ → M α} {k2 : Str → List U → M α} (h : wp (tryK cs m k1 k2) Q Eh) : wp m (fun st => wp (k1 st) Q Eh) (fun c us => (c, us.length) ∈ cs ∧ wp (k2 c us) Q Eh) := by
  unfold tryK at h
  cases m with
  | stuck => exact h
  | ok a => exact h
  | err c us =>
    dsimp only at h
    split at h
    · rename_i hc
      exact ⟨List.contains_iff_mem.mp hc, h⟩
    · exact h.elim
end
/-! ### defs that are handed cells and may refuse -/
section
variable {κ : Kl} {mu : Bool} {α γ β : Type} {Dd : α → List D} {L : α → Cells} {f : α → M γ} {g : γ → M β} {R : β → Res} {L' : α → β → Cells}
theorem setAll_all : ∀ {Λ : Cells} {ls : List Nat} {cs : Cells}, Λ.all nlC = true → cs.all nlC = true → (setAll Λ ls cs).all nlC = true
  | _, [], _, h, _ => by cases ‹Cells› <;> exact h
  | _, _ :: _, [], h, _ => h
  | Λ, n :: ls, c :: cs, h, k => by
    rw [List.all_cons, Bool.and_eq_true] at k
    show (setAll (Λ.set n c) ls cs).all nlC = true
    refine setAll_all ?_ k.2
    rw [List.all_eq_true] at h ⊢
    intro x hx
    rcases List.mem_or_eq_of_mem_set hx with z | z
    · exact h x z
    · rw [z]; exact k.1
end
end Sh

/-! Sh20: what was caught is asked: isinstance, fields; calls with cells that refuse. -/
namespace L2
open PySem PySem.Spec PyProof.Rows
section
variable {X : Cx}
theorem exc_inst {pins : List (Addr × Obj)} {σ : St} {H : Hp} {s : Shared} {a C : Addr} {d : Option Addr} (I : Inv X pins σ H s) (ha : H a = some (Pl.excHO C a d)) (hd : ∀ dx, d = some dx → ∃ fs, H dx = some (.xd fs)) :
    ∃ oe od, PySem.W.InstAt s.heap a oe C od ∧ oe.dict = d ∧ ∀ dx, d = some dx → ∃ o, od = some o ∧ s.heap.get? dx = some o := by
  obtain ⟨⟨oe, vs, h1, hz, h2⟩, _⟩ := I.hok a _ ha
  have no : PySem.W.notCls oe = true := by unfold PySem.W.notCls; rw [h2] <;> rfl
  cases hd' : d with
  | none => exact ⟨oe, none, ⟨h1, hz.1, no, by rw [hz.2, hd']; trivial⟩, by rw [hz.2, hd'], fun dx z => by cases z⟩
  | some dx =>
    obtain ⟨fs, ea⟩ := hd dx hd'
    obtain ⟨mA, hns, hr⟩ := I.hok dx _ ea
    obtain ⟨od, ho, hl⟩ := lookIn_ns hns
    exact ⟨oe, some od, ⟨h1, hz.1, no, by rw [hz.2, hd']; exact ho⟩, by rw [hz.2, hd'], fun dx' z => by cases z; exact ⟨od, rfl, ho⟩⟩
theorem call_isExc : CallR X (.builtin "isinstance") fun xs H Q => ∃ (a C : Addr) (d : Option Addr) (c : V) (cv : Value) (b : Bool), xs = [.ref a, c] ∧ H a = some (Pl.excHO C a d) ∧ (∀ dx, d = some dx → ∃ fs, H dx = some (.xd fs)) ∧ ExcC X.K C ∧ (∀ u, RelV c u → u = cv) ∧ PySem.W.kitOne X.K (.ref C) cv = some b ∧ Q (.bl b) H := by
  intro pins s σ H xs us Q I r h
  obtain ⟨a, C, d, c, cv, b, rfl, ha, hd, T, hcv, e, q⟩ := h
  cases r with
  | cons rx rr =>
    cases rr with
    | cons rt rr =>
      cases rr
      cases rx
      have ec := hcv _ rt
      subst ec
      obtain ⟨oe, od, J, _, _⟩ := exc_inst I ha hd
      obtain ⟨cd, hc, _⟩ := PySem.W.any_some T.hd
      exact PySem.W.kia_one (PySem.W.kitx_exc (by rw [hc]; rfl) T.hg T.hk T.hs T.ha T.hn T.ht T.hm) I.kIn J e (fun z => nomatch z) fun tk => ⟨.bl b, H, I.kept (t' := tk) fun _ _ z => z, rfl, q⟩
end
end L2
namespace Sh
open PySem L2 Pl PyProof.Rows
/-- isinstance(x, T) of what was caught: the answer by the class -/
def isEM (tbl : List (Str × Bool)) : U → M U
  | .exc c _ => match tbl.lookup c with
    | some b => .ok (.bl b)
    | none => .stuck
  | _ => .stuck
structure ExcF (K : PySem.W.Frag) (κ : Kl) (c f : Str) : Prop where
  x : XfC K (κ.ad c)
  n : PySem.W.findIn K (.ref (κ.ad c)) f = some none
  f : κ.fs c = [f]
theorem lookup_mem {β : Type} {c : Str} {b : β} : ∀ {tbl : List (Str × β)}, tbl.lookup c = some b → (c, b) ∈ tbl
  | [], h => by cases h
  | (k, v) :: r, h => by
    rw [List.lookup_cons] at h
    split at h
    · rename_i e
      cases h
      have : c = k := by simpa using e
      subst this
      exact List.mem_cons_self
    · exact List.mem_cons_of_mem _ (lookup_mem h)
section
variable {κ : Kl} {C : Pl.Ctx} {E : ER} {Γ : Pl.Env} {Λ : Cells} {pos p p2 : Pos} {x : Str} {e : Expr} {P : D → Cells → Prop} {Eh : Str → List U → Prop}
theorem isE_key {tbl : List (Str × Bool)} {u : U} {Q : U → Prop} (h : wp (isEM tbl u) Q Tr) : ∃ c us b, u = .exc c us ∧ (c, b) ∈ tbl ∧ Q (.bl b) := by
  unfold isEM at h
  split at h
  · rename_i c us
    split at h
    · rename_i b hb
      exact ⟨c, us, b, rfl, lookup_mem hb, h⟩
    · exact h.elim
  · exact h.elim
theorem rep_exc {K : PySem.W.Frag} {B H : Hp} {α : List Addr} {c : Str} {us : List U} {v : V} (x : Ex B H) (h : Rep K B α (em κ (.exc c us)) v) : ∃ a d, v = .ref a ∧ H a = some (excHO (κ.ad c) a d) ∧ ∀ dx, d = some dx → ∃ fs, H dx = some (.xd fs) := by
  have hr : Rep K B α (.exc (κ.ad c) (κ.fs c) (ems κ us)) v := h
  unfold Rep at hr
  obtain ⟨a, d, vs, rfl, g1, g2, g3, g5, g4⟩ := hr
  exact ⟨a, d, rfl, x _ _ g1, fun dx z => ⟨_, x _ _ (g4 dx z)⟩⟩
theorem we_isEM {tbl : List (Str × Bool)} {Ct : Addr} (hj : GlAt C "isinstance") (hm : C.mg "isinstance" = none) (hj2 : GlAt C x) (hg : C.mg x = some (.ref Ct)) (hK : ∀ q ∈ tbl, ExcC C.K (κ.ad q.1) ∧ PySem.W.kitOne C.K (.ref (κ.ad q.1)) (.ref Ct) = some q.2)
    (h : WE C E Γ Λ e fun d Λ1 => ∃ u, d = em κ u ∧ wp (isEM tbl u) (fun z => P (em κ z) Λ1) Tr) (he : plainE e = true := by rfl) (hd : (x == ("__debug__" : Str)) = false := by decide) : WE C E Γ Λ (.Call (.Name "isinstance" p) [e, .Name x p2] [] pos) P := fun X F W is tk => by
  refine pe_imp (pe_callB call_isExc (is.gl hj) (by rw [is.mg]; exact hm) boot_isinstance (pa_cons pe_U (pa_cons (pe_glob (v := .ref Ct) (is.gl hj2) (by rw [is.mg]; exact hg) rfl hd) pa_nil (star_plain rfl)) (star_plain he)) (he := by rw [star_plain he]) (hpl := back_plain rfl)) fun σ H Q ⟨B, α, S, q, er⟩ => ?_
  refine WE.use h is tk S er fun d Λ1 v B1 α1 H1 p1 S1 x1 f1 r1 => ?_
  obtain ⟨u, rfl, p1⟩ := p1
  obtain ⟨c, us, b, rfl, hc, hp⟩ := isE_key p1
  obtain ⟨k1, k2⟩ := hK _ hc
  obtain ⟨a, d, rfl, g1, g2⟩ := rep_exc S1.bh r1
  refine ⟨a, κ.ad c, d, .ref Ct, .ref Ct, b, rfl, g1, g2, by rw [is.K]; exact k1, fun u z => z, by rw [is.K]; exact k2, ?_⟩
  exact q _ Λ1 _ B1 α1 H1 hp S1 x1 f1 (by show Rep _ _ _ (.bl b) _; unfold Rep; rfl)
theorem we_isEB {tbl : List (Str × Bool)} {Tn : String} (hj : GlAt C "isinstance") (hm : C.mg "isinstance" = none) (hj2 : GlAt C x) (hm2 : C.mg x = none) (hv : bootBuiltins x = some (.type Tn)) (hK : ∀ q ∈ tbl, ExcC C.K (κ.ad q.1) ∧ PySem.W.kitOne C.K (.ref (κ.ad q.1)) (.type Tn) = some q.2)
    (h : WE C E Γ Λ e fun d Λ1 => ∃ u, d = em κ u ∧ wp (isEM tbl u) (fun z => P (em κ z) Λ1) Tr) (he : plainE e = true := by rfl) (hn : x ≠ "__name__" := by decide) (hd : (x == ("__debug__" : Str)) = false := by decide) : WE C E Γ Λ (.Call (.Name "isinstance" p) [e, .Name x p2] [] pos) P := fun X F W is tk => by
  refine pe_imp (pe_callB call_isExc (is.gl hj) (by rw [is.mg]; exact hm) boot_isinstance (pa_cons pe_U (pa_cons (pe_bltn (is.gl hj2) (by rw [is.mg]; exact hm2) hv (v := .ty Tn) rfl hn hd) pa_nil (star_plain rfl)) (star_plain he)) (he := by rw [star_plain he]) (hpl := back_plain rfl)) fun σ H Q ⟨B, α, S, q, er⟩ => ?_
  refine WE.use h is tk S er fun d Λ1 v B1 α1 H1 p1 S1 x1 f1 r1 => ?_
  obtain ⟨u, rfl, p1⟩ := p1
  obtain ⟨c, us, b, rfl, hc, hp⟩ := isE_key p1
  obtain ⟨k1, k2⟩ := hK _ hc
  obtain ⟨a, d, rfl, g1, g2⟩ := rep_exc S1.bh r1
  refine ⟨a, κ.ad c, d, .ty Tn, .type Tn, b, rfl, g1, g2, by rw [is.K]; exact k1, fun u z => z, by rw [is.K]; exact k2, ?_⟩
  exact q _ Λ1 _ B1 α1 H1 hp S1 x1 f1 (by show Rep _ _ _ (.bl b) _; unfold Rep; rfl)
end
/-! ### calls with cells that may refuse -/
section
variable {κ : Kl} {mu : Bool} {α γ β : Type} {Dd : α → List D} {L : α → Cells} {f : α → M γ} {g : γ → M β} {R : β → Res} {L' : α → β → Cells} {C : Pl.Ctx} {E : ER} {Γ : Pl.Env} {Λ : Cells} {Eh : Str → List U → Prop}
/-- what a call with cells wishes of a refusal -/
def EIp (κ : Kl) (mu : Bool) (Eh : Str → List U → Prop) (E : ER) (Γ : Pl.Env) (Λ : Cells) (ls : List Nat) (L0 : Cells) : Prop := ∀ c us Λ', Λ'.length = L0.length → Λ'.all nlC = true → (mu = false → Λ' = L0) → Eh c us → E (errD κ c us) Γ (putB Λ ls Λ')
theorem EI.p {ls : List Nat} {L0 : Cells} (h : EI κ Eh E) : EIp κ mu Eh E Γ Λ ls L0 := fun c us Λ' _ _ _ q => h c us _ _ q
theorem EIa.p {ls : List Nat} {L0 : Cells} (h : EIa κ Eh E Γ Λ) (e : putB Λ ls L0 = Λ) : EIp κ false Eh E Γ Λ ls L0 := fun c us Λ' _ _ z q => by rw [z rfl, e]; exact h c us q
theorem putB_len {ls : List Nat} {Λ' : Cells} : Λ.length ≤ (putB Λ ls Λ').length := by
  unfold putB
  rw [List.length_append, setAll_length]; omega
theorem putB_nl {ls : List Nat} {Λ' : Cells} (h : Λ.all nlC = true) (h' : Λ'.all nlC = true) : (putB Λ ls Λ').all nlC = true := by
  unfold putB
  rw [List.all_append, Bool.and_eq_true]
  rw [List.all_eq_true] at h'
  refine ⟨setAll_all h (List.all_eq_true.mpr fun x hx => h' x (List.mem_of_mem_take hx)), List.all_eq_true.mpr fun x hx => h' x (List.mem_of_mem_drop hx)⟩
theorem EIm.p {m : Nat} {ls : List Nat} {L0 : Cells} (h : EIm κ m Eh E) (hm : m ≤ Λ.length) (hn : Λ.all nlC = true) : EIp κ mu Eh E Γ Λ ls L0 := fun c us Λ' _ n _ q => h c us _ _ (Nat.le_trans hm putB_len) (by
  have := putB_nl (ls := ls) hn n
  rw [List.all_eq_true] at this ⊢
  exact fun x hx => this x (List.mem_of_mem_take hx)) q
/-- .. where the cells stay -/
def EIz (κ : Kl) (L0 : Cells) (Eh : Str → List U → Prop) (E : ER) : Prop := ∀ c us Γ Λ, L0.length ≤ Λ.length → Λ.take L0.length = L0 → L0.all nlC = true → Eh c us → E (errD κ c us) Γ Λ
theorem EIz.at {L0 : Cells} (h : EIz κ L0 Eh E) (h1 : L0.length ≤ Λ.length) (h2 : Λ.take L0.length = L0) (h3 : L0.all nlC = true) : EIa κ Eh E Γ Λ := fun c us q => h c us Γ Λ h1 h2 h3 q
end
end Sh

/-! Sh21: calls without arguments. -/
namespace Sh
open PySem L2 Pl PyProof.Rows
theorem boot_VE : bootBuiltins "ValueError" = some (.type "ValueError") := by decide +kernel
section
variable {κ : Kl} {C : Pl.Ctx} {E : ER} {Γ : Pl.Env} {Λ : Cells} {pos p : Pos}
end
/-! what the text tells of the classes of refusals -/
section
variable {K : PySem.W.Frag} {mg : Str → Option Value} {x y : Str} {Cx Cy : Addr} {fs : Str → List Str}
theorem excAt {hp : Heap} (KX : K.In hp) (h : mg x = some (.ref Cx)) (xq : PySem.W.excIn K Cx [.type "ValueError", .type "Exception", .type "BaseException", .type "object"] "ValueError.__new__" = true) (k : PySem.W.keepIn K (.ref Cx) = true)
    (b : PySem.W.subIn K (.ref Cx) (.type "BaseException") = some true) (t : PySem.W.typeIn K (.ref Cx) = some (.type "type")) (f : fs x = []) : ExcK K mg ⟨adOf mg, fs⟩ x := by
  have e : adOf mg x = Cx := adOf_eq h
  refine ⟨?_, ?_, ?_, ?_, ?_, f⟩
  · show mg x = some (.ref (adOf mg x)); rw [e]; exact h
  · show PySem.W.excIn K (adOf mg x) _ _ = _; rw [e]; exact xq
  · show PySem.W.keepIn K (.ref (adOf mg x)) = _; rw [e]; exact k
  · show PySem.W.subIn K (.ref (adOf mg x)) _ = _; rw [e]; exact b
  · show PySem.W.typeIn K (.ref (adOf mg x)) = _; rw [e]; exact t
theorem excCAt {hp : Heap} (KX : K.In hp) (h : mg x = some (.ref Cx)) (hg : PySem.W.findIn K (.ref Cx) "__getattribute__" = some (some (.builtin "BaseException.__getattribute__"))) (hk : PySem.W.findIn K (.ref Cx) "__getattr__" = some none) (hs : PySem.W.subIn K (.ref Cx) (.type "BaseException") = some true)
    (hd : PySem.W.hasDictIn K Cx = true) (ha : PySem.W.findIn K (.ref Cx) "__class__" = some (some (.builtin "object.__class__"))) (hn : PySem.W.specialIn K (.builtin "object.__class__") "__get__" = some (some (.builtin "getset_descriptor.__get__")))
    (ht : PySem.W.takesIn K (.builtin "object.__class__") = some true) (hm : PySem.W.mroIn K Cx (.type "object") = some true) : ExcC K (adOf mg x) := by rw [adOf_eq h]; exact ⟨hg, hk, hs, hd, ha, hn, ht, hm⟩
theorem kitXX {b : Bool} {hp : Heap} (KX : K.In hp) (h : mg x = some (.ref Cx)) (h2 : mg y = some (.ref Cy)) (me : PySem.W.kitOne K (.ref Cx) (.ref Cy) = some b) : PySem.W.kitOne K (.ref (adOf mg x)) (.ref (adOf mg y)) = some b := by rw [adOf_eq h, adOf_eq h2]; exact me
theorem kitXT {b : Bool} {T : String} {hp : Heap} (KX : K.In hp) (h : mg x = some (.ref Cx)) (me : PySem.W.kitOne K (.ref Cx) (.type T) = some b) : PySem.W.kitOne K (.ref (adOf mg x)) (.type T) = some b := by rw [adOf_eq h]; exact me
theorem exmXX {hp : Heap} (KX : K.In hp) (h : mg x = some (.ref Cx)) (h2 : mg y = some (.ref Cy)) (h1 : PySem.W.subIn K (.ref Cy) (.type "BaseException") = some true) (hd : PySem.W.hasDictIn K Cy = true) (ht : PySem.W.typeIn K (.ref Cy) = some (.type "type")) (h4 : PySem.W.subIn K (.ref Cx) (.ref Cy) = some true) :
    PySem.W.exmOne K (.ref (adOf mg x)) (.ref (adOf mg y)) = some true := by rw [adOf_eq h, adOf_eq h2]; exact PySem.W.exm_ref h1 hd ht h4
end
end Sh

/-! Sh22: {k: v}. -/
namespace Pl
open PySem L2
section
variable {C : Ctx} {E : ER} {Γ : Env} {Λ : Cells} {pos : Pos}
end
end Pl
namespace Pl
open PySem L2
section
variable {C : Ctx} {Γ : Env} {Λ : Cells} {pos : Pos} {P : Env → Prop}
end
end Pl
namespace Sh
open PySem L2 Pl PyProof.Rows
def un2l : U → M (U × U)
  | .lst [a, b] => .ok (a, b)
  | _ => .stuck
@[simp] theorem un2l_ok {a b : U} : un2l (.lst [a, b]) = .ok (a, b) := rfl
end Sh

/-! Sh23: a str that is put down once or not at all. -/
namespace Pl
open PySem L2
section
variable {C : Ctx} {E : ER} {Γ : Env} {Λ : Cells} {P : D → Cells → Prop} {pos : Pos} {a b : Expr}
end
end Pl
namespace Sh
open PySem L2 Pl PyProof.Rows
def smulM (x y : U) : M U := match x, y with
  | .str s, .int n => if n = 0 then .ok (.str "") else if n = 1 then .ok (.str s) else .stuck
  | _, _ => .stuck
section
variable {κ : Kl} {C : Pl.Ctx} {E : ER} {Γ : Pl.Env} {Λ : Cells} {P : D → Cells → Prop} {pos : Pos} {a b : Expr}
end
@[simp] theorem smulM_0 {s : Str} : smulM (.str s) (.int 0) = .ok (.str "") := rfl
@[simp] theorem smulM_1 {s : Str} : smulM (.str s) (.int 1) = .ok (.str s) := rfl
end Sh

/-! Sh24: a tuple of the module. -/
namespace Sh
open PySem L2 Pl PyProof.Rows
/-- the module's tuple of one text -/
def TupAt (K : PySem.W.Frag) (mg : Str → Option Value) (x : Str) (s : Str) : Prop := ∃ a, mg x = some (.ref a) ∧ ∀ H, SqT K H a [.str s]
section
variable {κ : Kl} {C : Pl.Ctx} {E : ER} {Γ : Pl.Env} {Λ : Cells} {P : D → Cells → Prop} {pos : Pos}
theorem we_gtup {x s : Str} (hj : GlAt C x) (hm : TupAt C.K C.mg x s) (h : P (.tup [.str s]) Λ) (hd : (x == ("__debug__" : Str)) = false := by decide) : WE C E Γ Λ (.Name x pos) P := by
  obtain ⟨a, hm, hs⟩ := hm
  exact we_glob (v := .ref a) hj hm rfl (fun B α => by
    unfold Rep
    refine ⟨a, [.str s], rfl, .odd (hs B) rfl, ?_⟩
    unfold Reps Rep Reps
    exact ⟨_, _, rfl, rfl, rfl⟩) h hd
end
theorem tupAt_mk {K : PySem.W.Frag} {mg : Str → Option Value} {h : Heap} {x s : Str} {t : Tok} {a : Addr} {n : Nat} {dd : Option Addr} {sl : Array (Option Value)} (X : K.In h) (G : h.Ns mainGlobals mg)
    (ha : PySem.W.nsIn K mainGlobals x = some (some (.ref a))) (l : K.lookup a = some ⟨.type "tuple", dd, .seq #[.str s t] n, sl⟩) : TupAt K mg x s :=
  ⟨a, PySem.W.mg_of X G ha, fun H => .inr ⟨_, _, n, l, rfl, rfl, by show 1 ≤ sizeLine; decide, by show Paired RelV [.str s] [.str s t]; exact .cons ⟨t, rfl⟩ .nil⟩⟩
end Sh

/-! Sh25: x is not True. -/
namespace Sh
open PySem L2 Pl PyProof.Rows
def isntbM (x y : U) : M Bool := match x, y with
  | .bl a, .bl b => .ok (!decide (a = b))
  | _, _ => .stuck
section
variable {κ : Kl} {C : Pl.Ctx} {E : ER} {Γ : Pl.Env} {Λ : Cells} {P : D → Cells → Prop} {Pt : Bool → Cells → Prop} {pos : Pos} {a b : Expr}
end
@[simp] theorem isntbM_bl {a b : Bool} : isntbM (.bl a) (.bl b) = .ok (!decide (a = b)) := rfl
end Sh

/-! Sh26: comprehensions over an owned list. -/
namespace Pl
open PySem L2
section
variable {C : Ctx} {E : ER} {Γ : Env} {Λ : Cells} {tg : Expr} {P : List D → Cells → Prop}
end
section
variable {C : Ctx} {E : ER} {Γ : Env} {Λ : Cells}
end
end Pl
namespace Sh
open PySem L2 Pl
end Sh

/-! Sh27: enumerate of a text. -/
namespace Pl
open PySem PySem.Spec L2 PyProof.Rows
end Pl
namespace Sh
open PySem L2 Pl
def enumSM : U → M (List U)
  | .str s => .ok (s.cps.toList.mapIdx fun i c => .tup [.int (i : Nat), .str ⟨#[c]⟩])
  | _ => .stuck
@[simp] theorem enumSM_str {s : Str} : enumSM (.str s) = .ok (s.cps.toList.mapIdx fun i c => .tup [.int (i : Nat), .str ⟨#[c]⟩]) := rfl
end Sh

/-! Sh28: d != e, two dicts alike. -/
namespace Sh
open PySem L2 Pl PyProof.Rows
end Sh

/-! Sh29: d[k] = [.. for ..], d owned -/
namespace Pl
open PySem L2
section
variable {C : Ctx} {Γ : Env} {Λ : Cells} {R : Rs} {pos pos' : Pos} {e o i : Expr}
end
end Pl
namespace Sh
open PySem L2 Pl PyProof.Rows Law
section
variable {κ : Kl} {C : Pl.Ctx} {Γ : Pl.Env} {Λ : Cells} {R : Rs} {pos pos' : Pos} {e o i : Expr}
end
end Sh

/-! Sh30: exceptions with fields: C.__init__(self, ..) where C is a class of the program with ValueError's own __init__. -/
namespace L2
open PySem PySem.Spec PyProof.Rows
section
variable {X : Cx} {e : Expr} {es : List Expr} {ta : TA} {p1 p2 pos : Pos} {x : Str} {S : Addr}
end
end L2
namespace L2
open PySem PySem.Spec PyProof.Rows
/-- what the own __init__ of a refusal does: it keeps its argument under f -/
def spFld (K : PySem.W.Frag) (f : Str) : Sp := fun vs H Q _ => ∃ (a C : Addr) (y : V), vs = [.ref a, y] ∧ OexC K C ∧ PySem.W.findIn K (.ref C) f = some none ∧ H a = some (exo a C none) ∧ ∀ dx, H dx = none → dx ≠ a → Q .non (upd (upd H dx (exd dx [(f, y)])) a (exo a C (some dx)))
end L2
namespace Pl
open PySem L2 PyProof.Rows
section
variable {C : Ctx} {Γ : Env} {Λ : Cells} {R : Rs} {x f : Str} {CA fI : Addr} {k : Nat} {fd : FuncData} {ps : List Str} {np pos pos' : Pos} {e : Expr}
end
end Pl
namespace Sh
open PySem L2 Pl PyProof.Rows
/-- a class of refusals that keeps one thing -/
structure Exc1 (P : Program) (w : World) (K : PySem.W.Frag) (mg : Str → Option Value) (base : Heap) (κ : Kl) (k : Nat) (c : Str) : Prop where
  g : mg c = some (.ref (κ.ad c))
  ex : ∃ (fI : Addr) (fd : FuncData) (ps : List Str) (f : Str), OexC K (κ.ad c) ∧ PySem.W.findIn K (.ref (κ.ad c)) "__init__" = some (some (.ref fI)) ∧ PySem.W.typeIn K (.ref fI) = some (.type "function") ∧ PySem.W.findIn K (.ref (κ.ad c)) f = some none ∧
    FnOk P w K mg base (L2.CX P w) k fI fd ps (spFld K f) ∧ Binds K fd ps [] ∧ κ.fs c = [f]
end Sh

/-! Sh31: repr; a thing whose two fields are an owned list and an owned dict, handed to its own methods. -/
namespace Pl
open PySem L2 PyProof.Rows
section
variable {K : PySem.W.Frag} {F : Fm} {B B' : Hp} {α α' : List Addr} {Γ : Env} {Λ Λ' : Cells} {σ : L2.St} {H H' : Hp} {m : Nat}
def ltC (m : Nat) : Cell → Bool
  | .lst ds => ltDs m ds
  | .dic _ ds => ltDs m ds
  | .ins _ _ ds => ltDs m ds
  | .gone => true
theorem repss_take {ds : List D} {vs : List V} (h : ltDs m ds = true) (r : Reps K B α ds vs) : Reps K B (α.take m) ds vs := by
  have := Reps.ren (α' := α.take m) (f := fun n => n) (m := m) (fun n a hn e => by rw [List.getElem?_take, if_pos hn]; exact e) ds vs h r
  rw [ids_ren] at this; exact this
theorem CellAt.takeC {a : Addr} {c : Cell} (hc : ltC m c = true) (h : CellAt K B α H a c) : CellAt K B (α.take m) H a c := by
  cases c with
  | lst ds => obtain ⟨vs, q1, q2⟩ := h; exact ⟨vs, q1, repss_take hc q2⟩
  | dic ks ds => obtain ⟨vs, q1, q2, q3⟩ := h; exact ⟨vs, q1, repss_take hc q2, q3⟩
  | ins C ns ds => obtain ⟨dx, vs, q1, q2, q3⟩ := h; exact ⟨dx, vs, q1, repss_take hc q2, q3⟩
  | gone => trivial
theorem Sat.cutS (S : Sat K F B α Γ Λ σ H) (hm : F.α0.length ≤ m) (hc : ∀ c ∈ Λ.take m, ltC m c = true) : Sat K F B (α.take m) [] (Λ.take m) [] H := by
  refine { S with pf := ?_, nd := S.nd.sublist (List.take_sublist _ _), al := by simp [S.al], ce := fun n c h hg => ?_, ah := fun a ha => S.ah a (List.mem_of_mem_take ha), sl := fun i d h => by simp at h, ln := rfl, tb := S.tb.sub fun a ha => List.mem_of_mem_take ha }
  · obtain ⟨t, ht⟩ := S.pf
    rw [← ht, List.take_append]
    rw [List.take_of_length_le hm]
    exact List.prefix_append _ _
  · have hn : n < m := by
      by_cases z : n < m
      · exact z
      · have := (List.getElem?_eq_some_iff.mp h).1
        rw [List.length_take] at this; omega
    have hm' := hc c (List.mem_of_getElem? h)
    rw [List.getElem?_take_of_lt hn] at h
    obtain ⟨a, h1, h2, h3, h4⟩ := S.ce n c h hg
    exact ⟨a, by rw [List.getElem?_take_of_lt hn]; exact h1, h2, h3, h4.takeC hm'⟩
/-- the first m cells are handed, under their own numbers -/
theorem Sat.enterS (S : Sat K F B α Γ Λ σ H) (hc : ∀ c ∈ Λ.take m, ltC m c = true) : Sat K ⟨H, B, α.take m⟩ B (α.take m) [] (Λ.take m) [] H := by
  refine ⟨Ex.refl B, S.bh, fun a o h => .inl h, fun a o h _ _ => h, fun a h => h, List.prefix_refl _, S.nd.sublist (List.take_sublist _ _), by simp [S.al], fun n c h hg => ?_, fun a ha => ⟨(S.ah a (List.mem_of_mem_take ha)).1, .inr ha⟩, fun i d h => by simp at h, rfl, S.tb.start fun a ha => List.mem_of_mem_take ha⟩
  have hn : n < m := by
    by_cases z : n < m
    · exact z
    · have := (List.getElem?_eq_some_iff.mp h).1
      rw [List.length_take] at this; omega
  have hm' := hc c (List.mem_of_getElem? h)
  rw [List.getElem?_take_of_lt hn] at h
  obtain ⟨a, h1, h2, h3, h4⟩ := S.ce n c h hg
  have h5 : (α.take m)[n]? = some a := by rw [List.getElem?_take_of_lt hn]; exact h1
  exact ⟨a, h5, h2, .inr (List.mem_of_getElem? h5), h4.takeC hm'⟩
theorem Sat.backS (S : Sat K F B α Γ Λ σ H) (hm : m ≤ Λ.length) (T : Sat K ⟨H, B, α.take m⟩ B' α' [] Λ' [] H') (hl : Λ'.length = m) : Sat K F B' α Γ (Λ' ++ Λ.drop m) σ H' ∧ α' = α.take m := by
  have hal := S.al
  have e : α' = α.take m := by
    obtain ⟨nw, h⟩ := T.pf
    have h : α.take m ++ nw = α' := h
    have := congrArg List.length h
    rw [T.al, List.length_append, List.length_take, hl, Nat.min_eq_left (by omega)] at this
    have : nw = [] := List.length_eq_zero_iff.mp (by omega)
    rw [this, List.append_nil] at h; exact h.symm
  subst e
  have hB : ∀ a, H a ≠ none → B a = none → B' a = none := fun a h1 h2 => by
    cases q : B' a with
    | none => rfl
    | some o =>
      rcases T.fr a o q with z | z
      · have : B a = some o := z
        rw [h2] at this; cases this
      · exact absurd z h1
  refine ⟨⟨S.bb.trans T.bb, T.bh, fun a o h => ?_, fun a o h ha n => T.kp a o (S.kp a o h ha n) (fun hm => ?_) n, fun a h => S.dm a (T.dm a h), S.pf, S.nd, by rw [List.length_append, List.length_drop, hl, hal]; omega, fun n c h hg => ?_, fun a ha => ⟨fun z => (S.ah a ha).1 (T.dm a z), (S.ah a ha).2⟩, fun i d h => ?_, S.ln, S.tb.back T.tb T.kp (fun a ha => pre_mem T.pf ha) fun a ha => .inl ha⟩, rfl⟩
  · rcases T.fr a o h with z | z
    · exact S.fr a o z
    · exact .inr (S.dm a z)
  · rcases (S.ah a (List.mem_of_mem_take hm)).2 with z | z
    · rw [h] at z; cases z
    · exact ha z
  · by_cases hn : n < m
    · rw [List.getElem?_append_left (by omega)] at h
      obtain ⟨a, h1, h2, h3, h4⟩ := T.ce n c h hg
      rw [List.getElem?_take_of_lt hn] at h1
      exact ⟨a, h1, h2, (S.ah a (List.mem_of_getElem? h1)).2, h4.mono (Ex.refl _) (List.take_prefix _ _) fun o q _ => q⟩
    · rw [List.getElem?_append_right (by omega), List.getElem?_drop, hl] at h
      have e : m + (n - m) = n := by omega
      rw [e] at h
      obtain ⟨a, h1, h2, h3, h4⟩ := S.ce n c h hg
      refine ⟨a, h1, hB a (S.ah a (List.mem_of_getElem? h1)).1 h2, h3, h4.mono T.bb (List.prefix_refl _) fun o q n => T.kp a o q (fun hm => ?_) n⟩
      obtain ⟨j, hj, ej⟩ := List.getElem_of_mem hm
      rw [List.getElem_take] at ej
      rw [List.length_take] at hj
      have e1 : α[j]? = some a := by rw [List.getElem?_eq_getElem (by omega), ej]
      have := (List.getElem?_inj (by omega) S.nd).mp (e1.trans h1.symm)
      omega
  · obtain ⟨v, h1, h2⟩ := S.sl i d h
    exact ⟨v, h1, h2.mono T.bb (List.prefix_refl _)⟩
/-- all cells were handed, new ones came back -/
theorem Sat.backN (S : Sat K F B α Γ Λ σ H) (T : Sat K ⟨H, B, α⟩ B' α' [] Λ' [] H') : Sat K F B' α' Γ Λ' σ H' := by
  refine ⟨S.bb.trans T.bb, T.bh, fun a o h => ?_, fun a o h ha n => T.kp a o (S.kp a o h ha n) (fun hm => ?_) n, fun a h => S.dm a (T.dm a h), S.pf.trans T.pf, T.nd, T.al, fun n c h hg => ?_, fun a ha => ⟨(T.ah a ha).1, ?_⟩, fun i d h => ?_, S.ln, S.tb.back T.tb T.kp (fun a ha => pre_mem T.pf ha) fun a ha => .inr ha⟩
  · rcases T.fr a o h with z | z
    · exact S.fr a o z
    · exact .inr (S.dm a z)
  · rcases (S.ah a hm).2 with z | z
    · rw [h] at z; cases z
    · exact ha z
  · obtain ⟨a, h1, h2, h3, h4⟩ := T.ce n c h hg
    refine ⟨a, h1, h2, ?_, h4⟩
    rcases h3 with z | z
    · exact .inl (S.dm a z)
    · exact (S.ah a z).2
  · rcases (T.ah a ha).2 with z | z
    · exact .inl (S.dm a z)
    · exact (S.ah a z).2
  · obtain ⟨v, h1, h2⟩ := S.sl i d h
    exact ⟨v, h1, h2.mono T.bb T.pf⟩
end
end Pl
namespace Sh
open PySem L2 Pl PyProof.Rows
/-- the cells of a thing with an owned list and an owned dict -/
abbrev SrC (κ : Kl) (c : Str) (S : List U) (M : Dc) : Cells := [.ins (κ.ad c) ["steps", "met"] [.loc 1, .loc 2], .lst (ems κ S), .dic M.1 (ems κ M.2)]
theorem srC_lt {κ : Kl} {c : Str} {S : List U} {M : Dc} : ∀ x ∈ SrC κ c S M, ltC 3 x = true := by
  intro x hx
  simp only [List.mem_cons, List.not_mem_nil, or_false] at hx
  rcases hx with rfl | rfl | rfl
  · rfl
  · exact ltDs_nl _ (nls_em S)
  · exact ltDs_nl _ (nls_em M.2)
/-- what a method of such a thing promises -/
def spS (κ : Kl) (c : Str) (n : Nat) (g : List U → List U → Dc → M (U × List U × Dc)) : Pl.Spec := fun ds Λ Q _ => ∃ us S M, ds = .loc 0 :: ems κ us ∧ us.length + 1 = n ∧ Λ = SrC κ c S M ∧ wp (g us S M) (fun z => Q (.val (em κ z.1)) (SrC κ c z.2.1 z.2.2)) no
theorem spS_none {κ : Kl} {c : Str} {n : Nat} {g : List U → List U → Dc → M (U × List U × Dc)} (hf : ∀ us S M, g us S M = .stuck) (ds : List D) (Λ : Cells) (Q : Res → Cells → Prop) (E : Err → Cells → Prop) : ¬ spS κ c n g ds Λ Q E := fun ⟨us, S, M, _, _, _, h⟩ => by rw [hf] at h; exact h
/-- what a method's body is to reach -/
def rtS (κ : Kl) (c : Str) (Q : U × List U × Dc → Prop) (r : Res) (Λ' : Cells) : Prop := ∃ z : U × List U × Dc, r = .val (em κ z.1) ∧ (∃ Λr, Λ' = SrC κ c z.2.1 z.2.2 ++ Λr) ∧ Q z
/-- THE RULE for such a method, by its body -/
theorem fn_okS {P : Program} {w : World} {K : PySem.W.Frag} {mg : Str → Option Value} {base : Heap} {x qual : Str} {st : Stmt} {f : Addr} {fd : FuncData} {N ps : List Str} {k : Nat} {κ : Kl} {c : Str} {g : List U → List U → Dc → M (U × List U × Dc)} (Fn : Fun K x qual st f fd) (sc : FnScope N ps (defScope st)) (C : Pl.Ctx)
    (hC : C.P = P ∧ C.w = w ∧ C.K = K ∧ C.mg = mg ∧ C.base = base ∧ C.N = N ∧ C.sc = defScope st ∧ C.k = k) (good : C.Good) (hm : 3 ≤ C.m)
    (hb : ∀ us S M Q, us.length + 1 = ps.length → wp (g us S M) Q no → WSs C (Γ0 N (.loc 0 :: ems κ us)) (SrC κ c S M) (defBody st) ⟨fun _ _ => False, rtS κ c Q, fun _ _ => False, fun _ _ => False, ER.none⟩) (hcd0 : C.cd = none := by rfl) : FnG P w K mg base (L2.CX P w) (k + 1) f fd ps (spOf K ps.length (spS κ c ps.length g)) := by
  obtain ⟨rfl, rfl, rfl, rfl, rfl, rfl, hsc, rfl⟩ := hC
  refine Fn.okXG sc (fun vs H Q E h => by obtain ⟨_, _, _, h, _⟩ := h; exact h) fun cdv A outer s H vs Q E ecd hr h => ?_
  obtain ⟨Fm', ds, Λ, hl, hH, T, r, us, S, M, hds0, hus, hΛ, sp⟩ := h
  subst hds0; subst hΛ
  have hds : (D.loc 0 :: ems κ us).length = ps.length := by rw [List.length_cons, ems_len, hus]
  have hN : ps.length ≤ C.N.length := by have := congrArg List.length sc.pre; rw [List.length_take] at this; omega
  let X := cxOf (L2.CX C.P C.w) C.P C.w C.K C.mg C.base C.N qual (defScope st) f cdv A outer s H E
  have h3 : Fm'.α0.length = 3 := T.al
  have is : C.Is X := ⟨rfl, rfl, rfl, rfl, rfl, rfl, hsc.symm, fun _ => rfl, fun _ => hr.hd, hr.w, fun _ _ _ _ => .inl rfl, good, passes_of rfl, fun _ => ⟨rfl, rfl, rfl⟩, fun q c e => by rw [hcd0] at e; cases e⟩
  have tk : Takes X (fun c d _ H => E c d H) := takes_of rfl rfl rfl rfl
  have T' : Sat C.K Fm' Fm'.B0 Fm'.α0 (Γ0 C.N (.loc 0 :: ems κ us)) (SrC κ c S M) (L2.start C.N vs) H := by
    refine T.env ?_ fun i d hi => ?_
    · unfold Γ0 L2.start
      simp only [List.length_append, List.length_map, List.length_replicate]
      omega
    · unfold Γ0 at hi
      by_cases hlt : i < (D.loc 0 :: ems κ us).length
      · rw [List.getElem?_append_left (by simpa using hlt), List.getElem?_map] at hi
        cases q : (D.loc 0 :: ems κ us)[i]? with
        | none => rw [q] at hi; cases hi
        | some e =>
          rw [q] at hi
          cases hi
          obtain ⟨v, h1, h2⟩ := r.get q
          refine ⟨v, ?_, h2⟩
          unfold L2.start
          rw [List.getElem?_append_left (by have := (List.getElem?_eq_some_iff.mp h1).1; simpa using this), List.getElem?_map, h1]
          rfl
      · rw [List.getElem?_append_right (by simpa using hlt), List.getElem?_replicate] at hi
        split at hi <;> cases hi
  refine ⟨_, hb us S M _ hus sp X Fm' _ is (by rw [h3]; exact hm) tk, Fm'.B0, Fm'.α0, T', ⟨fun Γ' Λ' B' α' σ' H' h => h.elim, fun r Λ' v Γ' B' α' σ' H' h S' e ra => ?_, fun Γ' Λ' B' α' σ' H' h => h.elim, fun Γ' Λ' B' α' σ' H' h => h.elim, fun err Γ' Λ' B' α' σ' H' c dx h => h.elim⟩⟩
  obtain ⟨z, rfl, ⟨Λr, rfl⟩, q⟩ := h
  have S2 := S'.cutS (m := 3) (Nat.le_of_eq h3) (by exact srC_lt)
  exact q v H' B' _ S2 (Rep.nl _ v (nl_em _) ra)
theorem meth_S {G : Gl} {Cl : Addr} {mt qual : Str} {st : Stmt} {ps : List Str} {κ : Kl} {c : Str} {g : List U → List U → Dc → M (U × List U × Dc)} (h : MethAt G.K Cl mt qual st ps) {N : List Str} {vs ls : List Bool} {gl : List Str} {k : Nat} (sc : FnScope N ps (defScope st)) (good : goodC N (defScope st) vs ls gl = true)
    (hb : ∀ us S M Q, us.length + 1 = ps.length → wp (g us S M) Q no → WSs (G.cx N (defScope st) vs ls gl k 3) (Γ0 N (.loc 0 :: ems κ us)) (SrC κ c S M) (defBody st) ⟨fun _ _ => False, rtS κ c Q, fun _ _ => False, fun _ _ => False, ER.none⟩) : Glmt G (k + 1) Cl mt ps.length (spS κ c ps.length g) :=
  h.fn fun fa fd F => fn_okS F sc (G.cx N (defScope st) vs ls gl k 3) ⟨rfl, rfl, rfl, rfl, rfl, rfl, rfl, rfl⟩ (good_by good) (Nat.le_refl _) hb
section
variable {κ : Kl} {C : Pl.Ctx} {E : ER} {Γ : Pl.Env} {Λ : Cells} {pos p apos pos' : Pos} {o e : Expr} {es : List Expr} {f m c : Str} {k n : Nat}
/-- a field of an owned thing -/
theorem we_fldC {P : D → Cells → Prop} {Cl : Addr} {ns : List Str} {ds : List D} {d : D} (n : Nat) (hc : Cls C.K Cl) (hna : NoAttr C.K Cl f) (h : WE C E Γ Λ o fun x Λ1 => x = .loc n ∧ Λ1[n]? = some (.ins Cl ns ds) ∧ (ns.zip ds).lookup f = some d ∧ P d Λ1) (ho : plainO o = true := by rfl) : WE C E Γ Λ (.Attribute o f pos) P := fun X F W is tk => by
  refine pe_imp (pe_fld pe_U (base_plain ho)) fun σ H Q ⟨B, α, S, q, er⟩ => ?_
  refine WE.use h is tk S er fun x Λ1 v B1 α1 H1 p1 S1 e1 f1 r1 => ?_
  obtain ⟨rfl, h0, hd, hp⟩ := p1
  have hv : vw Λ1 (.loc n) = .ins Cl ns ds := by unfold vw; dsimp only; rw [h0]
  obtain ⟨a, dx, vs, rfl, g1, g2, g3⟩ := sat_ins S1 r1 hv
  obtain ⟨y, k1, k2⟩ := look_rep g2 hd
  exact ⟨a, Cl, dx, _, y, rfl, g1, by rw [is.K]; exact hc, by rw [is.K]; exact hna, k1, q _ Λ1 y B1 α1 H1 hp S1 e1 f1 k2⟩
/-- self.m(e, ..) -/
theorem we_methS [Cool C] {P : D → Cells → Prop} {g : List U → List U → Dc → M (U × List U × Dc)} {pl : PySem.Env → Sem Bool} (G : mt C k (κ.ad c) m n (spS κ c n g)) (hk : k ≤ C.k) (hc : Cls C.K (κ.ad c)) (hmf : m ∉ (["steps", "met"] : List Str))
    (h : WE C E Γ Λ o fun x Λ1 => x = .loc 0 ∧ Λ1[0]? = some (.ins (κ.ad c) ["steps", "met"] [.loc 1, .loc 2]) ∧ WA C E Γ Λ1 (e :: es) fun ds Λ2 => ∃ us S M Λr, ds = ems κ us ∧ us.length + 1 = n ∧ Λ2 = SrC κ c S M ++ Λr ∧ wp (g us S M) (fun z => P (em κ z.1) (SrC κ c z.2.1 z.2.2 ++ Λr)) no)
    (he : plainE e = true := by rfl) (hes : es.all plainE = true := by rfl) (ht : MethT pl o m apos (e :: es) pos := by intro _; rfl) : WE C E Γ Λ (.Call (.Attribute o m apos) (e :: es) [] pos) P := fun X F W is tk => by
  obtain ⟨f', fd, ps, h1, h2, h3⟩ := G.ex
  have e1 := is.prog; have e2 := is.w; have e3 := is.K; have e4 := is.mg; have e5 := is.base
  refine pe_imp (pe_methG (CX := L2.CX C.P C.w) (E := fun _ _ _ => False) (dvs := []) (ds := []) (pl := pl X.env) pe_U (by rw [e3]; exact hc) (by rw [e3]; exact h2) (by rw [e1, e2, e3, e4, e5]; exact h1) (is.room.mono hk) (by rw [e3]; exact h3) .nil
    passF pa_U (star_plain he) (back_plain hes) (ht _)) fun σ H Q ⟨B, α, T, q, er⟩ => ?_
  refine WE.use h is tk T er fun x Λ1 v B1 α1 H1 p1 T1 x1 f1 r1 => ?_
  obtain ⟨rfl, h0, p1⟩ := p1
  have hv : vw Λ1 (.loc 0) = .ins (κ.ad c) ["steps", "met"] [.loc 1, .loc 2] := by unfold vw; dsimp only; rw [h0]
  obtain ⟨a, dx, ws, rfl, g1, g2, g3⟩ := sat_ins T1 r1 hv
  refine ⟨a, dx, _, rfl, g1, look_none hmf, ?_⟩
  refine WA.use p1 is tk T1 (er.mono x1) fun ds2 Λ2 vs B2 α2 H2 p2 T2 x2 f2 r2 => ?_
  obtain ⟨us, S, M, Λr, rfl, hl, rfl, s1⟩ := p2
  have hen := T2.enterS (m := 3) (by exact srC_lt)
  have r0 : Rep C.K B2 (α2.take 3) (.loc 0) (.ref a) := by
    have r1 := Rep.mono x2 f2 _ _ r1
    unfold Rep at r1 ⊢
    obtain ⟨a', hr, ha⟩ := r1
    exact ⟨a', hr, by rw [List.getElem?_take_of_lt (by decide)]; exact ha⟩
  refine ⟨⟨H2, B2, α2.take 3⟩, .loc 0 :: ems κ us, SrC κ c S M, ?_, rfl, hen, ?_, us, S, M, rfl, hl, rfl, wp_mono s1 (fun z hz v H' B' α' T' ra => ?_) (fun _ _ h => h.elim)⟩
  · rw [List.append_nil, List.length_cons, r2.length, ems_len, hl]
  · rw [List.append_nil]; exact .cons r0 (Reps.nl _ vs (nls_em us) r2)
  · obtain ⟨T3, _⟩ := T2.backS (m := 3) (by show 3 ≤ _; simp) T' rfl
    exact q _ _ v B' α2 H' hz T3 ((x1.trans x2).trans T'.bb) (f1.trans f2) (Rep.nl _ v (nl_em _) ra)
/-- C(): a new such thing, where there are no cells yet -/
def spSI (κ : Kl) (c : Str) : Pl.Spec := fun ds Λ Q _ => ds = [.loc 0] ∧ Λ = [.ins (κ.ad c) [] []] ∧ Q (.val .non) (SrC κ c [] ([], []))
theorem we_makeS [Cool C] {x : Str} {P : D → Cells → Prop} (G : it C k (κ.ad c) 1 (spSI κ c)) (hk : k + 1 ≤ C.k) (hj : GlAt C x) (hg : C.mg x = some (.ref (κ.ad c))) (hΛ : Λ = []) (h : P (.loc 0) (SrC κ c [] ([], []))) (hdb : (x == ("__debug__" : Str)) = false := by decide) : WE C E Γ Λ (.Call (.Name x p) [] [] pos) P := fun X F W is tk => by
  subst hΛ
  obtain ⟨f', fd, ps, h1, h2, h3⟩ := G.ex
  have e1 := is.prog; have e2 := is.w; have e3 := is.K; have e4 := is.mg; have e5 := is.base
  refine pe_imp (pe_make0G (CX := L2.CX C.P C.w) (E := fun _ _ _ => False) (dvs := []) (ds := []) (by rw [e3]; exact h2) (by rw [e1, e2, e3, e4, e5]; exact h1) (is.room.mono hk) (is.gl hj) (by rw [e4]; exact hg) (by rw [e3]; exact h3) .nil
    passF hdb) fun σ H1 Q ⟨B1, α1, T1, q, er⟩ => ?_
  show tMake _ _ _ _ _ σ H1 Q
  intro y dx hy hdx ne
  have hα1 : α1 = [] := T1.nil_al
  subst hα1
  have hex : Ex H1 (upd (upd H1 dx (.own y)) y (.ins (κ.ad c) dx [])) := (Ex.new hdx).trans (Ex.new (by rw [upd_ne (fun z => ne z.symm)]; exact hy))
  have T2 := T1.own (p := y) (c := .ins (κ.ad c) [] []) hy hex (by rw [upd_same]; simp) fun α' _ => ⟨dx, [], upd_same, .nil, rfl⟩
  have T2' : Sat C.K F B1 [y] Γ [.ins (κ.ad c) [] []] σ (upd (upd H1 dx (.own y)) y (.ins (κ.ad c) dx [])) := T2
  have hen := T2'.enterS (m := 1) (by intro x hx; rw [List.mem_take_iff_getElem] at hx; simp at hx; subst hx; rfl)
  refine ⟨⟨upd (upd H1 dx (.own y)) y (.ins (κ.ad c) dx []), B1, [y]⟩, [.loc 0], [.ins (κ.ad c) [] []], rfl, rfl, hen, .one (by unfold Rep; exact ⟨y, rfl, rfl⟩), rfl, rfl, fun v H2 B' α' T' ra => ?_⟩
  have hv : v = .non := by unfold ResAt Rep at ra; exact ra
  have T3 := T2'.backN T'
  refine ⟨hv, q _ _ _ B' α' H2 h T3 T'.bb List.nil_prefix ?_⟩
  obtain ⟨t, ht⟩ := T'.pf
  unfold Rep
  exact ⟨y, rfl, by rw [← ht]; rfl⟩
variable {R : Rs}
/-- self.f = e, the second field -/
theorem ws_fldB {Cl : Addr} {pos2 : Pos} {f0 : Str} {d0 : D} (hc : Cls C.K Cl) (hn : NoAttr C.K Cl f) (hne : f0 ≠ f) (h : WE C R.er Γ Λ e fun d Λ1 => WE C R.er Γ Λ1 o fun x Λ2 => ∃ n, x = .loc n ∧ Λ2[n]? = some (.ins Cl [f0] [d0]) ∧ R.nx Γ (Λ2.set n (.ins Cl [f0, f] [d0, d])))
    (hs : ∀ env, swapsWith e (some (.Attribute o f pos2)) pos.line env = pure false := by intro _; rfl) : WS C Γ Λ (.Assign [.Attribute o f pos2] e pos) R := fun X F W is hm tk => by
  refine ps_imp (L2.ps_fld pe_U pe_U (hs _)) fun Dn σ H ⟨B, α, S, q⟩ => ?_
  refine WE.use h is tk S q.er.at fun d Λ1 v B1 α1 H1 p1 S1 e1 f1 r1 => ?_
  refine WE.use p1 is tk S1 (q.er.mono e1).at fun x Λ2 vx B2 α2 H2 p2 S2 e2 f2 r2 => ?_
  obtain ⟨n, rfl, hn2, p⟩ := p2
  unfold Rep at r2
  obtain ⟨a, rfl, ha⟩ := r2
  obtain ⟨a', q1, q2, q3, dx, vs, q4, q5, q6⟩ := S2.ce n _ hn2 (by simp)
  rw [ha] at q1; cases q1
  obtain ⟨v0, r0, rfl, q7, q8⟩ : ∃ v0 r0, vs = v0 :: r0 ∧ Rep C.K B2 α2 d0 v0 ∧ r0 = [] := by
    unfold Reps at q5
    obtain ⟨v0, r0, rfl, z1, z2⟩ := q5
    unfold Reps at z2
    exact ⟨v0, r0, rfl, z1, z2⟩
  subst q8
  refine ⟨a, Cl, dx, [(f0, v0)], rfl, q4, by rw [is.K]; exact hc, by rw [is.K]; exact hn, by simp, ?_⟩
  have ep : putF f v [(f0, v0)] = ([f0, f] : List Str).zip [v0, v] := by
    unfold putF
    rw [if_neg hne]; rfl
  rw [ep]
  exact q.nx Γ _ B2 α2 σ _ p (S2.put ha q2 ⟨dx, [v0, v], upd_same, .cons q7 (.one (r1.mono e2 f2)), rfl⟩) (e1.trans e2)
end
/-- the __init__ of such a thing -/
theorem fn_okSI {P : Program} {w : World} {K : PySem.W.Frag} {mg : Str → Option Value} {base : Heap} {x qual : Str} {st : Stmt} {f : Addr} {fd : FuncData} {N ps : List Str} {k : Nat} {κ : Kl} {c : Str} (Fn : Fun K x qual st f fd) (sc : FnScope N ps (defScope st)) (C : Pl.Ctx)
    (hC : C.P = P ∧ C.w = w ∧ C.K = K ∧ C.mg = mg ∧ C.base = base ∧ C.N = N ∧ C.sc = defScope st ∧ C.k = k) (good : C.Good) (hm : 1 ≤ C.m) (hps : ps.length = 1)
    (hb : WSs C (Γ0 N [.loc 0]) [.ins (κ.ad c) [] []] (defBody st) ⟨fun _ Λ' => Λ' = SrC κ c [] ([], []), fun _ _ => False, fun _ _ => False, fun _ _ => False, ER.none⟩) (hcd0 : C.cd = none := by rfl) : FnG P w K mg base (L2.CX P w) (k + 1) f fd ps (spOf K ps.length (spSI κ c)) := by
  obtain ⟨rfl, rfl, rfl, rfl, rfl, rfl, hsc, rfl⟩ := hC
  refine Fn.okXG sc (fun vs H Q E h => by obtain ⟨_, _, _, h, _⟩ := h; exact h) fun cdv A outer s H vs Q E ecd hr h => ?_
  obtain ⟨Fm', ds, Λ, hl, hH, T, r, hds0, hΛ, sp⟩ := h
  subst hds0; subst hΛ
  have hN : ps.length ≤ C.N.length := by have := congrArg List.length sc.pre; rw [List.length_take] at this; omega
  let X := cxOf (L2.CX C.P C.w) C.P C.w C.K C.mg C.base C.N qual (defScope st) f cdv A outer s H E
  have h3 : Fm'.α0.length = 1 := T.al
  have is : C.Is X := ⟨rfl, rfl, rfl, rfl, rfl, rfl, hsc.symm, fun _ => rfl, fun _ => hr.hd, hr.w, fun _ _ _ _ => .inl rfl, good, passes_of rfl, fun _ => ⟨rfl, rfl, rfl⟩, fun q c e => by rw [hcd0] at e; cases e⟩
  have tk : Takes X (fun c d _ H => E c d H) := takes_of rfl rfl rfl rfl
  have T' : Sat C.K Fm' Fm'.B0 Fm'.α0 (Γ0 C.N [.loc 0]) [.ins (κ.ad c) [] []] (L2.start C.N vs) H := by
    refine T.env ?_ fun i d hi => ?_
    · unfold Γ0 L2.start
      simp only [List.length_append, List.length_map, List.length_replicate, List.length_cons, List.length_nil]
      omega
    · unfold Γ0 at hi
      by_cases hlt : i < [D.loc 0].length
      · rw [List.getElem?_append_left (by simpa using hlt), List.getElem?_map] at hi
        cases q : [D.loc 0][i]? with
        | none => rw [q] at hi; cases hi
        | some e =>
          rw [q] at hi
          cases hi
          obtain ⟨v, h1, h2⟩ := r.get q
          refine ⟨v, ?_, h2⟩
          unfold L2.start
          rw [List.getElem?_append_left (by have := (List.getElem?_eq_some_iff.mp h1).1; simpa using this), List.getElem?_map, h1]
          rfl
      · rw [List.getElem?_append_right (by simp only [List.length_map]; omega), List.getElem?_replicate] at hi
        split at hi <;> cases hi
  refine ⟨_, hb X Fm' _ is (by rw [h3]; exact hm) tk, Fm'.B0, Fm'.α0, T', ⟨fun Γ' Λ' B' α' σ' H' h S' e => ?_, fun r Λ' v Γ' B' α' σ' H' h => h.elim, fun Γ' Λ' B' α' σ' H' h => h.elim, fun Γ' Λ' B' α' σ' H' h => h.elim, fun err Γ' Λ' B' α' σ' H' c dx h => h.elim⟩⟩
  subst h
  exact sp .non H' B' α' S'.noEnv (by unfold ResAt Rep; rfl)
theorem init_S {G : Gl} {Cl : Addr} {qual : Str} {st : Stmt} {ps : List Str} {κ : Kl} {c : Str} (h : InitAt G.K Cl qual st ps) {N : List Str} {vs ls : List Bool} {gl : List Str} {k : Nat} (sc : FnScope N ps (defScope st)) (good : goodC N (defScope st) vs ls gl = true) (hps : ps.length = 1)
    (hb : WSs (G.cx N (defScope st) vs ls gl k 1) (Γ0 N [.loc 0]) [.ins (κ.ad c) [] []] (defBody st) ⟨fun _ Λ' => Λ' = SrC κ c [] ([], []), fun _ _ => False, fun _ _ => False, fun _ _ => False, ER.none⟩) : Glit G (k + 1) Cl ps.length (spSI κ c) :=
  h.fn fun fa fd F => fn_okSI F sc (G.cx N (defScope st) vs ls gl k 1) ⟨rfl, rfl, rfl, rfl, rfl, rfl, rfl, rfl⟩ (good_by good) (Nat.le_refl _) hps hb
/-- repr -/
def reprM (u : U) : M U := match u with
  | .tup us => if pl (.tup us) && (PyData.showable (pyU (.tup us)) && (!PyData.hasDict (pyU (.tup us)) && (decide (dp (.tup us) ≤ 180) && decide ((PyData.shown (pyU (.tup us))).length ≤ sizeLine)))) then .ok (.str (PyData.shown (pyU (.tup us)))) else .stuck
  | _ => .stuck
theorem call_reprP {X : Cx} (hg : X.A.guards = some []) (hu : X.A.units + 200 < cLine) : CallR X (.builtin "repr") fun xs H Q => ∃ a d, xs = [.ref a] ∧ Dp X.K H (.ref a) d ∧ d.showable = true ∧ d.hasDict = false ∧ d.depth ≤ 180 ∧ d.shown.length ≤ sizeLine ∧ Q (.str d.shown) H := by
  intro pins s σ H xs us Q I r h
  obtain ⟨a, d, rfl, hd, h1, h2, h3, h4, q⟩ := h
  obtain ⟨u, rfl, ru⟩ := vals1 r
  obtain rfl : u = Value.ref a := ru
  obtain ⟨as, k1⟩ := Dp.reads I d (.ref a) (.ref a) hd rfl
  refine repr_of_reads' k1 h1 (fun z => by rw [h2] at z; cases z) hg (by omega) (fun _ _ e => e) (fun h' t tk hk => ?_) h4
  exact ⟨.str d.shown, H, I.kept (t' := tk) fun b o e => hk b o e, ⟨t, rfl⟩, q⟩
theorem boot_repr : bootBuiltins "repr" = some (.builtin "repr") := by decide +kernel
theorem we_reprM {κ : Kl} {C : Pl.Ctx} [Cool C] {E : ER} {Γ : Pl.Env} {Λ : Cells} {pos p : Pos} {e : Expr} {P : D → Cells → Prop} (hj : GlAt C "repr") (hm : C.mg "repr" = none) (h : WE C E Γ Λ e fun d Λ1 => ∃ u, d = em κ u ∧ wp (reprM u) (fun z => P (em κ z) Λ1) Tr) (he : plainE e = true := by rfl) : WE C E Γ Λ (.Call (.Name "repr" p) [e] [] pos) P := fun X F W is tk => by
  refine pe_imp (pe_callB (call_reprP is.room.gd is.u200) (is.gl hj) (by rw [is.mg]; exact hm) boot_repr (pa_cons pe_U pa_nil (star_plain he)) (he := by rw [star_plain he]) (hpl := by rfl)) fun σ H Q ⟨B, α, S, q, er⟩ => ?_
  refine WE.use h is tk S er fun d Λ1 v B1 α1 H1 p1 S1 x1 f1 r1 => ?_
  obtain ⟨u, rfl, p1⟩ := p1
  unfold reprM at p1
  split at p1
  · rename_i us
    split at p1
    · rename_i hc
      simp only [Bool.and_eq_true, decide_eq_true_eq, Bool.not_eq_true'] at hc
      obtain ⟨c1, c2, c3, c4, c5⟩ := hc
      have r2 := r1
      have hD : Dp C.K H1 v (pyU (.tup us)) := by
        have := Rep.dp S1.bh (em κ (.tup us)) v (by rw [py_em]; exact c1) r1
        rw [py_em] at this; exact this
      rw [em] at r1
      unfold Rep at r1
      obtain ⟨a, vs, rfl, _, _⟩ := r1
      refine ⟨a, pyU (.tup us), rfl, by rw [is.K]; exact hD, c2, c3, c4, c5, ?_⟩
      exact q _ Λ1 _ B1 α1 H1 p1 S1 x1 f1 (by show Rep _ _ _ (.str _) _; unfold Rep; rfl)
    · exact p1.elim
  · exact p1.elim
theorem srAt {K : PySem.W.Frag} {mg : Str → Option Value} {x : Str} {Cx : Addr} {hp : Heap} (KX : K.In hp) (h : mg x = some (.ref Cx)) (pg : PySem.W.plainGet K Cx Str.empty = true) (hd : PySem.W.hasDictIn K Cx = true) (po : PySem.W.plainOver K Cx = true) (sa : PySem.W.findIn K (.ref Cx) "__setattr__" = some (some (.builtin "object.__setattr__"))) (n1 : PySem.W.findIn K (.ref Cx) "steps" = some none) (n2 : PySem.W.findIn K (.ref Cx) "met" = some none) :
    Cls K (adOf mg x) ∧ NoAttr K (adOf mg x) "steps" ∧ NoAttr K (adOf mg x) "met" := by rw [adOf_eq h]; exact ⟨⟨pg, hd, po, sa⟩, n1, n2⟩
end Sh

/-! Sh32: the owned list of a thing seen from now on; global tuples of texts. -/
namespace Sh
open PySem L2 Pl PyProof.Rows
theorem rtS_imp {κ : Kl} {c : Str} {Q : U × List U × Dc → Prop} {r : Res} {Λ : Cells} {z : U × List U × Dc} (hr : rtS κ c (fun w => w = z) r Λ) (h : Q z) : rtS κ c Q r Λ := by
  obtain ⟨w, h1, h2, rfl⟩ := hr
  exact ⟨w, h1, h2, h⟩
theorem freezeS {κ : Kl} {C : Pl.Ctx} {Γ : Pl.Env} {R : Rs} {st : List Stmt} {c : Str} {S : List U} {M : Dc} {Λr : Cells} (hm0 : C.m ≤ 1) (h : WSs C Γ ([.ins (κ.ad c) ["steps", "met"] [em κ (.lst S), .loc 2], .gone, .dic M.1 (ems κ M.2)] ++ Λr) st R) : WSs C Γ (SrC κ c S M ++ Λr) st R := fun X F W is hm tk => by
  refine pss_imp pss_U fun Dn σ H ⟨B, α, S0, q⟩ => ?_
  obtain ⟨a, q1, q2, q3, vs, q4, q5⟩ := S0.ce 1 (.lst (ems κ S)) rfl (by simp)
  have h0 : F.H0 a = none := by
    rcases q3 with z | z
    · exact z
    · exfalso
      obtain ⟨i, hi⟩ := List.getElem?_of_mem z
      have hi' := pre_get S0.pf hi
      have : i = 1 := (List.getElem?_inj (List.getElem?_eq_some_iff.mp hi').1 S0.nd).mp (hi'.trans q1.symm)
      have := (List.getElem?_eq_some_iff.mp hi).1
      have hm : F.α0.length ≤ C.m := hm
      omega
  have hx : Ex B (upd B a (.lst vs)) := Ex.new q2
  have hal : α.length = (SrC κ c S M ++ Λr).length := S0.al
  refine WSs.use h is hm tk (B := upd B a (.lst vs)) (α := α) ⟨S0.bb.trans hx, fun b u hb => ?_, fun b u hb => ?_, S0.kp, S0.dm, S0.pf, S0.nd, by rw [hal]; rfl, fun m c' hc hg' => ?_, S0.ah, fun i d hi => ?_, S0.ln, S0.tb.see fun _ q => nomatch q⟩ (q.mono hx)
  · by_cases e : b = a
    · subst e; rw [upd_same] at hb; rw [← hb]; exact q4
    · rw [upd_ne e] at hb; exact S0.bh b u hb
  · by_cases e : b = a
    · subst e; exact .inr h0
    · rw [upd_ne e] at hb; exact S0.fr b u hb
  · have other : ∀ {b : Addr} {n : Nat}, α[n]? = some b → n ≠ 1 → b ≠ a := fun {b n} k1 hn z => by
      subst z
      exact hn ((List.getElem?_inj (List.getElem?_eq_some_iff.mp k1).1 S0.nd).mp (k1.trans q1.symm))
    match m with
    | 0 =>
      cases hc
      obtain ⟨b, k1, k2, k3, dx, ws, k4, k5, k6⟩ := S0.ce 0 _ rfl (by simp)
      refine ⟨b, k1, by rw [upd_ne (other k1 (by decide))]; exact k2, k3, dx, ws, k4, ?_, k6⟩
      unfold Reps at k5
      obtain ⟨v, r, rfl, z1, z2⟩ := k5
      refine .cons ?_ (Reps.mono hx (List.prefix_refl _) _ _ z2)
      unfold Rep at z1
      obtain ⟨a', rfl, z3⟩ := z1
      rw [q1] at z3; cases z3
      show Rep _ _ _ (.lst (ems κ S)) _
      unfold Rep
      exact ⟨a, vs, rfl, upd_same, Reps.mono hx (List.prefix_refl _) _ _ q5⟩
    | 1 => cases hc; exact absurd rfl hg'
    | m + 2 =>
      obtain ⟨b, k1, k2, k3, k4⟩ := S0.ce (m + 2) c' hc hg'
      exact ⟨b, k1, by rw [upd_ne (other k1 (by omega))]; exact k2, k3, k4.mono hx (List.prefix_refl _) fun u z _ => z⟩
  · obtain ⟨v, k1, k2⟩ := S0.sl i d hi
    exact ⟨v, k1, k2.mono hx (List.prefix_refl _)⟩
/-- the module's tuple of texts -/
def TupsAt (K : PySem.W.Frag) (mg : Str → Option Value) (x : Str) (ws : List Str) : Prop := ∃ a, mg x = some (.ref a) ∧ ∀ H, SqT K H a (ws.map V.str)
theorem reps_strs {K : PySem.W.Frag} {B : Hp} {α : List Addr} : ∀ ws : List Str, Reps K B α (ws.map D.str) (ws.map V.str)
  | [] => .nil
  | w :: ws => .cons (by unfold Rep; rfl) (reps_strs ws)
theorem we_gtups {C : Pl.Ctx} {E : ER} {Γ : Pl.Env} {Λ : Cells} {P : D → Cells → Prop} {pos : Pos} {x : Str} {ws : List Str} (hj : GlAt C x) (hm : TupsAt C.K C.mg x ws) (h : P (.tup (ws.map D.str)) Λ) (hne : allBl (ws.map D.str) = false := by rfl) (hd : (x == ("__debug__" : Str)) = false := by decide) : WE C E Γ Λ (.Name x pos) P := by
  obtain ⟨a, hm, hs⟩ := hm
  exact we_glob (v := .ref a) hj hm rfl (fun B α => by
    unfold Rep
    exact ⟨a, ws.map V.str, rfl, .odd (hs B) hne, reps_strs ws⟩) h hd
theorem tup4At_mk {K : PySem.W.Frag} {mg : Str → Option Value} {h : Heap} {x s1 s2 s3 s4 : Str} {t1 t2 t3 t4 : Tok} {a : Addr} {n : Nat} {dd : Option Addr} {sl : Array (Option Value)} (X : K.In h) (G : h.Ns mainGlobals mg)
    (ha : PySem.W.nsIn K mainGlobals x = some (some (.ref a))) (l : K.lookup a = some ⟨.type "tuple", dd, .seq #[.str s1 t1, .str s2 t2, .str s3 t3, .str s4 t4] n, sl⟩) : TupsAt K mg x [s1, s2, s3, s4] :=
  ⟨a, PySem.W.mg_of X G ha, fun H => .inr ⟨_, _, n, l, rfl, rfl, by show 4 ≤ sizeLine; decide, by show Paired RelV [.str s1, .str s2, .str s3, .str s4] [.str s1 t1, .str s2 t2, .str s3 t3, .str s4 t4]; exact .cons ⟨t1, rfl⟩ (.cons ⟨t2, rfl⟩ (.cons ⟨t3, rfl⟩ (.cons ⟨t4, rfl⟩ .nil)))⟩⟩
/-- a call where nothing may be raised -/
theorem finFk {α β : Type} {κ : Kl} {Q : α → Prop} {Eh : Str → List U → Prop} {n : Nat} {f : List U → M β} {E : ER} {Γ : Pl.Env} {Λ : Cells} {ds : List D} {k : β → M α} {P : β → Prop} (us : List U) (hd : ds = ems κ us) (hn : us.length = n) (h : wp ((f us).calm.bind k) Q Eh) (i : ∀ z, wp (k z) Q Eh → P z) : ∃ us, ds = ems κ us ∧ us.length = n ∧ wp (f us) P (fun c es => E (errD κ c es) Γ Λ) :=
  ⟨us, hd, hn, wp_mono (wp_calm (wp_bind h)) i fun _ _ h => h.elim⟩
end Sh

/-! Sh33: for over a list that is owned (alone, in zip, in enumerate): no turn changes it. -/
namespace Pl
open PySem L2 PyProof.Rows
/-- what is walked, as long as the list at a bears ds0 -/
structure ItsC (K : PySem.W.Frag) (B : Hp) (a : Addr) (ds0 : List D) (J : It) (ds : List D) : Prop where
  go : ∀ (i : Nat) (H : Hp) (vs : List V) (B1 : Hp) (α1 : List Addr), i < ds.length → Ex B B1 → Ex B1 H → H a = some (.lst vs) → Reps K B1 α1 ds0 vs → J.go i H
  stop : ∀ (H : Hp) (vs : List V) (B1 : Hp) (α1 : List Addr), Ex B B1 → Ex B1 H → H a = some (.lst vs) → Reps K B1 α1 ds0 vs → J.stop ds.length H
  yld : ∀ (i : Nat) (H : Hp) (x : V) (H' : Hp) (d : D) (vs : List V) (B1 : Hp) (α1 : List Addr), ds[i]? = some d → Ex B B1 → Ex B1 H → H a = some (.lst vs) → Reps K B1 α1 ds0 vs → J.yld i H x H' →
    (H' = H ∧ Rep K B1 α1 d x) ∨ (∃ p o vs es, x = .ref p ∧ H p = none ∧ H' = upd H p o ∧ TupHO o vs es ∧ d = .tup es ∧ Reps K B1 α1 es vs)
/-- the context in which M cells stay where they are -/
@[reducible] def Ctx.at (C : Ctx) (M : Nat) : Ctx := { C with m := M }
instance {C : Ctx} {M : Nat} [c : Cool C] : Cool (C.at M) := ⟨c.h⟩
theorem Ctx.Is.at {C : Ctx} {X : Cx} (is : C.Is X) (M : Nat) : (C.at M).Is X := ⟨is.prog, is.w, is.K, is.mg, is.base, is.N, is.sc, is.calmW, is.hdW, is.roomW, is.fn, ⟨is.good.nd, is.good.vis, is.good.sto, is.good.glo⟩, is.po, is.tp, is.cdv⟩
def LoopPO (C : Ctx) (tg : Expr) (vs : List Nat) (body : List Stmt) (R : Rs) (M n : Nat) (ds0 : List D) : List D → Env → Cells → Prop
  | [], Γ, Λ => Λ[n]? = some (Cell.lst ds0) ∧ R.nx Γ Λ
  | d :: ds, Γ, Λ => Λ[n]? = some (Cell.lst ds0) ∧ WG C Γ Λ tg d vs fun Γ' => WSs (C.at M) Γ' Λ body { R with nx := LoopPO C tg vs body R M n ds0 ds, ct := LoopPO C tg vs body R M n ds0 ds, bk := R.nx }
theorem LoopPO.cell {C : Ctx} {tg : Expr} {vs : List Nat} {body : List Stmt} {R : Rs} {M n : Nat} {ds0 ds : List D} {Γ : Env} {Λ : Cells} (h : LoopPO C tg vs body R M n ds0 ds Γ Λ) : Λ[n]? = some (Cell.lst ds0) := by
  cases ds <;> exact h.1
section
variable {K : PySem.W.Frag} {F : Fm} {B B' : Hp} {α α' : List Addr} {Γ Γ' : Env} {Λ Λ' : Cells} {σ σ' : L2.St} {H H' : Hp} {W : WX} {R : Rs} {D' : Ends}
end
section
variable {C : Ctx} {Γ : Env} {Λ : Cells} {R : Rs} {pos : Pos}
end
section
variable {C : Ctx} {E : ER} {Γ : Env} {Λ : Cells} {tg : Expr} {P : List D → Nat → List D → Cells → Prop} {p pos tpos : Pos} {elts : List Expr} {kk : Nat} {K : PySem.W.Frag} {B : Hp}
end
end Pl
namespace Sh
open PySem L2 Pl
section
variable {κ : Kl} {C : Pl.Ctx} {E : ER} {Γ : Pl.Env} {Λ : Cells} {α : Type} {Q : α → Prop} {Eh : Str → List U → Prop} {tg : Expr} {ws : List Nat} {body : List Stmt} {R : Rs} {Mc n : Nat} {us0 : List U}
variable {Pn : List D → Nat → List D → Cells → Prop} {pos p tpos : Pos} {e e2 : Expr} {elts : List Expr} {kk : Nat}
end
end Sh

/-! Sh34: methods and __init__s that refuse. -/
namespace L2
open PySem PySem.Spec PyProof.Rows
section
variable {X : Cx} {CX : CXT} {k : Nat} {f C : Addr} {fd : FuncData} {ps : List Str} {sp : Sp} {E : St → XK} {x m : Str} {p pos apos : Pos} {e o : Expr} {es : List Expr} {ta : TE} {t : TA}
end
end L2
namespace Sh
open PySem L2 Pl PyProof.Rows
section
variable {κ : Kl} {G : Gl} {Cl : Addr} {x m : Str} {N : List Str} {vs ls : List Bool} {gl : List Str} {k : Nat} {f : Str} {g : List U → M (List U)} {qual : Str} {st : Stmt} {ps : List Str}
end
theorem nls_nil : nls [] = true := rfl
theorem nls_cons (d : D) (ds : List D) : nls (d :: ds) = (nl d && nls ds) := rfl
/-- a refusal's wish -/
structure Rto (κ : Kl) (E : ER) (c : Str) (u : U) (Γ : Pl.Env) (Λ : Cells) : Prop where
  to : E (errD κ c [u]) Γ Λ
section
variable {κ : Kl} {C : Pl.Ctx} {E : ER} {Γ : Pl.Env} {Λ : Cells} {pos p apos : Pos} {e : Expr} {es : List Expr} {f m x c : Str} {k n : Nat}
end
end Sh

/-! Sh35: the module's dicts of texts and whole numbers by words. -/
namespace Sh
open PySem L2 Pl PyProof.Rows
section
variable {κ : Kl} {C : Pl.Ctx} {E : ER} {Γ : Pl.Env} {Λ : Cells} {P : D → Cells → Prop} {Pb : Bool → Cells → Prop} {pos p : Pos} {e : Expr} {x : Str} {ps : List (Str × U)}
end
end Sh

/-! Sh36: split, partition, upper, replace, str(int). -/
namespace L2
open PySem PySem.Spec PyProof.Rows
section
variable {X : Cx} {a o e : Expr} {ta to te : TE} {t : TE} {y z : Str} {j : Int} {k k1 k2 : Nat} {c0 c1 c2 apos pos p1 p2 : Pos}
end
end L2
namespace Sh
open PySem L2 Pl PyProof.Rows
section
variable {κ : Kl} {C : Pl.Ctx} {E : ER} {Γ : Pl.Env} {Λ : Cells} {P : D → Cells → Prop} {Pn : List D → Cells → Prop} {pos apos cpos p p1 p2 c0 c1 c2 : Pos} {o e a : Expr} {j : Int} {k k1 k2 : Nat} {y z : Str}
end
end Sh

/-! Sh37: a thing with one field that bears a bare thing, owned, changed by its own methods, which may refuse. -/
namespace Sh
open PySem L2 Pl PyProof.Rows
section
variable {κ : Kl} {c f : Str} {n : Nat}
variable {G : Gl} {Cl : Addr} {m qual : Str} {st : Stmt} {ps : List Str} {N : List Str} {vs ls : List Bool} {gl : List Str} {k : Nat} {g : List U → U → M (U × U)}
end
section
variable {κ : Kl} {C : Pl.Ctx} {E : ER} {Γ : Pl.Env} {Λ : Cells} {pos p apos pos' : Pos} {o e : Expr} {es : List Expr} {f m c : Str} {k n : Nat}
variable {R : Rs}
end
end Sh

/-! Sh38: x or y of texts; what stays as it was. -/
namespace Sh
open PySem L2 Pl PyProof.Rows
section
variable {κ : Kl} {C : Pl.Ctx} {E : ER} {Γ : Pl.Env} {Λ : Cells} {a b : Expr} {pos : Pos} {P : D → Cells → Prop}
/-- a list so many times -/
def lmulM : U → U → M U
  | .lst us, .int k => if (decide (0 ≤ k) && (decide (k ≤ 1000) && decide (us.length ≤ 1000))) = true then .ok (.lst (List.replicate k.toNat us).flatten) else .stuck
  | _, _ => .stuck
theorem reps_rep {K : PySem.W.Frag} {B : Hp} {α : List Addr} {ds : List D} {vs : List V} (h : Reps K B α ds vs) : ∀ n : Nat, Reps K B α (List.replicate n ds).flatten (List.replicate n vs).flatten
  | 0 => by simp [Reps]
  | n + 1 => by
    rw [List.replicate_succ, List.replicate_succ, List.flatten_cons, List.flatten_cons]
    exact h.append (reps_rep h n)
theorem ems_rep {us : List U} : ∀ n : Nat, ems κ (List.replicate n us).flatten = (List.replicate n (ems κ us)).flatten
  | 0 => rfl
  | n + 1 => by rw [List.replicate_succ, List.replicate_succ, List.flatten_cons, List.flatten_cons, ems_app, ems_rep n]
theorem we_lmulM (h : Op2 κ C E Γ Λ a b lmulM P) : WE C E Γ Λ (.BinOp a .Mult b pos) P := fun X F W is tk => by
  refine pe_imp (pe_op op_rep pe_U pe_U) fun σ H Q ⟨B, α, S, q, er⟩ => ?_
  refine WE.use h is tk S er fun x Λ1 vx B1 α1 H1 p1 S1 e1 f1 r1 => ?_
  refine WE.use p1 is tk S1 (er.mono e1) fun y Λ2 vy B2 α2 H2 p2 S2 e2 f2 r2 => ?_
  obtain ⟨u, v, hx, hy, p⟩ := p2
  unfold lmulM at p
  split at p
  · rename_i us k
    split at p
    · rename_i hc
      rw [Bool.and_eq_true, Bool.and_eq_true, decide_eq_true_eq, decide_eq_true_eq, decide_eq_true_eq] at hc
      obtain ⟨c1, c2, c3⟩ := hc
      have ey : y = .int k := hy.atom (by simp) (by simp) (by simp)
      subst ey
      unfold Rep at r2
      subst r2
      have r1' := r1.mono e2 f2
      have hx : vw Λ2 x = .lst (ems κ us) := hx
      have key : ∃ (l : Addr) (vs : List V), vx = .ref l ∧ H2 l = some (.lst vs) ∧ Reps C.K B2 α2 (ems κ us) vs := by
        cases x with
        | loc n =>
          simp only [vw] at hx
          cases hc : Λ2[n]? with
          | none => rw [hc] at hx; cases hx
          | some c =>
            rw [hc] at hx
            cases c with
            | lst ds =>
              have hx : D.lst ds = .lst (ems κ us) := hx
              cases hx
              obtain ⟨a1, g1, _, _, vs, g2, g3⟩ := S2.ce n _ hc (fun z => nomatch z)
              unfold Rep at r1'
              obtain ⟨a2, rfl, g4⟩ := r1'
              rw [g1] at g4; cases g4
              exact ⟨a1, vs, rfl, g2, g3⟩
            | dic ks ds => cases hx
            | ins c ns ds => cases hx
            | gone => cases hx
        | lst ds =>
          have hx : D.lst ds = .lst (ems κ us) := hx
          cases hx
          unfold Rep at r1'
          obtain ⟨a1, vs, rfl, g1, g2⟩ := r1'
          exact ⟨a1, vs, rfl, S2.bh _ _ g1, g2⟩
        | _ => cases hx
      obtain ⟨l, vs, rfl, hH, rr⟩ := key
      have hl : vs.length = us.length := by rw [rr.length, ems_len]
      have kn : k.toNat ≤ 1000 := by omega
      refine ⟨l, k, vs, rfl, rfl, hH, by omega, by omega, ?_, fun t ht => ?_⟩
      · rw [hl]
        have : us.length * k.toNat ≤ 1000 * 1000 := Nat.mul_le_mul c3 kn
        rw [sizeLine_eq]; omega
      · have hxx : Ex B2 (upd B2 t (.lst (List.replicate k.toNat vs).flatten)) := Ex.new (S2.bh.back ht)
        refine q _ _ _ _ _ _ p (S2.lay ht) ((e1.trans e2).trans hxx) (f1.trans f2) ?_
        show Rep C.K _ α2 (.lst (ems κ _)) (.ref t)
        rw [ems_rep]
        unfold Rep
        exact ⟨t, _, rfl, upd_same, (reps_rep rr k.toNat).mono hxx (List.prefix_refl _)⟩
    · exact p.elim
  · exact p.elim
end
theorem lmulM_0 {us : List U} (h : us.length ≤ 1000) : lmulM (.lst us) (.int 0) = .ok (.lst []) := by
  show (if _ then _ else _) = _
  rw [if_pos (by simpa using h)]; rfl
theorem lmulM_1 {us : List U} (h : us.length ≤ 1000) : lmulM (.lst us) (.int 1) = .ok (.lst us) := by
  show (if _ then _ else _) = _
  rw [if_pos (by simpa using h)]
  show M.ok (U.lst (List.replicate 1 us).flatten) = _
  simp
/-- it is as it was -/
noncomputable def sameM (u v : U) : M Unit := by classical exact if u = v then .ok () else .stuck
@[simp] theorem sameM_ok {u : U} : sameM u u = .ok () := by unfold sameM; rw [if_pos rfl]
end Sh

/-! Sh39: sorted(e, key=lambda x: ..): the lambda made, called for each thing, the things sorted by what it gives. -/
namespace PySem.W
open PySem PySem.Calls PyProof.Rows
section
variable {prog : Program} {w : World} {A : Around} {E : Value → Shared → Prop} {s : Shared} {a kS : Addr} {vs : List Value} {e1 : Nat} {P : PySem.Fin → Shared → Prop} {kz : List Int} {J : Shared → Prop}
/-- both objects that a sort writes are elsewhere -/
def Off (a kS : Addr) (h h' : Heap) : Prop := ∀ b o, b ≠ a → b ≠ kS → h.get? b = some o → h'.get? b = some o
theorem Off.trans {a kS : Addr} {h h1 h2 : Heap} (x : Off a kS h h1) (y : Off a kS h1 h2) : Off a kS h h2 := fun b o n1 n2 e => y b o n1 n2 (x b o n1 n2 e)
theorem Off.same {a kS c : Addr} {h h1 : Heap} (x : Heap.SameBut c h h1) (hc : c = a ∨ c = kS) : Off a kS h h1 := fun b o n1 n2 e => (x.2 b (fun q => by
  rcases hc with z | z
  · exact n1 (q.trans z)
  · exact n2 (q.trans z))).trans e
end
end PySem.W

namespace L2
open PySem PySem.Spec PyProof.Rows LamX
section
variable {X : Cx} {pins : List (Addr × Obj)} {σ : St} {H : Hp} {s : Shared}
end
end L2
namespace Pl
open PySem L2 PyProof.Rows LamX
section
variable {K : PySem.W.Frag} {F : Fm} {B : Hp} {α : List Addr} {Γ : Env} {Λ : Cells} {σ : L2.St} {H H' : Hp}
end
@[reducible] def lamCtx (C : Ctx) (N : List Str) (sc : Scope) (vs ls : List Bool) (gl : List Str) (k : Nat) : Ctx := ⟨C.P, C.w, C.K, C.mg, C.base, N, sc, vs, ls, gl, k, 0, true, none, false⟩
instance {C : Ctx} {N : List Str} {sc : Scope} {vs ls : List Bool} {gl : List Str} {k : Nat} : Cool (lamCtx C N sc vs ls gl k) := ⟨rfl⟩
section
variable {C : Ctx} {E : ER} {Γ : Env} {Λ : Cells} {P : List D → Cells → Prop} {pos p kpos lpos : Pos} {e : Expr}
end
end Pl

/-! Sh40: t.count(b) of truths; sorted by a lambda in the pure reading; defs that make lambdas. -/
namespace L2
open PySem PySem.Spec PyProof.Rows PySem.W
section
variable {X : Cx} {o e : Expr} {es : List Expr} {to : TE} {t : TA} {name : Str} {apos cpos : Pos} {id : String} {r : V → List V → Hp → VK → Prop}
end
end L2
namespace Sh
open PySem L2 Pl PyProof.Rows
section
variable {κ : Kl} {C : Pl.Ctx} {E : ER} {Γ : Pl.Env} {Λ : Cells} {P : D → Cells → Prop} {o e : Expr} {apos cpos : Pos} {α : Type} {Q : α → Prop} {Eh : Str → List U → Prop}
end
section
variable {κ : Kl} {C C' : Pl.Ctx} {Λ1 : Cells} {α : Type} {Q : α → Prop} {Eh : Str → List U → Prop} {N : List Str} {body : Expr} {P : List D → Cells → Prop}
end
end Sh
namespace Pl
open PySem L2 PyProof.Rows
/-- a def of the module that makes lambdas: its code object stands at c -/
structure DefAtL (K : PySem.W.Frag) (mg : Str → Option Value) (x : Str) (st : Stmt) (ps : List Str) (c : Addr) : Prop where
  ex : ∃ f fd, Fun K x x st f fd ∧ mg x = some (.ref f) ∧ (∀ us : List Value, us.length = ps.length → bindArgs fd ⟨us, []⟩ = pure (ps.zip us)) ∧ fd.code = .ref c
theorem DefAtL.at {K : PySem.W.Frag} {mg : Str → Option Value} {x : Str} {st : Stmt} {ps : List Str} {c : Addr} (h : DefAtL K mg x st ps c) : DefAt K mg x st ps := by
  obtain ⟨f, fd, h1, h2, h3, _⟩ := h.ex
  exact ⟨f, fd, h1, h2, h3⟩
end Pl
namespace Sh
open PySem L2 Pl PyProof.Rows
end Sh

/-! Sh41: sorted(rows): rows are tuples of truths. -/
namespace Law
end Law
namespace L2
open PySem PySem.Spec PyProof.Rows PySem.W
end L2
namespace Sh
open PySem L2 Pl PyProof.Rows
section
variable {κ : Kl} {C : Pl.Ctx} {E : ER} {Γ : Pl.Env} {Λ : Cells} {Pn : List D → Cells → Prop} {pos p : Pos} {e : Expr}
end
end Sh

/-! Sh42: s < t of tuples of truths. -/
namespace L2
open PySem PySem.Spec PyProof.Rows PySem.W
end L2
namespace Sh
open PySem L2 Pl PyProof.Rows
section
variable {κ : Kl} {C : Pl.Ctx} {E : ER} {Γ : Pl.Env} {Λ : Cells} {Pt : Bool → Cells → Prop} {pos : Pos} {a b : Expr}
end
end Sh

/-! Sh43: defs that are called while an exception is being handled. -/
namespace L2
open PySem PySem.Spec PyProof.Rows
theorem RoomW.mono {j k : Nat} {A : Around} (r : RoomW k A) (h : j ≤ k) : RoomW j A := ⟨r.gd, by have := r.dp; omega, by have := r.un; omega⟩
theorem RoomW.deeper {k : Nat} {A : Around} (r : RoomW (k + 1) A) (env : Env) : RoomW k (A.deeper env) :=
  ⟨r.gd, by have := r.dp; show A.depth + 1 + k + 8 < _; omega, by have := r.un; show A.units + 3 + 4 * k + 220 < _; omega⟩
theorem RoomW.depth {k : Nat} {A : Around} (r : RoomW k A) : A.depth < recursionLimit := by have := r.dp; omega
/-- what a def promises, whatever is being handled -/
structure FnW (P : Program) (w : World) (K : PySem.W.Frag) (mg : Str → Option Value) (base : Heap) (CX : CXT) (k : Nat) (f : Addr) (fd : FuncData) (ps : List Str) (sp : Sp) : Prop where
  len : ∀ vs H Q E, sp vs H Q E → vs.length = ps.length
  run : ∀ (A : Around) (outer : List Env) (s : Shared) (H : Hp) (args : Args) (us : List Value) (vs : List V) (Q : VK) (E : XK), RoomW k A → Env0 P w K mg base A outer s H → BindsTo s fd args (ps.zip us) → Vals vs us → sp vs H Q E →
    codeAny (model P w) A (.call (.ref f) args) (CR CX outer P w H s Q E) s
/-- .. so where nothing is, too -/
theorem FnW.g {P : Program} {w : World} {K : PySem.W.Frag} {mg : Str → Option Value} {base : Heap} {CX : CXT} {k : Nat} {f : Addr} {fd : FuncData} {ps : List Str} {sp : Sp} (F : FnW P w K mg base CX k f fd ps sp) : FnG P w K mg base CX k f fd ps sp :=
  ⟨F.len, fun A outer s H args us vs Q E hr => F.run A outer s H args us vs Q E hr.w⟩
/-- the context of such a def's body -/
def cxW (CX : CXT) (P : Program) (w : World) (K : PySem.W.Frag) (mg : Str → Option Value) (base : Heap) (N : List Str) (qual : Str) (scope : Scope) (f : Addr) (cd : Value) (A : Around) (outer : List Env) (s : Shared) (H : Hp) (E : XK) : Cx :=
  { cxOf CX P w K mg base N qual scope f cd A outer s H E with calm := false }
theorem inv_startW {CX : CXT} {P : Program} {w : World} {K : PySem.W.Frag} {mg : Str → Option Value} {base : Heap} {N ps : List Str} {qual : Str} {scope : Scope} {f : Addr} {cd : Value} {A : Around} {outer : List Env} {s s1 : Shared} {H : Hp} {E : XK} {us : List Value} {vs : List V}
    (S : FnScope N ps scope) (e0 : Env0 P w K mg base A outer s H) (hl : vs.length = ps.length) (r : Vals vs us)
    (x : InCallC s s.heap.objs.size (bindL (envOfC qual scope s.heap.objs.size f cd).kindOf (ps.zip us) fun _ => none) (cellsFrom (s.heap.objs.size + 1) scope.names []) (bindC (envOfC qual scope s.heap.objs.size f cd).kindOf (ps.zip us) fun _ => none) s1) :
    Inv (cxW CX P w K mg base N qual scope f cd A outer s H E) [] (start N vs) H s1 := by
  have e1 : Env0 P w K mg base { A with handled := none } outer s H := ⟨e0.frames, e0.mod, e0.bs, e0.bsz, e0.funs, e0.frf, e0.hok, e0.bare⟩
  have I := inv_start (CX := CX) (E := E) (A := { A with handled := none }) S rfl e1 hl r x
  exact ⟨{ I.ok with hd := fun z => Bool.noConfusion (show false = true from z), frames := Around.frames_deeper e0.frames }, I.os, I.bare, I.base, I.loc, I.cell, I.free, I.freeC, I.pin, I.hok, I.len⟩
theorem fn_ofW {CX : CXT} {P : Program} {w : World} {K : PySem.W.Frag} {mg : Str → Option Value} {base : Heap} {k : Nat} {f : Addr} {name qual : Str} {params : Arguments} {body : List Stmt} {scope : Scope} {dV kV doc pm cdv ct oc : Value} {an od : Option Addr}
    {osl : Array (Option Value)} {N ps : List Str} {sp : Sp} (lk : K.lookup f = some ⟨oc, od, .func (PySem.W.fnOf name qual params body scope dV kV doc pm an cdv ct), osl⟩) (hcd : PySem.W.codeIn K cdv qual = true) (S : FnScope N ps scope)
    (len : ∀ vs H Q E, sp vs H Q E → vs.length = ps.length)
    (hbody : ∀ (A : Around) (outer : List Env) (s : Shared) (H : Hp) (vs : List V) (Q : VK) (E : XK), RoomW k (A.deeper (envOfC qual scope s.heap.objs.size f cdv)) → sp vs H Q E →
      ∃ t, PSs (cxW CX P w K mg base N qual scope f cdv A outer s H E) body t ∧ t { nx := fun _ H' => Q .non H', rt := Q } (start N vs) H) :
    FnW P w K mg base CX (k + 1) f (PySem.W.fnOf name qual params body scope dV kV doc pm an cdv ct) ps sp := by
  refine ⟨len, fun A outer s H args us vs Q E hr e0 hb r hsp => ?_⟩
  have hl := len _ _ _ _ hsp
  have KX : K.In s.heap := e0.mod.kin.keeps fun b o e => (e0.bs b o e).1
  have lim : s.heap.NoLimit := e0.mod.nolimit.keeps fun b o e => (e0.bs b o e).1
  have hkind : ∀ y ∈ ps.zip us, scope.names.lookup y.1 = some .local ∨ (scope.names.lookup y.1 = some .cell ∧ ((cellsFrom (s.heap.objs.size + 1) scope.names []).lookup y.1).isSome = true) := fun ⟨n, v⟩ hy => by
    rcases S.par n (List.of_mem_zip hy).1 with q | q
    · exact .inl q
    · exact .inr ⟨q, PySem.W.cellsFrom_some _ _ _ (.inl q)⟩
  refine codeAny_call_function hr.depth (KX _ _ lk) rfl S.co S.gen rfl (PySem.W.codeRec_of KX hcd) (hb _ _ _ _ ?_)
  refine wpAny_newFunctionEnv_cells S.kind hkind fun env he s1 x => ?_
  subst he
  refine ⟨lim.keeps x.toInCall.keep, codeAny_func ?_⟩
  obtain ⟨t, ht, hq⟩ := hbody A outer s H vs Q E (hr.deeper _) hsp
  have I : Inv (cxW CX P w K mg base N qual scope f cdv A outer s H E) [] (start N vs) H s1 := inv_startW S e0 hl r x
  refine wpAny_mono (ht.run [] s1 (start N vs) H _ I hq) (fun fl s' hs => ?_) fun e s' hs => hs
  have fin : ∀ {σ' : St} {H' : Hp} {v : V} {u : Value}, Inv (cxW CX P w K mg base N qual scope f cdv A outer s H E) [] σ' H' s' → RelV v u → Q v H' → CE outer P w H s Q u s' :=
    fun {σ' H' v u} J rv q => ⟨v, H', J.os, J.bare, J.base, J.hok, rv, q⟩
  cases fl with
  | ret u =>
    obtain ⟨v, σ', H', J, rv, q⟩ := hs
    exact fin J rv q
  | next =>
    obtain ⟨σ', H', J, q⟩ := hs
    exact fin (v := V.non) (u := Value.none) J rfl q
  | brk =>
    obtain ⟨_, _, _, q⟩ := hs
    exact False.elim q
  | cont =>
    obtain ⟨_, _, _, q⟩ := hs
    exact False.elim q
section
variable {P : Program} {w : World} {K : PySem.W.Frag} {mg : Str → Option Value} {base : Heap}
theorem Fun.okXW {x qual : Str} {st : Stmt} {f : Addr} {fd : FuncData} {N ps : List Str} {k : Nat} {sp : Sp} (F : Fun K x qual st f fd) (S : FnScope N ps (defScope st)) (len : ∀ vs H Q E, sp vs H Q E → vs.length = ps.length)
    (hbody : ∀ (cdv : Value) (A : Around) (outer : List Env) (s : Shared) (H : Hp) (vs : List V) (Q : VK) (E : XK), fd.code = cdv → RoomW k (A.deeper (envOfC qual (defScope st) s.heap.objs.size f cdv)) → sp vs H Q E →
      ∃ t, PSs (cxW (L2.CX P w) P w K mg base N qual (defScope st) f cdv A outer s H E) (defBody st) t ∧ t { nx := fun _ H' => Q .non H', rt := Q } (start N vs) H) : FnW P w K mg base (L2.CX P w) (k + 1) f fd ps sp := by
  obtain ⟨oc, od, kV, doc, pm, an, cdv, ct, osl, rfl, lk, hcd⟩ := F.ex
  exact fn_ofW lk hcd S len fun A outer s H vs Q E hr hsp => hbody cdv A outer s H vs Q E rfl hr hsp
end
section
variable {X : Cx} {CX : CXT} {k : Nat} {f : Addr} {fd : FuncData} {ps : List Str} {sp : Sp} {dvs : List V} {ds : List Value} {E : St → XK} {x : Str} {p pos : Pos} {e : Expr} {es : List Expr} {t : TA}
theorem run_fnSDW {pins : List (Addr × Obj)} {σ : St} {H : Hp} {s : Shared} {Q : VK} {us : List Value} {vs : List V} (F : FnW X.prog X.w X.K X.mg X.base CX k f fd ps sp) (hr : RoomW k X.A) (hb : Binds X.K fd ps ds) (hd : Vals dvs ds) (hx : PassesAt CX X σ (E σ))
    (I : Inv X pins σ H s) (r : Vals vs us) (h : sp (vs ++ dvs) H Q (E σ)) : wpAny (model X.prog X.w) X.A (call (.ref f) us) (EP X pins σ Q) X.xe s := by
  have r2 : Vals (vs ++ dvs) (us ++ ds) := r.append hd
  have hl : (us ++ ds).length = ps.length := by rw [← r2.length]; exact F.len _ _ _ _ h
  refine wpAny_call (codeAny_mono (F.run X.A X.stack s H ⟨us, []⟩ (us ++ ds) (vs ++ dvs) Q (E σ) hr I.env0 (hb s us I.kIn hl) r2 h) fun r s' hq => ?_)
  cases r with
  | error e => exact hx pins H s e s' I hq
  | ok fl =>
    cases fl with
    | ret u => exact I.after hq
    | next => exact False.elim hq
    | brk => exact False.elim hq
    | cont => exact False.elim hq
theorem pe_callSDW (F : FnW X.prog X.w X.K X.mg X.base CX k f fd ps sp) (hr : RoomW k X.A) (hg : Gl X x) (hm : X.mg x = some (.ref f)) (hk : PySem.W.keepIn X.K (.ref f) = true) (hb : Binds X.K fd ps ds) (hd : Vals dvs ds) (hx : ∀ σ, PassesAt CX X σ (E σ))
    (ha : PA X (e :: es) t) (hdb : (x == ("__debug__" : Str)) = false := by decide) (he : starEach (e :: es) X.env = (false, eval e X.env) :: starEach es X.env := by rfl) (hpl : (backTo pos (starEach es X.env)).any (·.1) = false := by rfl) :
    PE X (.Call (.Name x p) (e :: es) [] pos) (tCallSD sp dvs E t) := by
  refine ⟨fun pins s σ H Q I h => ?_⟩
  refine wpAny_Call_Name_kw (ld_glob I hg hm ?_ hdb)
  refine PySem.W.callWith_K (h₀ := X.base) I.ok.mod.kin hk (thn (ha.run pos pins s σ H _ I h) fun us s1 ⟨vs, H1, I1, r, q⟩ => ⟨I1.kIn, ?_⟩) he hpl
  exact run_fnSDW F hr hb hd (hx σ) I1 r q
end
end L2
namespace Pl
open PySem L2 PyProof.Rows
/-- a def of the module, whatever is being handled -/
structure FnHot (P : Program) (w : World) (K : PySem.W.Frag) (mg : Str → Option Value) (base : Heap) (k : Nat) (x : Str) (n : Nat) (S : Spec) : Prop where
  ex : ∃ f fd ps, FnW P w K mg base (L2.CX P w) k f fd ps (spOf K n S) ∧ mg x = some (.ref f) ∧ PySem.W.keepIn K (.ref f) = true ∧ Binds K fd ps [] ∧ ps.length = n
theorem FnHot.g {P : Program} {w : World} {K : PySem.W.Frag} {mg : Str → Option Value} {base : Heap} {k : Nat} {x : Str} {n : Nat} {S : Spec} (h : FnHot P w K mg base k x n S) : Fn P w K mg base k x n S := by
  obtain ⟨f, fd, ps, h1, h2⟩ := h.ex
  exact ⟨f, fd, ps, h1.g, h2⟩
theorem fn_okW {P : Program} {w : World} {K : PySem.W.Frag} {mg : Str → Option Value} {base : Heap} {x qual : Str} {st : Stmt} {f : Addr} {fd : FuncData} {N ps : List Str} {k : Nat} {S : Spec} (F : Fun K x qual st f fd) (sc : FnScope N ps (defScope st)) (C : Ctx)
    (hC : C.P = P ∧ C.w = w ∧ C.K = K ∧ C.mg = mg ∧ C.base = base ∧ C.N = N ∧ C.sc = defScope st ∧ C.k = k) (hh : C.hot = true) (good : C.Good) (hm : ∀ ds Λ Q E, S ds Λ Q E → Λ.length ≤ C.m)
    (hb : ∀ ds Λ Q E, ds.length = ps.length → S ds Λ Q E → WSs C (Γ0 N ds) Λ (defBody st) ⟨fun _ Λ' => rtY Λ Q (.val .non) Λ', rtY Λ Q, fun _ _ => False, fun _ _ => False, erX Λ E⟩) (hcd : ∀ q c, C.cd = some (q, c) → qual ++ ".<locals>." = q ∧ fd.code = .ref c := by intro _ _ h; cases h) : FnW P w K mg base (L2.CX P w) (k + 1) f fd ps (spOf K ps.length S) := by
  obtain ⟨rfl, rfl, rfl, rfl, rfl, rfl, hsc, rfl⟩ := hC
  refine F.okXW sc (fun vs H Q E h => by obtain ⟨_, _, _, h, _⟩ := h; exact h) fun cdv A outer s H vs Q E ecd hr h => ?_
  obtain ⟨Fm', ds, Λ, hl, hH, T, r, sp⟩ := h
  have hds : ds.length = ps.length := by rw [← r.length]; exact hl
  have hN : ps.length ≤ C.N.length := by have := congrArg List.length sc.pre; rw [List.length_take] at this; omega
  let X := cxW (L2.CX C.P C.w) C.P C.w C.K C.mg C.base C.N qual (defScope st) f cdv A outer s H E
  have is : C.Is X := ⟨rfl, rfl, rfl, rfl, rfl, rfl, hsc.symm, fun z => absurd (z.symm.trans hh) (by decide), fun z => absurd (z.symm.trans hh) (by decide), hr, fun _ _ _ _ => .inl rfl, good, passes_of rfl, fun _ => ⟨rfl, rfl, rfl⟩, fun q c e => ⟨(hcd q c e).1, ecd.symm.trans (hcd q c e).2⟩⟩
  have tk : Takes X (fun c d _ H => E c d H) := takes_of rfl rfl rfl rfl
  have T' : Sat C.K Fm' Fm'.B0 Fm'.α0 (Γ0 C.N ds) Λ (L2.start C.N vs) H := by
    refine T.env ?_ fun i d hi => ?_
    · unfold Γ0 L2.start
      simp only [List.length_append, List.length_map, List.length_replicate]
      omega
    · unfold Γ0 at hi
      by_cases hlt : i < ds.length
      · rw [List.getElem?_append_left (by simpa using hlt), List.getElem?_map] at hi
        cases q : ds[i]? with
        | none => rw [q] at hi; cases hi
        | some e =>
          rw [q] at hi
          cases hi
          obtain ⟨v, h1, h2⟩ := r.get q
          refine ⟨v, ?_, h2⟩
          unfold L2.start
          rw [List.getElem?_append_left (by have := (List.getElem?_eq_some_iff.mp h1).1; simpa using this), List.getElem?_map, h1]
          rfl
      · rw [List.getElem?_append_right (by simpa using hlt), List.getElem?_replicate] at hi
        split at hi <;> cases hi
  have hlen : Fm'.α0.length = Λ.length := T.al
  have cut : ∀ {m : Nat} {Γ' : Env} {Λ' : Cells} {B' : Hp} {α' : List Addr} {σ' : L2.St} {H' : Hp}, Λ.length ≤ m → Sat C.K Fm' B' α' Γ' Λ' σ' H' → (Λ'.take m).all nlC = true → Sat C.K Fm' B' (α'.take m) [] (Λ'.take m) [] H' := fun hm S' h =>
    S'.cut (by omega) (all_nlC h) rfl fun i d h => by simp at h
  refine ⟨_, hb ds Λ _ _ hds sp X Fm' _ is (by rw [T.al]; exact hm _ _ _ _ sp) tk, Fm'.B0, Fm'.α0, T', ⟨fun Γ' Λ' B' α' σ' H' h S' e => ?_, fun r Λ' v Γ' B' α' σ' H' h S' e ra => ?_, fun Γ' Λ' B' α' σ' H' h => h.elim, fun Γ' Λ' B' α' σ' H' h => h.elim, fun err Γ' Λ' B' α' σ' H' c dx h S' e ea => ?_⟩⟩
  · obtain ⟨m, hm1, h2, ⟨h1, h3⟩ | ⟨n, ds, _, e, _⟩ | ⟨n, ks, ds, _, e, _⟩⟩ := h
    · exact h3 .non H' B' _ (cut hm1 S' h2) (by unfold ResAt Rep; rfl)
    · cases e
    · cases e
  · have far : ∀ {m n : Nat} {a : Addr}, m ≤ n → α'[n]? = some a → a ∉ α'.take m := fun {m n a} hk ha hm => by
      have hna : n < α'.length := (List.getElem?_eq_some_iff.mp ha).1
      obtain ⟨j, hj, ej⟩ := List.getElem_of_mem hm
      rw [List.getElem_take] at ej
      rw [List.length_take] at hj
      have e1 : α'[j]? = some a := by rw [List.getElem?_eq_getElem (by omega), ej]
      have := (List.getElem?_inj (by omega) S'.nd).mp (e1.trans ha.symm)
      omega
    have fresh : ∀ {m n : Nat} {a : Addr}, Λ.length ≤ m → m ≤ n → α'[n]? = some a → (Fm'.H0 a = none ∨ a ∈ Fm'.α0) → Fm'.H0 a = none := fun {m n a} hm1 hn ha q3 => by
      rcases q3 with z | z
      · exact z
      · exfalso
        obtain ⟨t, ht⟩ := S'.pf
        apply far (m := Fm'.α0.length) (by omega) ha
        rw [← ht, List.take_append_of_le_length (Nat.le_refl _), List.take_length]
        exact z
    obtain ⟨m, hm1, h2, ⟨h1, h3⟩ | ⟨n, ds, hn, e, hc, hds, h3⟩ | ⟨n, ks, ds, hn, e, hc, hds, h3⟩⟩ := h
    · refine h3 v H' B' _ (cut hm1 S' h2) ?_
      cases r with
      | val d => exact reps_take h1 ra
      | new ds =>
        obtain ⟨p, vs, q1, q2, q3, q4, q5, q6⟩ := ra
        exact ⟨p, vs, q1, q2, q3, q4, fun hm => q5 (List.mem_of_mem_take hm), Reps.nl ds vs h1 q6⟩
    · subst e
      refine h3 v H' B' _ (cut hm1 S' h2) ?_
      unfold ResAt Rep at ra
      obtain ⟨a, rfl, ha⟩ := ra
      obtain ⟨a', q1, q2, q3, vs, q4, q5⟩ := S'.ce n _ hc (by simp)
      rw [ha] at q1; cases q1
      exact ⟨a, vs, rfl, q4, q2, fresh hm1 hn ha q3, far hn ha, Reps.nl ds vs hds q5⟩
    · subst e
      unfold ResAt Rep at ra
      obtain ⟨a, rfl, ha⟩ := ra
      obtain ⟨a', q1, q2, q3, vs, q4, q5, q6⟩ := S'.ce n _ hc (by simp)
      rw [ha] at q1; cases q1
      have S2 := (cut hm1 S' h2).see q4 q2 (fresh hm1 hn ha q3) (far hn ha)
      refine h3 (.ref a) H' _ _ S2 ?_
      have hx : Ex B' (upd B' a (.dK (ks.zip vs))) := Ex.new q2
      show Rep _ _ _ (.dic ks ds) _
      unfold Rep
      exact ⟨a, vs, rfl, .inl upd_same, (Reps.nl ds vs hds q5).mono hx (List.prefix_refl _), q6⟩
  · obtain ⟨h1, h2, h3⟩ := h
    refine h3 B' _ H' c dx (cut (Nat.le_refl _) S' h2) ?_
    obtain ⟨e1, e2⟩ := ea
    refine ⟨e1, ?_⟩
    unfold nlE at h1
    cases hf : err.fs with
    | none => rw [hf] at e2; exact e2
    | some z =>
      obtain ⟨ns, ds⟩ := z
      rw [hf] at e2 h1
      obtain ⟨a, vs, q1, q2, q3, q4, q5⟩ := e2
      exact ⟨a, vs, q1, q2, Reps.nl ds vs h1 q3, q4, fun z => ⟨(q5 z).1, fun hm => (q5 z).2 (List.mem_of_mem_take hm)⟩⟩
theorem fn_mkW {P : Program} {w : World} {K : PySem.W.Frag} {mg : Str → Option Value} {base : Heap} {k : Nat} {x : Str} {f : Addr} {fd : FuncData} {ps : List Str} {S : Spec} (h : FnW P w K mg base (L2.CX P w) k f fd ps (spOf K ps.length S)) (hm : mg x = some (.ref f)) (hk : PySem.W.keepIn K (.ref f) = true) (hb : Binds K fd ps []) :
    FnHot P w K mg base k x ps.length S := ⟨f, fd, ps, h, hm, hk, hb, rfl⟩
section
variable {C : Ctx} {E : ER} {Γ : Env} {Λ : Cells} {pos p : Pos}
theorem we_callW {k n : Nat} {x : Str} {S : Spec} {e : Expr} {es : List Expr} {P : D → Cells → Prop} (G : FnHot C.P C.w C.K C.mg C.base k x n S) (hk : k ≤ C.k) (hj : GlAt C x) (m : Mono S)
    (h : WA C E Γ Λ (e :: es) fun ds Λ1 => nls ds = true ∧ ds.length = n ∧ S ds [] (fun r Λ' => Λ' = [] ∧ ∃ d, r = .val d ∧ P d Λ1) fun err Λ' => Λ' = [] ∧ E err Γ Λ1)
    (he : plainE e = true := by rfl) (hes : es.all plainE = true := by rfl) (hdb : (x == ("__debug__" : Str)) = false := by decide) : WE C E Γ Λ (.Call (.Name x p) (e :: es) [] pos) P := fun X F W is tk => by
  obtain ⟨f, fd, ps, h1, h2, h3, h4, h5⟩ := G.ex
  have e1 := is.prog; have e2 := is.w; have e3 := is.K; have e4 := is.mg; have e5 := is.base
  refine pe_imp (pe_callSDW (E := fun σ c dx H' => W c dx σ H') (dvs := []) (ds := []) (by rw [e1, e2, e3, e4, e5]; exact h1) (is.roomW.mono hk) (is.gl hj) (by rw [e4]; exact h2) (by rw [e3]; exact h3) (by rw [e3]; exact h4) .nil
    (fun σ => by rw [← e1, ← e2]; exact passAt tk σ) pa_U hdb (star_plain he) (back_plain hes)) fun σ H Q ⟨B, α, T, q, er⟩ => ?_
  refine WA.use h is tk T er fun ds Λ1 vs B1 α1 H1 p1 T1 x1 f1 r1 => ?_
  obtain ⟨n1, n2, s1⟩ := p1
  refine call_sp T1 r1 n1 n2 s1 (m ds []) (er.mono x1) fun r v B' H' p' T' x' ra => ?_
  obtain ⟨d, rfl, p'⟩ := p'
  exact q d Λ1 v B' α1 H' p' T' (x1.trans x') f1 (Rep.mono (Ex.refl _) List.nil_prefix d v ra)
end
@[reducible] def Gl.cxh (G : Gl) (N : List Str) (sc : Scope) (vs ls : List Bool) (gl : List Str) (k : Nat) (m : Nat := 0) : Ctx := ⟨G.P, G.w, G.K, G.mg, G.base, N, sc, vs, ls, gl, k, m, true, none, true⟩
abbrev Gl.fnh (G : Gl) (k : Nat) (x : Str) (n : Nat) (S : Spec) : Prop := FnHot G.P G.w G.K G.mg G.base k x n S
theorem def_okW {G : Gl} {x : Str} {st : Stmt} {ps : List Str} (h : DefAt G.K G.mg x st ps) {N : List Str} {vs ls : List Bool} {gl : List Str} {k m : Nat} {S : Spec} (sc : FnScope N ps (defScope st)) (good : goodC N (defScope st) vs ls gl = true)
    (hm : ∀ ds Λ Q E, S ds Λ Q E → Λ.length ≤ m)
    (hb : ∀ ds Λ Q E, ds.length = ps.length → S ds Λ Q E → WSs (G.cxh N (defScope st) vs ls gl k m) (Γ0 N ds) Λ (defBody st) ⟨fun _ Λ' => rtY Λ Q (.val .non) Λ', rtY Λ Q, fun _ _ => False, fun _ _ => False, erX Λ E⟩) : G.fnh (k + 1) x ps.length S := by
  obtain ⟨f, fd, h1, h2, h3⟩ := h.ex
  exact fn_mkW (fn_okW h1 sc (G.cxh N (defScope st) vs ls gl k m) ⟨rfl, rfl, rfl, rfl, rfl, rfl, rfl, rfl⟩ rfl (good_by good) hm hb) h2 h1.kp (.all h3)
end Pl
namespace Sh
open PySem L2 Pl PyProof.Rows
section
variable {κ : Kl} {C : Pl.Ctx} {E : ER} {Γ : Pl.Env} {Λ : Cells} {n : Nat} {pos p : Pos}
theorem we_callVW {k : Nat} {x : Str} {e : Expr} {es : List Expr} {P : D → Cells → Prop} {f : List U → M U} (G : FnHot C.P C.w C.K C.mg C.base k x n (spV κ n f)) (hk : k ≤ C.k) (hj : GlAt C x)
    (h : WA C E Γ Λ (e :: es) fun ds Λ1 => ∃ us, ds = ems κ us ∧ us.length = n ∧ wp (f us) (fun z => P (em κ z) Λ1) (fun c es => E (errD κ c es) Γ Λ1))
    (he : plainE e = true := by rfl) (hes : es.all plainE = true := by rfl) (hdb : (x == ("__debug__" : Str)) = false := by decide) : WE C E Γ Λ (.Call (.Name x p) (e :: es) [] pos) P :=
  we_callW G hk hj spV_mono (wa_mono h fun ds Λ1 ⟨us, h1, h2, h3⟩ => by
    subst h1
    exact ⟨nls_em us, by rw [ems_len]; exact h2, rfl, us, rfl, h2, wp_mono h3 (fun z h => ⟨rfl, _, rfl, h⟩) fun c es h => ⟨rfl, h⟩⟩) he hes hdb
end
section
variable {κ : Kl} {G : Gl}
theorem def_VW {x : Str} {st : Stmt} {ps : List Str} (h : DefAt G.K G.mg x st ps) {N : List Str} {vs ls : List Bool} {gl : List Str} {k : Nat} {f : List U → M U} (sc : FnScope N ps (defScope st)) (good : goodC N (defScope st) vs ls gl = true)
    (hb : ∀ us, us.length = ps.length → ∀ Q Eh, wp (f us) Q Eh → WSs (G.cxh N (defScope st) vs ls gl k 0) (Γ0 N (ems κ us)) [] (defBody st) ⟨fun _ _ => Q .non, rtV κ Q, fun _ _ => False, fun _ _ => False, erM κ Eh⟩) : G.fnh (k + 1) x ps.length (spV κ ps.length f) :=
  def_okW (m := 0) h sc good (fun ds Λ Q E ⟨h, _⟩ => by subst h; exact Nat.le_refl _) fun ds Λ Q E hl ⟨h0, us, h1, h2, h3⟩ => by
    subst h0; subst h1
    refine wss_mono (hb us h2 _ _ h3) ⟨fun Γ Λ p => ?_, fun r Λ p => ?_, fun _ _ z => z, fun _ _ z => z, fun e Γ Λ p => ?_⟩
    · exact ⟨0, Nat.le_refl _, rfl, .inl ⟨rfl, p⟩⟩
    · rcases p with ⟨u, rfl, q⟩ | ⟨n, ks, us, rfl, q1, q2⟩
      · exact ⟨0, Nat.le_refl _, rfl, .inl ⟨ltD_nl _ (nl_em u), q⟩⟩
      · exact ⟨0, Nat.le_refl _, rfl, .inr (.inr ⟨n, ks, _, Nat.zero_le _, rfl, q1, nls_em us, q2⟩)⟩
    · obtain ⟨c, es, rfl, q⟩ := p
      exact ⟨nlE_errD, rfl, q⟩
end
end Sh

/-! Sh44: a suite of one statement behind `except x as n`, walked while the exception is being handled. -/
namespace L2
open PySem PySem.Spec PyProof.Rows
/-- what the clause 'except x as n: b₀' wishes of an exception of the body -/
def wHot (X : Cx) (c : Value) (i : Nat) (b₀ : Stmt) (D : Ends) : WX := fun cls d σ H =>
  PySem.W.exmOne X.K cls c = some true ∧ ∃ C, cls = .ref C ∧ ∀ a, H a = none → ∃ t : TS, (∀ pn, PSs (X.suite a pn) [b₀] t) ∧
    t { nx := fun σ6 H6 => D.nx (σ6.set i none) H6, rt := fun _ _ => False, bk := fun _ _ => False, ct := fun _ _ => False } (σ.set i (some (.ref a))) (upd H a (Pl.excHO C a d))
section
variable {X : Cx} {x n : Str} {c : Value} {i : Nat} {body : List Stmt} {b₀ : Stmt} {np pos pos' : Pos} {tb : WX → TS}
theorem ps_try_hot (hex : X.ex = []) (hs : X.stack = X.env :: X.outer) (hf : X.env.frame = some X.env.locals) (hN : X.N.Nodup) (hi : X.N[i]? = some n) (hln : X.env.kindOf n = some .local) (hc : Names X x c)
    (hb : ∀ (W : WX) (pn : List (Addr × Obj)) (xe : Value → Shared → Prop), Takes (X.tr pn xe) W → PassesOwn (model X.prog X.w) X.A X.env xe → PSs (X.tr pn xe) body (tb W)) :
    PS X (.Try body [.ExceptHandler (some (.Name x np)) (some n) [b₀] pos'] [] [] pos) (fun D σ H => tb (wHot X c i b₀ D) D σ H) := by
  refine ⟨fun pins s σ H D I h => ?_⟩
  have ok := I.ok
  have hfr : X.A.frames = some (X.env :: X.outer) := by rw [ok.frames, hs]
  have hloc : Loc X.env.scope n := .inl hln
  refine wpAny_Try_except ?_
  refine wpAny_mono ((hb (wHot X c i b₀ D) (X.pn ++ pins) (fun e s₁ => wpAny (model X.prog X.w) X.A (noteFrame e X.env) (fun _ s₂ => wpAny (model X.prog X.w) X.A (setFlight e none) (fun _ s₃ =>
    wpAny (model X.prog X.w) X.A (handleBy e X.env [.ExceptHandler (some (.Name x np)) (some n) [b₀] pos']) (SP X pins D) X.xe s₃) X.xe s₂) X.xe s₁) (fun u s' xx => ?_) PassesOwn.looking).run [] s σ H D (I.toTry _) h) (fun f s1 hsp => ?_) (fun e s1 he => he)
  · -- the catch
    obtain ⟨a, B, sI, pins', σ', H', cls, d, rfl, J', nb, up, sky, na, os, ag, hb1, C, rfl, hyes⟩ := xx
    have J : Inv X pins σ' H' sI := J'.ofTry ok
    have sky' : Sky B (X.env :: X.outer) a (Zc (.ref C) d) X.env.locals s'.heap := by rw [← hs]; exact sky
    show wpAny (model X.prog X.w) X.A (noteFrame (.ref a) X.env) _ _ _
    refine Sky.land Zc.steady hfr hf sky' fun h3 fl3 up3 => ?_
    have J3 : Inv X pins σ' H' { s' with heap := h3 } := J.landed nb fl3.1 (up.trans up3) os ag
    obtain ⟨oe3, vs3, he3, hz3, hd3⟩ := fl3.there
    have notFr : ∀ {h : Heap} {o : Obj} {vs : Array Value}, h.FunFrames B (X.env :: X.outer) → h.get? a = some o → o.data = .fields vs → a ∉ frs (X.env :: X.outer) := fun {h o vs} ff e dd hm => by
      obtain ⟨_, o', e', hnf⟩ := ff.mem hm
      rw [e] at e'; cases e'
      exact hnf _ dd
    have nfr := notFr fl3.2.2.1 he3 hd3
    have nL : a ≠ X.env.locals := fun z => nfr (List.mem_filterMap.mpr ⟨X.env, List.mem_cons_self, by rw [hf, z]⟩)
    have nF : a ∉ X.fs := fun hm => by
      obtain ⟨e, he, q⟩ := List.mem_filterMap.mp hm
      exact nfr (List.mem_filterMap.mpr ⟨e, List.mem_cons_of_mem _ he, q⟩)
    have nI : sI.heap.get? a = none := by
      cases q : sI.heap.get? a with
      | none => rfl
      | some o =>
        have z := nb a o q (by rw [hs]; exact nfr)
        rw [fl3.2.1] at z; cases z
    have nP : ∀ p ∈ X.pn ++ pins, p.1 ≠ a := fun p hp z => by
      have e := (J.pin p hp).1
      rw [z, nI] at e; cases e
    have n0 : X.s_0.heap.get? a = none := by
      cases q : X.s_0.heap.get? a with
      | none => rfl
      | some o =>
        obtain ⟨o', z⟩ := J.base.there a o q (by show a ∉ X.ex; rw [hex]; exact fun z => nomatch z)
        rw [nI] at z; cases z
    have S3 := J3.suite he3 hd3 na nL nF
    refine wpAny_handleBy_cons (codeAny_handlers_test ?_) (by intro q; cases q)
    have LT : PySem.W.Looks (model X.prog X.w) h3 (typeOf (.ref a)) (.ref C) := fun A Q E s k q => wpAny_typeOf_ref (k _ _ he3) (by rw [hz3.1]; exact q)
    have LM := PySem.W.exm_one (M := model X.prog X.w) (J3.kIn) LT hb1
    have test : ∀ {Q : Value → Shared → Prop} {E : Value → Shared → Prop}, Q c { s' with heap := h3 } → wpAny (model X.prog X.w) (X.A.mark (some (.ref a))) (eval (.Name x np) X.env) Q E { s' with heap := h3 } := fun {Q E} q => by
      obtain ⟨hg, hdbg, hm | ⟨hm, hv, hnn⟩⟩ := hc
      · exact ld_glob (X := X.suite a ((a, oe3) :: (X.pn ++ pins))) S3 hg hm q hdbg
      · exact ld_blt (X := X.suite a ((a, oe3) :: (X.pn ++ pins))) S3 hg hm hv q hnn hdbg
    refine test (LM.here ?_)
    refine codeAny_handlers_suite_as ?_
    refine HandSPX.lands_againZ fl3 fun h4 fl4 up4 => ?_
    have J4 : Inv X pins σ' H' { s' with heap := h4 } := J.landed nb fl4.1 ((up.trans up3).trans up4) os ag
    obtain ⟨oe4, vs4, he4, hz4, hd4⟩ := fl4.there
    have S4 := J4.suite he4 hd4 na nL nF
    refine store_ok (X := X.suite a ((a, oe4) :: (X.pn ++ pins))) (v := .ref a) S4 hN hi hloc rfl (fun s5 S5 => ?_) (.inr hln)
    have he5 := (S5.pin (a, oe4) (List.mem_append_left _ List.mem_cons_self)).1
    have T5 : Inv (X.suite a (X.pn ++ pins)) [] (σ'.set i (some (.ref a))) H' s5 := ⟨ok.suite _ _, S5.os, S5.bare, S5.base, S5.loc, S5.cell, S5.free, S5.freeC, fun q hq => S5.pin q (by rw [List.append_nil] at hq; exact List.mem_append_left _ (List.mem_cons_of_mem _ hq)), S5.hok, S5.len⟩
    have U5 := T5.track he5 hz4 hd4 na n0 nL (fun q hq => nP q (by rw [List.append_nil] at hq; exact hq))
    obtain ⟨t, ht, q5⟩ := hyes a na
    refine wpAny_mono ((ht (X.pn ++ pins)).run [] s5 _ _ _ U5 q5) (fun f s6 hsp => ?_) (fun _ _ z => False.elim z)
    cases f with
    | next =>
      obtain ⟨σ6, H6, S6, q6⟩ := hsp
      have J6 : Inv X pins σ6 H6 s6 := ⟨ok, S6.os, S6.bare, S6.base, S6.loc, S6.cell, S6.free, S6.freeC, fun q hq => S6.pin q (List.mem_append_left _ hq), S6.hok, S6.len⟩
      exact gone_ok J6 hN hi hln fun s7 J7 => ⟨_, _, J7, q6⟩
    | brk => obtain ⟨σ6, H6, S6, z⟩ := hsp; exact z.elim
    | cont => obtain ⟨σ6, H6, S6, z⟩ := hsp; exact z.elim
    | ret u => obtain ⟨v6, σ6, H6, S6, r6, z⟩ := hsp; exact z.elim
  · cases f with
    | next =>
      obtain ⟨σ', H', J', q⟩ := hsp
      exact wpAny_execs_nil ⟨σ', H', J'.ofTry ok, q⟩
    | brk =>
      obtain ⟨σ', H', J', q⟩ := hsp
      exact ⟨σ', H', J'.ofTry ok, q⟩
    | cont =>
      obtain ⟨σ', H', J', q⟩ := hsp
      exact ⟨σ', H', J'.ofTry ok, q⟩
    | ret u =>
      obtain ⟨v, σ', H', J', r, q⟩ := hsp
      exact ⟨v, σ', H', J'.ofTry ok, r, q⟩
end
end L2
namespace Pl
open PySem L2 PyProof.Rows
/-- the context while an exception is being handled -/
@[reducible] def Ctx.heat (C : Ctx) : Ctx := { C with hot := true }
theorem heat_is {C : Ctx} {X : Cx} (is : C.Is X) (a : Addr) (pn : List (Addr × Obj)) : C.heat.Is (X.suite a pn) :=
  ⟨is.prog, is.w, is.K, is.mg, is.base, is.N, is.sc, fun z => absurd z (by simp), fun z => absurd z (by simp), ⟨is.roomW.gd, is.roomW.dp, is.roomW.un⟩, is.fn, ⟨is.good.nd, is.good.vis, is.good.sto, is.good.glo⟩, PassesOwn.never, is.tp, is.cdv⟩
section
variable {C : Ctx} {Γ : Env} {Λ : Cells} {R : Rs} {x n : Str} {CA : Addr} {i : Nat} {body : List Stmt} {b₀ : Stmt} {np pos pos' : Pos}
theorem ws_tryHot (ht : C.tp = true) (hi : C.N[i]? = some n) (hln : C.sc.names.lookup n = some .local) (hg : GlAt C x) (hm : C.mg x = some (.ref CA))
    (h : WSs C Γ Λ body { R with er := fun e Γ' Λ' => ∃ C1, e.cls = .ref C1 ∧ PySem.W.exmOne C.K (.ref C1) (.ref CA) = some true ∧ WSs C.heat (Γ'.set i (some (excD C1 e))) Λ' [b₀] ⟨fun Γ1 Λ1 => R.nx (Γ1.set i none) Λ1, fun _ _ => False, fun _ _ => False, fun _ _ => False, ER.none⟩ })
    (hd : (x == ("__debug__" : Str)) = false := by decide) :
    WS C Γ Λ (.Try body [.ExceptHandler (some (.Name x np)) (some n) [b₀] pos'] [] [] pos) R := fun X F W is hm' tk => by
  obtain ⟨h1, h2, h3⟩ := is.tp ht
  have e1 := is.K
  refine ps_imp (ps_try_hot (i := i) (c := .ref CA) h3 h1 h2 is.nd (is.ni hi) (by show X.env.scope.names.lookup n = _; rw [is.sc]; exact hln)
    ⟨is.gl hg, hd, .inl (by rw [is.mg]; exact hm)⟩ fun W' pn xe tk' po => h (X.tr pn xe) F W' ⟨is.prog, is.w, is.K, is.mg, is.base, is.N, is.sc, is.calmW, is.hdW, is.roomW, is.fn, is.good, po, is.tp, is.cdv⟩ hm' tk') fun D σ H ⟨B, α, S, q⟩ => ?_
  refine ⟨B, α, S, q.nx, q.rt, q.bk, q.ct, fun err Γ' Λ' B' α' σ' H' c dx r S' e ea => ?_⟩
  obtain ⟨C1, hc, hx, r⟩ := r
  have ec : c = .ref C1 := by rw [← hc]; exact ea.1
  subst ec
  refine ⟨by rw [e1]; exact hx, C1, rfl, fun a ha => ?_⟩
  obtain ⟨B1, S1, x1, r1⟩ := S'.caught ea ha
  refine ⟨_, fun pn => r (X.suite a pn) F (fun _ _ _ _ => False) (heat_is is a pn) hm' takes0, B1, α', S1.set r1, ⟨fun Γ6 Λ6 B6 α6 σ6 H6 z S6 e6 => ?_, fun _ _ _ _ _ _ _ _ z => z.elim, fun _ _ _ _ _ _ z => z.elim, fun _ _ _ _ _ _ z => z.elim, fun _ _ _ _ _ _ _ _ _ z => z.elim⟩⟩
  exact q.nx _ Λ6 B6 α6 _ _ z S6.unset (e.trans (x1.trans e6))
end
end Pl
namespace Sh
open PySem L2 Pl PyProof.Rows
section
variable {κ : Kl} {C : Pl.Ctx} {E : ER} {Γ : Pl.Env} {Λ : Cells} {R : Rs} {pos pos' np : Pos} {x n y : Str} {Eh : Str → List U → Prop}
theorem ws_tryH {α σ : Type} {Q : α → Prop} {CA : Addr} {body : List Stmt} {b₀ : Stmt} (i : Nat) (sh : σ → Pl.Env → Cells → Prop) (cs : List (Str × Nat)) (ht : C.tp = true) (hi : C.N[i]? = some n) (hln : C.sc.names.lookup n = some .local) (hg : GlAt C x) (hm : C.mg x = some (.ref CA))
    (hx : ∀ c ∈ cs, PySem.W.exmOne C.K (.ref (κ.ad c.1)) (.ref CA) = some true ∧ (κ.fs c.1).length = c.2) {m : M σ} {k1 : σ → M α} {k2 : Str → List U → M α} (h : wp (tryK cs m k1 k2) Q Eh)
    (h1 : ∀ Q' E', wp m Q' E' → EIa κ E' (erT κ E' Γ Λ) Γ Λ → WSs C Γ Λ body { R with nx := fun Γ Λ => ∃ st, sh st Γ Λ ∧ Q' st, er := erT κ E' Γ Λ })
    (h3 : ∀ st Γ Λ, sh st Γ Λ → wp (k1 st) Q Eh → R.nx Γ Λ) (h2 : ∀ c us, wp (k2 c us) Q Eh → WSs C.heat (Γ.set i (some (em κ (.exc c us)))) Λ [b₀] ⟨fun Γ1 Λ1 => R.nx (Γ1.set i none) Λ1, fun _ _ => False, fun _ _ => False, fun _ _ => False, ER.none⟩)
    (hd1 : (x == ("__debug__" : Str)) = false := by decide) :
    WS C Γ Λ (.Try body [.ExceptHandler (some (.Name x np)) (some n) [b₀] pos'] [] [] pos) R := by
  refine ws_tryHot ht hi hln hg hm (wss_mono (h1 _ _ (tryK_key h) EIa.erT) ⟨fun Γ Λ ⟨st, a, b⟩ => h3 st Γ Λ a b, fun _ _ z => z, fun _ _ z => z, fun _ _ z => z, fun e Γ' Λ' z => ?_⟩) hd1
  obtain ⟨rfl, rfl, c, us, rfl, hc, hw⟩ := z
  obtain ⟨g1, g2⟩ := hx _ hc
  refine ⟨κ.ad c, rfl, g1, ?_⟩
  rw [excD_err g2]
  exact h2 c us hw
end
theorem fnh_none {G : Gl} {x : Str} {st : Stmt} {ps : List Str} {S : Pl.Spec} (h : DefAt G.K G.mg x st ps) {k : Nat} (hn : ∀ ds Λ Q E, ¬ S ds Λ Q E) : G.fnh k x ps.length S := by
  obtain ⟨f, fd, h1, h2, h3⟩ := h.ex
  exact ⟨f, fd, ps, ⟨fun vs H Q E q => by obtain ⟨_, _, _, hl, _, _, _, sp⟩ := q; exact (hn _ _ _ _ sp).elim, fun A outer s H args us vs Q E _ _ _ _ q => by obtain ⟨_, _, _, hl, _, _, _, sp⟩ := q; exact (hn _ _ _ _ sp).elim⟩, h2, h1.kp, .all h3, rfl⟩
end Sh

namespace Law
open PySem L2 Pl Sh
local macro_rules | `(tactic| walk_at "ms") => `(tactic| simp only [Ok_bind, Ok_calm, Ok_ok, Ok_ite, Ok_itd, M.bind_ok, M.calm_ok, eqM_int, eqM_str, eqM_bl, ltM_int, leM_int, gtM_int, geM_int, addM_int, subM_int, negM_int, lenM_lst, lenM_fzl, lenM_tup, modM_int, fdivM_int, mulM_l, mulM_r, Int.reduceLT, Int.reduceNeg, nB_ok, vB_ok, boolM_bl, endM_int, listM_lst, listM_tup, iterL_lst, iterL_fzl, iterT_tup, isi_tup, isi_lst, isi_bl, isi_str, isi_int, isi_st, isi_ts, isi_ib, ix_t0, ix_t1, ix_t2, ix_l0, ix_l1, ix_l2, pow10_6, pow10_9, pow10_12, pow10_30, decide_eq_true_eq, decide_eq_false_iff_not, Bool.not_true, Bool.not_false, Bool.not_eq_true, if_true, if_false, reduceIte, Bool.false_eq_true, true_implies, false_implies, implies_true, and_self, and_true, true_and, reduceCtorEq])
local macro_rules | `(tactic| walk_at "nlc") => `(tactic| simp only [cellsAt, List.map, List.take_succ_cons, List.take_zero, List.take_nil, List.all_cons, List.all_nil, nlC, nls_em, nls_nil, nls_cons, nl_em, Bool.and_self, Bool.and_true, List.getElem?_cons_zero, List.getElem?_cons_succ, Option.getD_some, Option.getD_none])
noncomputable def sh__law_cell_at : Nat → List U → M U
  | kk + 1, [v_script, v_k] =>
    (lenM v_script).bind fun z1 =>
    (eqM z1 (.int 0)).bind fun b2 =>
    if b2 then
      (mulM v_k v_k).bind fun z3 =>
      (mulM z3 (.int 7919)).bind fun z4 =>
      (modM z4 (.int 1000003)).bind fun z5 =>
      .ok z5
    else
      (lenM v_script).bind fun z6 =>
      (modM v_k z6).bind fun z7 =>
      (ixM v_script z7).bind fun z8 =>
      (modM z8 (.int 1000003)).bind fun z9 =>
      (mulM z9 (.int 48271)).bind fun z10 =>
      (fdivM z8 (.int 1000003)).bind fun z11 =>
      (modM z11 (.int 999983)).bind fun z12 =>
      (addM z10 z12).bind fun z13 =>
      (mulM v_k v_k).bind fun z14 =>
      (mulM z14 (.int 7919)).bind fun z15 =>
      (addM z13 z15).bind fun z16 =>
      (mulM v_k (.int 104729)).bind fun z17 =>
      (addM z16 z17).bind fun z18 =>
      (modM z18 (.int 1000003)).bind fun z19 =>
      (mulM z19 (.int 69621)).bind fun z20 =>
      (modM z20 (.int 999983)).bind fun z21 =>
      .ok z21
  | _, _ => .stuck

noncomputable def sh__law_row : Nat → List U → M U
  | kk + 1, [v_letter, v_many, v_shown, v_cell] =>
    (addM v_many v_shown).bind fun z2 =>
    (range1M z2).bind fun it1 =>
    (forN (fun (v_saying_3, v_shown_4, v_many_5, v_cell_6) x7 =>
        (
          (
            (gtM v_shown_4 (.int 0)).bind fun b8 =>
            if b8 then
              (
                (eqM v_many_5 (.int 0)).bind fun b9 =>
                if b9 then
                  .ok true
                else
                  (modM v_cell_6 (.int 3)).bind fun z10 =>
                  (eqM z10 (.int 1)).bind fun b11 =>
                  .ok b11
              ).bind fun b12 =>
              .ok b12
            else
              .ok false
          ).bind fun b13 =>
          if b13 then
            (subM v_shown_4 (.int 1)).bind fun z14 =>
            .ok (.tup [.str "shown", v_saying_3], z14, v_many_5)
          else
            (subM v_many_5 (.int 1)).bind fun z15 =>
            .ok (.tup [.str "not", v_saying_3], v_shown_4, z15)
        ).bind fun (v_saying_16, v_shown_17, v_many_18) =>
        (fdivM v_cell_6 (.int 3)).bind fun z19 =>
        (mulM (.int 7) x7).bind fun z20 =>
        (addM z19 z20).bind fun z21 =>
        .ok (v_saying_16, v_shown_17, v_many_18, z21)
      ) it1 (.tup [.str "letter", v_letter], v_shown, v_many, v_cell)).bind fun (v_saying_22, v_shown_23, v_many_24, v_cell_25) =>
    .ok v_saying_22
  | _, _ => .stuck

noncomputable def sh__law_unlike : Nat → List U → M (List U)
  | kk + 1, [v_some] =>
    (sortedM v_some).bind fun z1 =>
    (iterL (.lst z1)).bind fun it2 =>
    (forN (fun v_told_here_3 x4 =>
        (
          (
            (eqM (.lst v_told_here_3) (.lst [])).bind fun b5 =>
            if b5 then
              .ok true
            else
              (negM (.int 1)).bind fun z6 =>
              (ixM (.lst v_told_here_3) z6).bind fun z7 =>
              ((nB eqM) z7 x4).bind fun b8 =>
              .ok b8
          ).bind fun b9 =>
          if b9 then
            (appM v_told_here_3 x4).bind fun l10 =>
            .ok l10
          else
            .ok v_told_here_3
        ).bind fun v_told_here_11 =>
        .ok v_told_here_11
      ) it2 []).bind fun v_told_here_12 =>
    .ok v_told_here_12
  | _, _ => .stuck

noncomputable def sh__law_claim : Nat → List U → M U
  | kk + 1, [v_left, v_right] =>
    (sh__law_unlike kk [v_left]).bind fun z1 =>
    (sh__law_unlike kk [v_right]).bind fun z2 =>
    .ok (.tup [.lst z1, .lst z2])
  | _, _ => .stuck

noncomputable def sh__law_parts : Nat → List U → M (List U)
  | kk + 1, [v_saying] =>
    (endM (.int 1)).bind fun z1 =>
    (slM v_saying z1 none).bind fun z2 =>
    (iterT z2).bind fun it3 =>
    (forN (fun v_found_4 x5 =>
        (
          (isiM x5 "tuple").bind fun z6 =>
          (boolM z6).bind fun b7 =>
          if b7 then
            (sh__law_parts kk [x5]).bind fun z8 =>
            (extM v_found_4 (.lst z8)).bind fun l9 =>
            .ok l9
          else
            .ok v_found_4
        ).bind fun v_found_10 =>
        .ok v_found_10
      ) it3 [v_saying]).bind fun v_found_11 =>
    .ok v_found_11
  | _, _ => .stuck

noncomputable def sh__law_claim_parts : Nat → List U → M (List U)
  | kk + 1, [v_claim_here] =>
    (ixM v_claim_here (.int 0)).bind fun z1 =>
    (ixM v_claim_here (.int 1)).bind fun z2 =>
    (addM z1 z2).bind fun z3 =>
    (iterL z3).bind fun it4 =>
    (forN (fun v_found_5 x6 =>
        (sh__law_parts kk [x6]).bind fun z7 =>
        (extM v_found_5 (.lst z7)).bind fun l8 =>
        .ok l8
      ) it4 []).bind fun v_found_9 =>
    (sh__law_unlike kk [.lst v_found_9]).bind fun z10 =>
    .ok z10
  | _, _ => .stuck

noncomputable def sh__law_due : Nat → List U → M U
  | kk + 1, [v_claim_here] =>
    (sh__law_claim_parts kk [v_claim_here]).bind fun z1 =>
    (
      (lenM (.lst z1)).bind fun z2 =>
      (gtM z2 (.int 40)).bind fun b3 =>
      if b3 then
        .ok true
      else
        (iterL (.lst z1)).bind fun it4 =>
        (compF (fun x5 =>
            (ixM x5 (.int 0)).bind fun z7 =>
            (eqM z7 (.str "shown")).bind fun b8 =>
            .ok b8
          ) (fun x5 =>
            .ok x5
          ) it4).bind fun zs6 =>
        (lenM (.lst zs6)).bind fun z9 =>
        (gtM z9 (.int 6)).bind fun b10 =>
        .ok b10
    ).bind fun b11 =>
    if b11 then
      .ok (.str "many")
    else
      .ok (.str "told")
  | _, _ => .stuck

noncomputable def sh_inner_of : Nat → List U → M (List U)
  | kk + 1, [v_saying] =>
    (
      (ixM v_saying (.int 0)).bind fun z1 =>
      (eqM z1 (.str "no")).bind fun b2 =>
      if b2 then
        .ok true
      else
        (ixM v_saying (.int 0)).bind fun z3 =>
        (eqM z3 (.str "letter")).bind fun b4 =>
        .ok b4
    ).bind fun b5 =>
    if b5 then
      .ok []
    else
      (endM (.int 1)).bind fun z6 =>
      (slM v_saying z6 none).bind fun z7 =>
      (listM z7).bind fun z8 =>
      .ok z8
  | _, _ => .stuck

noncomputable def sh_gather : Nat → List U → M (U × List U)
  | kk + 1, [v_saying, .lst v_found] =>
    (appM v_found v_saying).bind fun l1 =>
    (sh_inner_of kk [v_saying]).bind fun z2 =>
    (iterL (.lst z2)).bind fun it3 =>
    (forN (fun v_found_4 x5 =>
        (sh_gather kk [x5, .lst v_found_4]).calm.bind fun (z6, l7) =>
        .ok l7
      ) it3 l1).bind fun v_found_8 =>
    .ok (.non, v_found_8)
  | _, _ => .stuck

noncomputable def sh_each_once : Nat → List U → M (List U)
  | kk + 1, [v_some] =>
    (sortedM v_some).bind fun z1 =>
    (iterL (.lst z1)).bind fun it2 =>
    (forN (fun v_told_3 x4 =>
        (
          (
            (lenM (.lst v_told_3)).bind fun z5 =>
            (eqM z5 (.int 0)).bind fun b6 =>
            if b6 then
              .ok true
            else
              (negM (.int 1)).bind fun z7 =>
              (ixM (.lst v_told_3) z7).bind fun z8 =>
              ((nB eqM) z8 x4).bind fun b9 =>
              .ok b9
          ).bind fun b10 =>
          if b10 then
            (appM v_told_3 x4).bind fun l11 =>
            .ok l11
          else
            .ok v_told_3
        ).bind fun v_told_12 =>
        .ok v_told_12
      ) it2 []).bind fun v_told_13 =>
    .ok v_told_13
  | _, _ => .stuck

noncomputable def sh_parts_of : Nat → List U → M (List U)
  | kk + 1, [v_saying] =>
    (sh_gather kk [v_saying, .lst []]).calm.bind fun (z1, l2) =>
    (sh_each_once kk [.lst l2]).bind fun z3 =>
    .ok z3
  | _, _ => .stuck

noncomputable def sh_unlike : Nat → List U → M (List U)
  | kk + 1, [v_sayings] =>
    (sh_each_once kk [v_sayings]).bind fun z1 =>
    .ok z1
  | _, _ => .stuck

noncomputable def sh_claim_parts : Nat → List U → M (List U)
  | kk + 1, [v_claim] =>
    (ixM v_claim (.int 0)).bind fun z1 =>
    (ixM v_claim (.int 1)).bind fun z2 =>
    (addM z1 z2).bind fun z3 =>
    (iterL z3).bind fun it4 =>
    (forN (fun v_found_5 x6 =>
        (sh_parts_of kk [x6]).bind fun z7 =>
        (extM v_found_5 (.lst z7)).bind fun l8 =>
        .ok l8
      ) it4 []).bind fun v_found_9 =>
    (sh_unlike kk [.lst v_found_9]).bind fun z10 =>
    .ok z10
  | _, _ => .stuck

noncomputable def sh_shown_parts : Nat → List U → M (List U)
  | kk + 1, [v_saying] =>
    (sh_parts_of kk [v_saying]).bind fun z1 =>
    (iterL (.lst z1)).bind fun it2 =>
    (compF (fun x3 =>
        (ixM x3 (.int 0)).bind fun z5 =>
        (eqM z5 (.str "shown")).bind fun b6 =>
        .ok b6
      ) (fun x3 =>
        .ok x3
      ) it2).bind fun zs4 =>
    .ok zs4
  | _, _ => .stuck

noncomputable def sh_claim_shown : Nat → List U → M (List U)
  | kk + 1, [v_claim] =>
    (ixM v_claim (.int 0)).bind fun z1 =>
    (ixM v_claim (.int 1)).bind fun z2 =>
    (addM z1 z2).bind fun z3 =>
    (iterL z3).bind fun it4 =>
    (forN (fun v_found_5 x6 =>
        (sh_shown_parts kk [x6]).bind fun z7 =>
        (extM v_found_5 (.lst z7)).bind fun l8 =>
        .ok l8
      ) it4 []).bind fun v_found_9 =>
    (sh_unlike kk [.lst v_found_9]).bind fun z10 =>
    .ok z10
  | _, _ => .stuck

noncomputable def sh_Search_told : Nat → List U → List U → Dc → M (U × List U × Dc)
  | kk + 1, [v_claim, v_rule, v_saying, v_uses], v_S, v_M =>
    (ixM v_claim (.int 0)).bind fun z1 =>
    (listM z1).bind fun z2 =>
    (ixM v_claim (.int 1)).bind fun z3 =>
    (listM z3).bind fun z4 =>
    (appM v_S (.tup [.lst z2, .lst z4, v_rule, v_saying, v_uses])).bind fun l5 =>
    (lenM (.lst l5)).bind fun z6 =>
    (subM z6 (.int 1)).bind fun z7 =>
    .ok (.tup [z7, .non], l5, v_M)
  | _, _, _, _ => .stuck

noncomputable def sh_claim_of : Nat → List U → M U
  | kk + 1, [v_left, v_right] =>
    (sh_unlike kk [v_left]).bind fun z1 =>
    (sh_unlike kk [v_right]).bind fun z2 =>
    .ok (.tup [.lst z1, .lst z2])
  | _, _ => .stuck

noncomputable def sh_from_left : Nat → List U → M (List U)
  | kk + 1, [v_left, v_right, v_saying] =>
    (ixM v_saying (.int 0)).bind fun z1 =>
    (eqM z1 (.str "not")).bind fun b2 =>
    if b2 then
      (ixM v_saying (.int 1)).bind fun z3 =>
      (addM v_right (.lst [z3])).bind fun z4 =>
      (sh_claim_of kk [v_left, z4]).bind fun z5 =>
      .ok [z5]
    else
      (ixM v_saying (.int 0)).bind fun z6 =>
      (eqM z6 (.str "and")).bind fun b7 =>
      if b7 then
        (ixM v_saying (.int 1)).bind fun z8 =>
        (ixM v_saying (.int 2)).bind fun z9 =>
        (addM v_left (.lst [z8, z9])).bind fun z10 =>
        (sh_claim_of kk [z10, v_right]).bind fun z11 =>
        .ok [z11]
      else
        (ixM v_saying (.int 0)).bind fun z12 =>
        (eqM z12 (.str "or")).bind fun b13 =>
        if b13 then
          (ixM v_saying (.int 1)).bind fun z14 =>
          (addM v_left (.lst [z14])).bind fun z15 =>
          (sh_claim_of kk [z15, v_right]).bind fun z16 =>
          (ixM v_saying (.int 2)).bind fun z17 =>
          (addM v_left (.lst [z17])).bind fun z18 =>
          (sh_claim_of kk [z18, v_right]).bind fun z19 =>
          .ok [z16, z19]
        else
          (ixM v_saying (.int 0)).bind fun z20 =>
          (eqM z20 (.str "if")).bind fun b21 =>
          if b21 then
            (ixM v_saying (.int 1)).bind fun z22 =>
            (addM v_right (.lst [z22])).bind fun z23 =>
            (sh_claim_of kk [v_left, z23]).bind fun z24 =>
            (ixM v_saying (.int 2)).bind fun z25 =>
            (addM v_left (.lst [z25])).bind fun z26 =>
            (sh_claim_of kk [z26, v_right]).bind fun z27 =>
            .ok [z24, z27]
          else
            .err "NoRule" []
  | _, _ => .stuck

noncomputable def sh_without : Nat → List U → M (List U)
  | kk + 1, [v_sayings, v_saying] =>
    (iterL v_sayings).bind fun it1 =>
    (compF (fun x2 =>
        ((nB eqM) x2 v_saying).bind fun b4 =>
        .ok b4
      ) (fun x2 =>
        .ok x2
      ) it1).bind fun zs3 =>
    .ok zs3
  | _, _ => .stuck

noncomputable def sh_from_right : Nat → List U → M (List U)
  | kk + 1, [v_left, v_right, v_saying] =>
    (ixM v_saying (.int 0)).bind fun z1 =>
    (eqM z1 (.str "not")).bind fun b2 =>
    if b2 then
      (ixM v_saying (.int 1)).bind fun z3 =>
      (addM v_left (.lst [z3])).bind fun z4 =>
      (sh_claim_of kk [z4, v_right]).bind fun z5 =>
      .ok [z5]
    else
      (ixM v_saying (.int 0)).bind fun z6 =>
      (eqM z6 (.str "and")).bind fun b7 =>
      if b7 then
        (ixM v_saying (.int 1)).bind fun z8 =>
        (addM v_right (.lst [z8])).bind fun z9 =>
        (sh_claim_of kk [v_left, z9]).bind fun z10 =>
        (ixM v_saying (.int 2)).bind fun z11 =>
        (addM v_right (.lst [z11])).bind fun z12 =>
        (sh_claim_of kk [v_left, z12]).bind fun z13 =>
        .ok [z10, z13]
      else
        (ixM v_saying (.int 0)).bind fun z14 =>
        (eqM z14 (.str "or")).bind fun b15 =>
        if b15 then
          (ixM v_saying (.int 1)).bind fun z16 =>
          (ixM v_saying (.int 2)).bind fun z17 =>
          (addM v_right (.lst [z16, z17])).bind fun z18 =>
          (sh_claim_of kk [v_left, z18]).bind fun z19 =>
          .ok [z19]
        else
          (ixM v_saying (.int 0)).bind fun z20 =>
          (eqM z20 (.str "if")).bind fun b21 =>
          if b21 then
            (ixM v_saying (.int 1)).bind fun z22 =>
            (addM v_left (.lst [z22])).bind fun z23 =>
            (ixM v_saying (.int 2)).bind fun z24 =>
            (addM v_right (.lst [z24])).bind fun z25 =>
            (sh_claim_of kk [z23, z25]).bind fun z26 =>
            .ok [z26]
          else
            .err "NoRule" []
  | _, _ => .stuck

noncomputable def sh_further_up : Nat → List U → M (List U)
  | kk + 1, [v_left, v_saying] =>
    (iterL v_left).bind fun it1 =>
    (forN (fun v_known_2 x3 =>
        (
          (ixM x3 (.int 0)).bind fun z4 =>
          (eqM z4 (.str "shown")).bind fun b5 =>
          if b5 then
            (ixM x3 (.int 1)).bind fun z6 =>
            (extM v_known_2 (.lst [x3, z6])).bind fun l7 =>
            .ok l7
          else
            .ok v_known_2
        ).bind fun v_known_8 =>
        .ok v_known_8
      ) it1 [v_saying]).bind fun v_known_9 =>
    (ixM v_saying (.int 1)).bind fun z10 =>
    (sh_claim_of kk [.lst v_known_9, .lst [z10]]).bind fun z11 =>
    .ok [z11]
  | _, _ => .stuck

noncomputable def sh_needed : Nat → List U → M (List U)
  | kk + 1, [v_claim, v_rule, v_saying] =>
    (un2 v_claim).bind fun (v_left_1, v_right_2) =>
    (
      (eqM v_rule (.str "same")).bind fun b3 =>
      if b3 then
        (inM v_saying v_left_1).bind fun b4 =>
        if b4 then
          (inM v_saying v_right_2).bind fun b5 =>
          .ok b5
        else
          .ok false
      else
        .ok false
    ).bind fun b6 =>
    if b6 then
      .ok []
    else
      (
        (eqM v_rule (.str "never")).bind fun b7 =>
        if b7 then
          (eqM v_saying (.tup [.str "no"])).bind fun b8 =>
          if b8 then
            (inM v_saying v_left_1).bind fun b9 =>
            .ok b9
          else
            .ok false
        else
          .ok false
      ).bind fun b10 =>
      if b10 then
        .ok []
      else
        (
          (eqM v_rule (.str "left")).bind fun b11 =>
          if b11 then
            (inM v_saying v_left_1).bind fun b12 =>
            .ok b12
          else
            .ok false
        ).bind fun b13 =>
        if b13 then
          (sh_without kk [v_left_1, v_saying]).bind fun z14 =>
          (sh_from_left kk [.lst z14, v_right_2, v_saying]).bind fun z15 =>
          .ok z15
        else
          (
            (eqM v_rule (.str "right")).bind fun b16 =>
            if b16 then
              (inM v_saying v_right_2).bind fun b17 =>
              .ok b17
            else
              .ok false
          ).bind fun b18 =>
          if b18 then
            (sh_without kk [v_right_2, v_saying]).bind fun z19 =>
            (sh_from_right kk [v_left_1, .lst z19, v_saying]).bind fun z20 =>
            .ok z20
          else
            (
              (eqM v_rule (.str "up")).bind fun b21 =>
              if b21 then
                (ixM v_saying (.int 0)).bind fun z22 =>
                (eqM z22 (.str "shown")).bind fun b23 =>
                if b23 then
                  (inM v_saying v_right_2).bind fun b24 =>
                  .ok b24
                else
                  .ok false
              else
                .ok false
            ).bind fun b25 =>
            if b25 then
              (sh_further_up kk [v_left_1, v_saying]).bind fun z26 =>
              .ok z26
            else
              .err "NoRule" []
  | _, _ => .stuck

mutual
noncomputable def sh_Search_found_for : Nat → List U → List U → Dc → M (U × List U × Dc)
  | kk + 1, [v_claim], v_S, v_M =>
    (reprM v_claim).bind fun z1 =>
    (
      ((nB inM) z1 (.dic v_M.1 v_M.2)).bind fun b2 =>
      if b2 then
        (sh_Search_looked kk [v_claim] v_S v_M).calm.bind fun (z3, l4, m5) =>
        (putM m5 z1 z3).bind fun l6 =>
        .ok (l4, l6)
      else
        .ok (v_S, v_M)
    ).bind fun (v_atS_7, v_atM_8) =>
    (ixdM (.dic v_atM_8.1 v_atM_8.2) z1).bind fun z9 =>
    .ok (z9, v_atS_7, v_atM_8)
  | _, _, _, _ => .stuck
noncomputable def sh_Search_looked : Nat → List U → List U → Dc → M (U × List U × Dc)
  | kk + 1, [v_claim], v_S, v_M =>
    (un2 v_claim).bind fun (v_left_1, v_right_2) =>
    (iterL v_left_1).bind fun it3 =>
    (forC (ρ := U × List U × Dc) (fun (v_atS_4, v_atM_5) x6 =>
        (inM x6 v_right_2).bind fun b7 =>
        if b7 then
          (sh_Search_told kk [v_claim, .str "same", x6, .lst []] v_atS_4 v_atM_5).calm.bind fun (z8, l9, m10) =>
          .ok (.rt (z8, l9, m10))
        else
          .ok (.nx (v_atS_4, v_atM_5))
      ) it3 (v_S, v_M)).bind fun r => match r with
    | .bk _ => .stuck
    | .rt c => .ok c
    | .nx (v_atS_11, v_atM_12) =>
      (inM (.tup [.str "no"]) v_left_1).bind fun b13 =>
      if b13 then
        (sh_Search_told kk [v_claim, .str "never", .tup [.str "no"], .lst []] v_atS_11 v_atM_12).calm.bind fun (z14, l15, m16) =>
        .ok (z14, l15, m16)
      else
        (iterL (.lst [.tup [.str "left", v_left_1], .tup [.str "right", v_right_2]])).bind fun it17 =>
        (forC (ρ := U × List U × Dc) (fun (v_atS_18, v_atM_19) x20 =>
            (un2 x20).bind fun (v_rule_21, v_side_22) =>
            (iterL v_side_22).bind fun it23 =>
            (forC (ρ := U × List U × Dc) (fun (v_atS_24, v_atM_25) x26 =>
                (ixM x26 (.int 0)).bind fun z27 =>
                (inM z27 (.tup [.str "not", .str "and", .str "or", .str "if"])).bind fun b28 =>
                if b28 then
                  (sh_Search_broken kk [v_claim, v_rule_21, x26] v_atS_24 v_atM_25).calm.bind fun (z29, l30, m31) =>
                  .ok (.rt (z29, l30, m31))
                else
                  .ok (.nx (v_atS_24, v_atM_25))
              ) it23 (v_atS_18, v_atM_19)).bind fun r => match r with
            | .bk _ => .stuck
            | .rt c => .ok (.rt c)
            | .nx (v_atS_32, v_atM_33) =>
              .ok (.nx (v_atS_32, v_atM_33))
          ) it17 (v_atS_11, v_atM_12)).bind fun r => match r with
        | .bk _ => .stuck
        | .rt c => .ok c
        | .nx (v_atS_34, v_atM_35) =>
          (sh_Search_gone_up kk [v_claim] v_atS_34 v_atM_35).calm.bind fun (z36, l37, m38) =>
          .ok (z36, l37, m38)
  | _, _, _, _ => .stuck
noncomputable def sh_Search_broken : Nat → List U → List U → Dc → M (U × List U × Dc)
  | kk + 1, [v_claim, v_rule, v_saying], v_S, v_M =>
    (sh_needed kk [v_claim, v_rule, v_saying]).bind fun z1 =>
    (iterL (.lst z1)).bind fun it2 =>
    (forC (ρ := U × List U × Dc) (fun (v_uses_3, v_atS_4, v_atM_5) x6 =>
        (sh_Search_found_for kk [x6] v_atS_4 v_atM_5).calm.bind fun (z7, l8, m9) =>
        (un2 z7).bind fun (v_number_10, v_tree_11) =>
        (isM v_number_10 .non).bind fun b12 =>
        if b12 then
          .ok (.rt (.tup [.non, v_tree_11], l8, m9))
        else
          (appM v_uses_3 v_number_10).bind fun l13 =>
          .ok (.nx (l13, l8, m9))
      ) it2 ([], v_S, v_M)).bind fun r => match r with
    | .bk _ => .stuck
    | .rt c => .ok c
    | .nx (v_uses_14, v_atS_15, v_atM_16) =>
      (sh_Search_told kk [v_claim, v_rule, v_saying, .lst v_uses_14] v_atS_15 v_atM_16).calm.bind fun (z17, l18, m19) =>
      .ok (z17, l18, m19)
  | _, _, _, _ => .stuck
noncomputable def sh_Search_gone_up : Nat → List U → List U → Dc → M (U × List U × Dc)
  | kk + 1, [v_claim], v_S, v_M =>
    (ixM v_claim (.int 1)).bind fun z1 =>
    (iterL z1).bind fun it2 =>
    (forC (ρ := U × List U × Dc) (fun (v_trees_3, v_atS_4, v_atM_5) x6 =>
        ((
          (ixM x6 (.int 0)).bind fun z7 =>
          (eqM z7 (.str "shown")).bind fun b8 =>
          if b8 then
            (sh_needed kk [v_claim, .str "up", x6]).bind fun z9 =>
            (ixM (.lst z9) (.int 0)).bind fun z10 =>
            (sh_Search_found_for kk [z10] v_atS_4 v_atM_5).calm.bind fun (z11, l12, m13) =>
            (un2 z11).bind fun (v_number_14, v_tree_15) =>
            (isntM v_number_14 .non).bind fun b16 =>
            if b16 then
              (sh_Search_told kk [v_claim, .str "up", x6, .lst [v_number_14]] l12 m13).calm.bind fun (z17, l18, m19) =>
              .ok (.rt (z17, l18, m19))
            else
              (appM v_trees_3 v_tree_15).bind fun l20 =>
              .ok (.nx (l20, l12, m13))
          else
            .ok (.nx (v_trees_3, v_atS_4, v_atM_5))
         : M (Ct (List U × List U × Dc) (U × List U × Dc)))).bind fun r => match r with
        | .bk _ => .stuck
        | .rt c => .ok (.rt c)
        | .nx (v_trees_21, v_atS_22, v_atM_23) =>
          .ok (.nx (v_trees_21, v_atS_22, v_atM_23))
      ) it2 ([], v_S, v_M)).bind fun r => match r with
    | .bk _ => .stuck
    | .rt c => .ok c
    | .nx (v_trees_24, v_atS_25, v_atM_26) =>
      (ixM v_claim (.int 0)).bind fun z27 =>
      (iterL z27).bind fun it28 =>
      (compF (fun x29 =>
          (ixM x29 (.int 0)).bind fun z31 =>
          (eqM z31 (.str "letter")).bind fun b32 =>
          .ok b32
        ) (fun x29 =>
          (ixM x29 (.int 1)).bind fun z33 =>
          .ok z33
        ) it28).bind fun zs30 =>
      (joinM (.str "") (.lst zs30)).bind fun z34 =>
      .ok (.tup [.non, .tup [z34, .lst v_trees_24]], v_atS_25, v_atM_26)
  | _, _, _, _ => .stuck
end

noncomputable def sh_rooms_of : Nat → List U → M (List U)
  | kk + 1, [v_tree] =>
    (negM (.int 1)).bind fun z1 =>
    (whN (fun (v_waiting_2, v_rooms_3) =>
        (lenM (.lst v_rooms_3)).bind fun z4 =>
        (lenM (.lst v_waiting_2)).bind fun z5 =>
        (ltM z4 z5).bind fun b6 =>
        .ok b6
      ) (fun (v_waiting_7, v_rooms_8) =>
        (lenM (.lst v_rooms_8)).bind fun z9 =>
        (ixM (.lst v_waiting_7) z9).bind fun z10 =>
        (un2 z10).bind fun (v_below_11, y12) =>
        (un2 y12).bind fun (v_marks_13, v_trees_14) =>
        (iterL v_trees_14).bind fun it15 =>
        (compM (fun x16 =>
            (lenM (.lst v_rooms_8)).bind fun z18 =>
            .ok (.tup [z18, x16])
          ) it15).bind fun zs17 =>
        (extM v_waiting_7 (.lst zs17)).bind fun l19 =>
        (appM v_rooms_8 (.tup [v_below_11, v_marks_13])).bind fun l20 =>
        .ok (l19, l20)
      ) 1000000 ([.tup [z1, v_tree]], [])).bind fun (v_waiting_21, v_rooms_22) =>
    .ok v_rooms_22
  | _, _ => .stuck

noncomputable def sh_searched : Nat → List U → M U
  | kk + 3, [v_claim] =>
    (
      (sh_claim_parts (kk + 2) [v_claim]).bind fun z1 =>
      (lenM (.lst z1)).bind fun z2 =>
      (gtM z2 (.int 40)).bind fun b3 =>
      if b3 then
        .ok true
      else
        (sh_claim_shown (kk + 2) [v_claim]).bind fun z4 =>
        (lenM (.lst z4)).bind fun z5 =>
        (gtM z5 (.int 6)).bind fun b6 =>
        .ok b6
    ).bind fun b7 =>
    if b7 then
      .err "TooMany" []
    else
      (sh_Search_found_for (kk + 2) [v_claim] [] (([], []) : Dc)).calm.bind fun (z8, l9, m10) =>
      (un2 z8).bind fun (v_number_11, v_tree_12) =>
      (isM v_number_11 .non).bind fun b13 =>
      if b13 then
        (sh_rooms_of (kk + 2) [v_tree_12]).bind fun z14 =>
        .ok (.tup [.str "tree", .lst z14])
      else
        .ok (.tup [.str "showing", .lst l9])
  | _, _ => .stuck

noncomputable def sh_judged : Nat → List U → M U
  | kk + 1, [v_saying] =>
    (sh_claim_of kk [.lst [], .lst [v_saying]]).bind fun z1 =>
    (sh_searched kk [z1]).bind fun z2 =>
    .ok z2
  | _, _ => .stuck

noncomputable def sh_follows : Nat → List U → M U
  | kk + 1, [v_givens, v_saying] =>
    (sh_claim_of kk [v_givens, .lst [v_saying]]).bind fun z1 =>
    (sh_searched kk [z1]).bind fun z2 =>
    .ok z2
  | _, _ => .stuck

noncomputable def sh_alike : Nat → List U → M U
  | kk + 1, [v_one, v_other] =>
    (sh_claim_of kk [.lst [v_one], .lst [v_other]]).bind fun z1 =>
    (sh_searched kk [z1]).bind fun z2 =>
    (ixM z2 (.int 0)).bind fun z3 =>
    (eqM z3 (.str "tree")).bind fun b4 =>
    if b4 then
      (ixM z2 (.int 1)).bind fun z5 =>
      .ok (.tup [.str "unlike", z5])
    else
      (sh_claim_of kk [.lst [v_other], .lst [v_one]]).bind fun z6 =>
      (sh_searched kk [z6]).bind fun z7 =>
      (ixM z7 (.int 0)).bind fun z8 =>
      (eqM z8 (.str "tree")).bind fun b9 =>
      if b9 then
        (ixM z7 (.int 1)).bind fun z10 =>
        .ok (.tup [.str "unlike", z10])
      else
        (ixM z2 (.int 1)).bind fun z11 =>
        (ixM z7 (.int 1)).bind fun z12 =>
        .ok (.tup [.str "alike", z11, z12])
  | _, _ => .stuck

noncomputable def sh__law_asked : Nat → List U → M U
  | kk + 1, [v_which, v_claim_here] =>
    (eqM v_which (.int 0)).bind fun b1 =>
    if b1 then
      (sh_searched kk [v_claim_here]).bind fun z2 =>
      .ok z2
    else
      (eqM v_which (.int 1)).bind fun b3 =>
      if b3 then
        (ixM v_claim_here (.int 1)).bind fun z4 =>
        (negM (.int 1)).bind fun z5 =>
        (ixM z4 z5).bind fun z6 =>
        (sh_judged kk [z6]).bind fun z7 =>
        .ok z7
      else
        (eqM v_which (.int 2)).bind fun b8 =>
        if b8 then
          (ixM v_claim_here (.int 0)).bind fun z9 =>
          (ixM v_claim_here (.int 1)).bind fun z10 =>
          (negM (.int 1)).bind fun z11 =>
          (ixM z10 z11).bind fun z12 =>
          (sh_follows kk [z9, z12]).bind fun z13 =>
          .ok z13
        else
          (ixM v_claim_here (.int 0)).bind fun z14 =>
          (negM (.int 1)).bind fun z15 =>
          (ixM z14 z15).bind fun z16 =>
          (ixM v_claim_here (.int 1)).bind fun z17 =>
          (negM (.int 1)).bind fun z18 =>
          (ixM z17 z18).bind fun z19 =>
          (sh_alike kk [z16, z19]).bind fun z20 =>
          .ok z20
  | _, _ => .stuck

noncomputable def sh__law_alone : Nat → List U → M U
  | kk + 1, [v_e] =>
    (isEM [("NoRule", true), ("TooMany", false)] v_e).bind fun z1 =>
    (intM z1).bind fun z2 =>
    (isEM [("NoRule", false), ("TooMany", false)] v_e).bind fun z3 =>
    (intM z3).bind fun z4 =>
    (addM z2 z4).bind fun z5 =>
    (isEM [("NoRule", false), ("TooMany", false)] v_e).bind fun z6 =>
    (intM z6).bind fun z7 =>
    (addM z5 z7).bind fun z8 =>
    (isEM [("NoRule", false), ("TooMany", false)] v_e).bind fun z9 =>
    (intM z9).bind fun z10 =>
    (addM z8 z10).bind fun z11 =>
    (isEM [("NoRule", false), ("TooMany", true)] v_e).bind fun z12 =>
    (intM z12).bind fun z13 =>
    (addM z11 z13).bind fun z14 =>
    (isEM [("NoRule", false), ("TooMany", false)] v_e).bind fun z15 =>
    (intM z15).bind fun z16 =>
    (addM z14 z16).bind fun z17 =>
    (isEM [("NoRule", false), ("TooMany", false)] v_e).bind fun z18 =>
    (intM z18).bind fun z19 =>
    (addM z17 z19).bind fun z20 =>
    (isEM [("NoRule", false), ("TooMany", false)] v_e).bind fun z21 =>
    (intM z21).bind fun z22 =>
    (addM z20 z22).bind fun z23 =>
    (
      ((vB eqM) z23 (.int 1)).bind fun z24 =>
      (boolM z24).bind fun b25 =>
      if b25 then
        (isEM [("NoRule", false), ("TooMany", true)] v_e).bind fun z26 =>
        (boolM z26).bind fun b27 =>
        if b27 then
          (isEM [("NoRule", true), ("TooMany", true)] v_e).bind fun z28 =>
          .ok z28
        else
          .ok (.bl false)
      else
        .ok (.bl false)
    ).bind fun z29 =>
    .ok z29
  | _, _ => .stuck

noncomputable def sh__law_told : Nat → List U → M U
  | kk + 1, [v_which, v_claim_here] =>
    tryK (σ := U) [("NoRule", 0), ("TooMany", 0)] (
      (sh__law_asked kk [v_which, v_claim_here]).bind fun z1 =>
      .ok z1
      ) (fun v_found_2 =>
        (
          (
            (isiM v_found_2 "tuple").bind fun z3 =>
            (boolM z3).bind fun b4 =>
            if b4 then
              (lenM v_found_2).bind fun z5 =>
              (gtM z5 (.int 1)).bind fun b6 =>
              if b6 then
                (ixM v_found_2 (.int 0)).bind fun z7 =>
                (inM z7 (.lst [.str "showing", .str "tree", .str "alike", .str "unlike"])).bind fun b8 =>
                .ok b8
              else
                .ok false
            else
              .ok false
          ).bind fun b9 =>
          if b9 then
            .ok (.str "told")
          else
            .ok (.str "otherwise")
        ).bind fun v_word_10 =>
        .ok v_word_10
      ) (fun ec11 eu12 =>
        (sh__law_alone kk [.exc ec11 eu12]).calm.bind fun z13 =>
        (intM z13).bind fun z14 =>
        (ixM (.lst [.str "otherwise", .str "many"]) z14).bind fun z15 =>
        (
          (
            (isiM .non "tuple").bind fun z16 =>
            (boolM z16).bind fun b17 =>
            if b17 then
              (lenM .non).bind fun z18 =>
              (gtM z18 (.int 1)).bind fun b19 =>
              if b19 then
                (ixM .non (.int 0)).bind fun z20 =>
                (inM z20 (.lst [.str "showing", .str "tree", .str "alike", .str "unlike"])).bind fun b21 =>
                .ok b21
              else
                .ok false
            else
              .ok false
          ).bind fun b22 =>
          if b22 then
            .ok (.str "told")
          else
            .ok z15
        ).bind fun v_word_23 =>
        .ok v_word_23
      )
  | _, _ => .stuck

noncomputable def sh_law : Nat → List U → M U
  | kk + 1, [v_script] =>
    (sh__law_cell_at kk [v_script, .int 0]).bind fun z1 =>
    (sh__law_cell_at kk [v_script, .int 1]).bind fun z2 =>
    (modM z1 (.int 4)).bind fun z3 =>
    (fdivM z1 (.int 4)).bind fun z4 =>
    (modM z4 (.int 5)).bind fun z5 =>
    (fdivM z1 (.int 20)).bind fun z6 =>
    (modM z6 (.int 9)).bind fun z7 =>
    (addM (.int 34) z7).bind fun z8 =>
    (sumM (.lst [z3, z5])).bind fun z9 =>
    (subM z8 z9).bind fun z10 =>
    (subM z10 (.int 1)).bind fun z11 =>
    (modM z2 z11).bind fun z12 =>
    (addM (.int 1) z12).bind fun z13 =>
    (ixM (.lst [z3, z5]) (.int 0)).bind fun z14 =>
    (sh__law_cell_at kk [v_script, .int 2]).bind fun z15 =>
    (sh__law_row kk [.str "p", z13, z14, z15]).bind fun z16 =>
    (subM z10 z13).bind fun z17 =>
    (ixM (.lst [z3, z5]) (.int 1)).bind fun z18 =>
    (sh__law_cell_at kk [v_script, .int 3]).bind fun z19 =>
    (sh__law_row kk [.str "q", z17, z18, z19]).bind fun z20 =>
    (fdivM z2 (.int 40)).bind fun z21 =>
    (modM z21 (.int 2)).bind fun z22 =>
    (lmulM (.lst [.tup [.str "letter", .str "r"]]) z22).bind fun z23 =>
    (addM (.lst [z16]) z23).bind fun z24 =>
    (sh__law_claim kk [z24, .lst [z20, .tup [.str "letter", .str "r"]]]).bind fun z25 =>
    (ixM z25 (.int 0)).bind fun z26 =>
    (listM z26).bind fun z27 =>
    (ixM z25 (.int 1)).bind fun z28 =>
    (listM z28).bind fun z29 =>
    (sh__law_due kk [z25]).bind fun z30 =>
    (ixM z25 (.int 1)).bind fun z31 =>
    (negM (.int 1)).bind fun z32 =>
    (endM z32).bind fun z33 =>
    (slM z31 z33 none).bind fun z34 =>
    (sh__law_due kk [.tup [.lst [], z34]]).bind fun z35 =>
    (ixM z25 (.int 0)).bind fun z36 =>
    (ixM z25 (.int 1)).bind fun z37 =>
    (negM (.int 1)).bind fun z38 =>
    (endM z38).bind fun z39 =>
    (slM z37 z39 none).bind fun z40 =>
    (sh__law_due kk [.tup [z36, z40]]).bind fun z41 =>
    (ixM z25 (.int 0)).bind fun z42 =>
    (negM (.int 1)).bind fun z43 =>
    (endM z43).bind fun z44 =>
    (slM z42 z44 none).bind fun z45 =>
    (ixM z25 (.int 1)).bind fun z46 =>
    (negM (.int 1)).bind fun z47 =>
    (endM z47).bind fun z48 =>
    (slM z46 z48 none).bind fun z49 =>
    (sh__law_due kk [.tup [z45, z49]]).bind fun z50 =>
    (appM [z30, z35, z41] z50).bind fun l51 =>
    (range1M (.int 5)).bind fun it52 =>
    (forC (ρ := U) (fun _ x53 =>
        (fdivM z2 (.int 80)).bind fun z54 =>
        (addM z54 x53).bind fun z55 =>
        (modM z55 (.int 4)).bind fun z56 =>
        (
          (sh__law_told kk [z56, .tup [.lst z27, .lst z29]]).bind fun z57 =>
          (ixM (.lst l51) z56).bind fun z58 =>
          ((nB eqM) z57 z58).bind fun b59 =>
          if b59 then
            .ok true
          else
            ((nB eqM) (.tup [.lst z27, .lst z29]) z25).bind fun b60 =>
            .ok b60
        ).bind fun b61 =>
        if b61 then
          .ok (.rt (.bl false))
        else
          .ok (.nx ())
      ) it52 ()).bind fun r => match r with
    | .bk _ => .stuck
    | .rt c => .ok c
    | .nx _ =>
      .ok (.bl true)
  | _, _ => .stuck

/-- a stack of sayings, not empty, with at most n parts -/
def Stk (n : Nat) (l : List U) : Prop := ∃ sts : List Sy, l = sts.map su ∧ sts ≠ [] ∧ tot sts ≤ n
theorem Stk.mono {n m : Nat} {l : List U} (h : Stk n l) (i : n ≤ m) : Stk m l := by obtain ⟨s, h1, h2, h3⟩ := h; exact ⟨s, h1, h2, by omega⟩
/-- the top is told -/
theorem Stk.top {n : Nat} {l : List U} (h : Stk n l) : Ok (ixM (.lst l) (.int (-1))) fun u => ∃ s : Sy, u = su s ∧ s.size ≤ n := by
  obtain ⟨s, rfl, h2, h3⟩ := h
  obtain ⟨ys, y, rfl⟩ := snoc_of h2
  rw [List.map_append, List.map_cons, List.map_nil, ix_last]
  exact ⟨_, rfl, y, rfl, by rw [tot_snoc] at h3; omega⟩
theorem once_step {ts : List Sy} (h : ts.length < 10000000) (x : Sy) {b : M Bool} (hb : b = .ok (decide (¬ ts.getLast? = some x))) : ((b.bind fun b10 => if b10 = true then (appM (ts.map su) (su x)).bind fun l11 => M.ok l11 else M.ok (ts.map su)).bind fun v => M.ok v) = .ok ((if ts.getLast? = some x then ts else ts ++ [x]).map su) := by
  subst hb
  rw [M.bind_ok, appM_ok (by rw [List.length_map]; exact h)]
  by_cases e : ts.getLast? = some x
  · simp [e]
  · simp [e]
theorem last_ne {ts : List Sy} (hd : ∀ s ∈ ts, s.ht ≤ 180) (x : Sy) (hn : ts ≠ []) : ((negM (.int 1)).bind fun z7 => (ixM (.lst (ts.map su)) z7).bind fun z8 => (nB eqM z8 (su x)).bind fun b9 => M.ok b9) = .ok (decide (¬ ts.getLast? = some x)) := by
  obtain ⟨ys, y, rfl⟩ := snoc_of hn
  rw [List.map_append, List.map_cons, List.map_nil]
  simp only [negM_int, M.bind_ok, ix_last, nB_ok]
  have := hd y (by simp)
  rw [eqM_su (by omega)]
  simp [M.bind_ok]
theorem onceI {ts ss : List Sy} {n : Nat} {x : Sy} (hs : ∀ s ∈ ss, s.ht ≤ 180) (h : ts.length ≤ n ∧ ∀ s ∈ ts, s.ht ≤ 180) (hx : x ∈ sortS ss) : (if ts.getLast? = some x then ts else ts ++ [x]).length ≤ n + 1 ∧ ∀ s ∈ (if ts.getLast? = some x then ts else ts ++ [x]), s.ht ≤ 180 := by
  split
  · exact ⟨by omega, h.2⟩
  · refine ⟨by simp; omega, fun s hm => ?_⟩
    rcases List.mem_append.mp hm with z | z
    · exact h.2 s z
    · rw [List.mem_singleton] at z; subst z
      exact hs s ((sortS_perm ss).mem_iff.mp hx)
theorem sh_once {k : Nat} {ss : List Sy} {x : U} (hx : itemsL x = some (ss.map su)) (h : ∀ s ∈ ss, s.ht ≤ 180) (hl : ss.length ≤ 1000000) : sh_each_once (k + 1) [x] = .ok ((onceS (sortS ss)).map su) := by
  rw [sh_each_once, sortedM_su hx h, M.bind_ok, iterL_lst, M.bind_ok]
  refine (congrArg (fun m => M.bind m _) (forN_fold (fun ts : List Sy => ts.map su) su (fun told one => if told.getLast? = some one then told else told ++ [one]) (fun n ts => ts.length ≤ n ∧ ∀ s ∈ ts, s.ht ≤ 180) (sortS ss) [] ⟨Nat.le_refl _, by simp⟩ fun n ts x hn hI hm => ⟨once_step (by have := (sortS_perm ss).length_eq; omega) x ?_, onceI h hI hm⟩)).trans rfl
  cases ts with
  | nil => rfl
  | cons t ts =>
    rw [lenM_lst, M.bind_ok, eqM_int, M.bind_ok, if_neg (by simp; omega)]
    exact last_ne hI.2 x (by simp)

theorem sh_inner {k : Nat} {s : Sy} : sh_inner_of (k + 1) [su s] = .ok (s.kids.map su) := by
  rw [sh_inner_of]
  cases s with
  | bin o a b => cases o <;> simp [su, Bop.s, Sy.kids]
  | _ => simp [su, Sy.kids]
theorem sh_gath : ∀ (k : Nat) (s : Sy) (acc : List U), s.ht ≤ k → acc.length + s.size < 10000000 → sh_gather (k + 1) [su s, .lst acc] = .ok (.non, acc ++ (partsL s).map su)
  | 0, s, acc, h, _ => by have := Sy.ht_pos s; omega
  | k + 1, s, acc, h, hs => by
    have hp := size_pos s
    rw [sh_gather, appM_ok (by omega), M.bind_ok, sh_inner, M.bind_ok, iterL_lst, M.bind_ok]
    have key : ∀ (ks : List Sy) (acc : List U), (∀ x ∈ ks, x.ht ≤ k) → acc.length + (ks.map Sy.size).sum < 10000000 →
        forN (fun v_found_4 x5 => (sh_gather (k + 1) [x5, .lst v_found_4]).calm.bind fun x => match x with | (z6, l7) => M.ok l7) (ks.map su) acc = .ok (acc ++ (ks.flatMap partsL).map su) := by
      intro ks
      induction ks with
      | nil => intro acc _ _; simp [forN]
      | cons x ks ih =>
        intro acc h1 h2
        rw [List.map_cons, List.sum_cons] at h2
        rw [List.map_cons, forN, sh_gath k x acc (h1 x (by simp)) (by omega), M.calm_ok, M.bind_ok]
        dsimp only
        rw [M.bind_ok, ih _ (fun y hy => h1 y (by simp [hy])) (by rw [List.length_append, List.length_map, partsL_len]; omega)]
        simp
    rw [key s.kids _ (fun x hx => Sy.kid_ht (by omega) hx) (by
      have : (s.kids.map Sy.size).sum + 1 = s.size := by cases s <;> simp [Sy.kids, Sy.size] <;> omega
      rw [List.length_append]; simp only [List.length_cons, List.length_nil]; omega), M.bind_ok, partsL_kids s]
    simp
theorem sh_parts {k : Nat} {s : Sy} (h : s.ht ≤ k) (hs : s.size ≤ 1000000) (hh : s.ht ≤ 180) : sh_parts_of (k + 2) [su s] = .ok ((setS (partsL s)).map su) := by
  rw [sh_parts_of, show sh_gather (k + 1) [su s, .lst []] = .ok (.non, [] ++ (partsL s).map su) from sh_gath k s [] h (by simp; omega), M.calm_ok, M.bind_ok]
  dsimp only
  rw [List.nil_append, sh_once rfl (fun t ht => by have := parts_ht ht; omega) (by rw [partsL_len]; exact hs)]; rfl

theorem sh_shown {k : Nat} {s : Sy} (h : s.ht ≤ k) (hs : s.size ≤ 1000000) (hh : s.ht ≤ 180) : sh_shown_parts (k + 3) [su s] = .ok (((setS (partsL s)).filter isShown).map su) := by
  rw [sh_shown_parts, sh_parts h hs hh, M.bind_ok, iterL_lst, M.bind_ok, compF_ok su isShown su]
  · rfl
  · have := setS_len (partsL s); rw [partsL_len] at this; omega
  · intro x _
    rw [ix_su0, M.bind_ok, eqM_str, M.bind_ok]; simp
  · intro x _ _; rfl

theorem flat_len (g : Sy → List Sy) (n : Nat) : ∀ ss : List Sy, (∀ s ∈ ss, (g s).length ≤ n) → (ss.flatMap g).length ≤ ss.length * n
  | [], _ => by simp
  | s :: ss, h => by
    have := flat_len g n ss fun s hs => h s (by simp [hs])
    have := h s (by simp)
    rw [List.flatMap_cons, List.length_append, List.length_cons, Nat.add_mul]; omega

section
variable {k : Nat} {ls rs : List Sy}
theorem sh_cparts (h : ∀ s ∈ ls, s.size ≤ 90) (h2 : ∀ s ∈ rs, s.size ≤ 90) (hl : ls.length ≤ 20) (hl2 : rs.length ≤ 20) : sh_claim_parts (k + 104) [.tup [.lst (ls.map su), .lst (rs.map su)]] = .ok ((setS ((ls ++ rs).flatMap partsL)).map su) := by
  have hz : ∀ s ∈ ls ++ rs, s.size ≤ 90 := fun s hs => by rcases List.mem_append.mp hs with z | z; exact h s z; exact h2 s z
  have hl3 : ∀ s ∈ ls ++ rs, (setS (partsL s)).length ≤ 90 := fun s hs => by have := setS_len (partsL s); rw [partsL_len] at this; have := hz s hs; omega
  have hf := flat_len (fun s => setS (partsL s)) 90 (ls ++ rs) hl3
  rw [List.length_append] at hf
  rw [sh_claim_parts, ix_t0, M.bind_ok, ix_t1, M.bind_ok, addM_lst (by rw [List.length_map, List.length_map]; omega), M.bind_ok, iterL_lst, M.bind_ok, ← List.map_append, forN_ext (fun s => setS (partsL s)) (ls ++ rs) [], M.bind_ok]
  · rw [List.nil_append, sh_unlike, sh_once (k := k + 101) rfl (fun s hs => by
      obtain ⟨t, ht, hs⟩ := List.mem_flatMap.mp hs
      have := parts_ht (setS_iff.mp hs); have := pv_ht (hz t ht); omega) (by omega)]
    show M.ok ((setS _).map su) = _
    congr 2
    refine setS_ext fun s => ?_
    simp only [List.mem_flatMap]
    exact ⟨fun ⟨t, a, b⟩ => ⟨t, a, setS_iff.mp b⟩, fun ⟨t, a, b⟩ => ⟨t, a, setS_iff.mpr b⟩⟩
  · intro acc x hx ha
    have := hz x hx
    have := pv_ht this
    rw [sh_parts (k := k + 101) (by omega) (by omega) (by omega), M.bind_ok, extM_ok (by rw [List.length_map]; exact ha)]; rfl
  · simp only [List.length_nil]; omega
theorem sh_cshown (h : ∀ s ∈ ls, s.size ≤ 90) (h2 : ∀ s ∈ rs, s.size ≤ 90) (hl : ls.length ≤ 20) (hl2 : rs.length ≤ 20) : sh_claim_shown (k + 104) [.tup [.lst (ls.map su), .lst (rs.map su)]] = .ok (((setS ((ls ++ rs).flatMap partsL)).filter isShown).map su) := by
  have hz : ∀ s ∈ ls ++ rs, s.size ≤ 90 := fun s hs => by rcases List.mem_append.mp hs with z | z; exact h s z; exact h2 s z
  have hl3 : ∀ s ∈ ls ++ rs, ((setS (partsL s)).filter isShown).length ≤ 90 := fun s hs => by
    have := setS_len (partsL s); rw [partsL_len] at this; have := hz s hs; have := List.length_filter_le isShown (setS (partsL s)); omega
  have hf := flat_len (fun s => (setS (partsL s)).filter isShown) 90 (ls ++ rs) hl3
  rw [List.length_append] at hf
  rw [sh_claim_shown, ix_t0, M.bind_ok, ix_t1, M.bind_ok, addM_lst (by rw [List.length_map, List.length_map]; omega), M.bind_ok, iterL_lst, M.bind_ok, ← List.map_append, forN_ext (fun s => (setS (partsL s)).filter isShown) (ls ++ rs) [], M.bind_ok]
  · rw [List.nil_append, sh_unlike, sh_once (k := k + 101) rfl (fun s hs => by
      obtain ⟨t, ht, hs⟩ := List.mem_flatMap.mp hs
      have := parts_ht (setS_iff.mp (List.mem_filter.mp hs).1); have := pv_ht (hz t ht); omega) (by omega)]
    show M.ok ((setS _).map su) = _
    congr 2
    refine (setS_is (rise_filter isShown (setS_rise _)) fun s => ?_).symm
    simp only [List.mem_flatMap, List.mem_filter]
    exact ⟨fun ⟨a, b⟩ => by obtain ⟨t, c, d⟩ := List.mem_flatMap.mp (setS_iff.mp a); exact ⟨t, c, setS_iff.mpr d, b⟩, fun ⟨t, a, b, c⟩ => ⟨setS_iff.mpr (List.mem_flatMap.mpr ⟨t, a, setS_iff.mp b⟩), c⟩⟩
  · intro acc x hx ha
    have := hz x hx
    have := pv_ht this
    rw [sh_shown (k := k + 100) (by omega) (by omega) (by omega), M.bind_ok, extM_ok (by rw [List.length_map]; exact ha)]; rfl
  · simp only [List.length_nil]; omega
end

abbrev Cl := List Sy × List Sy
def clU (c : Cl) : U := .tup [.lst (c.1.map su), .lst (c.2.map su)]
def mkC (l r : List Sy) : Cl := (setS l, setS r)
theorem sh_clm {k : Nat} {ls rs : List Sy} (h : ∀ s ∈ ls, s.ht ≤ 150) (hl : ls.length ≤ 1000000) (h2 : ∀ s ∈ rs, s.ht ≤ 150) (hl2 : rs.length ≤ 1000000) : sh_claim_of (k + 3) [.lst (ls.map su), .lst (rs.map su)] = .ok (clU (mkC ls rs)) := by
  rw [sh_claim_of, sh_unlike, sh_unlike, sh_once rfl (fun s q => by have := h s q; omega) hl, M.bind_ok, M.bind_ok, sh_once rfl (fun s q => by have := h2 s q; omega) hl2]; rfl
def wo (l : List Sy) (s : Sy) : List Sy := l.filter fun x => decide (x ≠ s)
theorem sh_wo {k : Nat} {l : List Sy} {s : Sy} (h : s.ht ≤ 190) (hl : l.length ≤ 1000000) : sh_without (k + 1) [.lst (l.map su), su s] = .ok ((wo l s).map su) := by
  rw [sh_without, iterL_lst, M.bind_ok, compF_ok su (fun x => decide (x ≠ s)) su (by omega) (fun x _ => by rw [nB_ok, eqM_su (by omega), M.bind_ok, M.bind_ok]; congr 1; rw [Bool.eq_iff_iff]; simp) (fun _ _ _ => rfl)]; rfl
theorem wo_len (l : List Sy) (s : Sy) : (wo l s).length ≤ l.length := List.length_filter_le _ l
theorem wo_iff {l : List Sy} {s x : Sy} : x ∈ wo l s ↔ x ∈ l ∧ x ≠ s := by unfold wo; rw [List.mem_filter, decide_eq_true_eq]
def fromL (l r : List Sy) : Sy → Option (List Cl)
  | .not a => some [mkC l (r ++ [a])]
  | .bin .and a b => some [mkC (l ++ [a, b]) r]
  | .bin .or a b => some [mkC (l ++ [a]) r, mkC (l ++ [b]) r]
  | .bin .iff a b => some [mkC l (r ++ [a]), mkC (l ++ [b]) r]
  | _ => none
def fromR (l r : List Sy) : Sy → Option (List Cl)
  | .not a => some [mkC (l ++ [a]) r]
  | .bin .and a b => some [mkC l (r ++ [a]), mkC l (r ++ [b])]
  | .bin .or a b => some [mkC l (r ++ [a, b])]
  | .bin .iff a b => some [mkC (l ++ [a]) (r ++ [b])]
  | _ => none
def known1 : Sy → List Sy
  | .shown a => [.shown a, a]
  | _ => []
def upC (l : List Sy) : Sy → Option (List Cl)
  | .shown a => some [mkC (.shown a :: l.flatMap known1) [a]]
  | _ => none
def res : Option (List Cl) → M (List U)
  | some cs => .ok (cs.map clU)
  | none => .err "NoRule" []
section
variable {k : Nat} {l r : List Sy}
theorem addc1 {a : Sy} (hl : l.length ≤ 1000) : addM (.lst (l.map su)) (.lst [su a]) = .ok (.lst ((l ++ [a]).map su)) := by
  rw [addM_lst (by rw [List.length_map, List.length_singleton]; omega), List.map_append]; rfl
theorem addc2 {a b : Sy} (hl : l.length ≤ 1000) : addM (.lst (l.map su)) (.lst [su a, su b]) = .ok (.lst ((l ++ [a, b]).map su)) := by
  rw [addM_lst (by rw [List.length_map]; simp only [List.length_cons, List.length_nil]; omega), List.map_append]; rfl
theorem htc1 (h : ∀ s ∈ l, s.ht ≤ 150) {a : Sy} (ha : a.ht ≤ 150) : ∀ s ∈ l ++ [a], s.ht ≤ 150 := fun s hs => by
  rcases List.mem_append.mp hs with z | z
  · exact h s z
  · rw [List.mem_singleton] at z; subst z; exact ha
theorem htc2 (h : ∀ s ∈ l, s.ht ≤ 150) {a b : Sy} (ha : a.ht ≤ 150) (hb : b.ht ≤ 150) : ∀ s ∈ l ++ [a, b], s.ht ≤ 150 := fun s hs => by
  rcases List.mem_append.mp hs with z | z
  · exact h s z
  · simp only [List.mem_cons, List.not_mem_nil, or_false] at z
    rcases z with rfl | rfl
    · exact ha
    · exact hb
theorem lenc1 {a : Sy} (hl : l.length ≤ 1000) : (l ++ [a]).length ≤ 1000000 := by rw [List.length_append, List.length_singleton]; omega
theorem lenc2 {a b : Sy} (hl : l.length ≤ 1000) : (l ++ [a, b]).length ≤ 1000000 := by rw [List.length_append]; simp only [List.length_cons, List.length_nil]; omega
theorem sh_fromL (h : ∀ s ∈ l, s.ht ≤ 150) (hl : l.length ≤ 1000) (h2 : ∀ s ∈ r, s.ht ≤ 150) (hr : r.length ≤ 1000) (s : Sy) (hs : s.ht ≤ 150) : sh_from_left (k + 4) [.lst (l.map su), .lst (r.map su), su s] = res (fromL l r s) := by
  rw [sh_from_left]
  cases s with
  | no => rfl
  | lt a => rfl
  | shown a => rfl
  | not a =>
    simp only [Sy.ht] at hs
    simp only [su, ix_t0, ix_t1, M.bind_ok, eqM_str, ofS_inj, String.reduceEq, decide_true, decide_false, Bool.false_eq_true, if_true, if_false, addc1 hr, sh_clm (k := k) h (by omega) (htc1 h2 (a := a) (by omega)) (lenc1 hr)]
    rfl
  | bin o a b =>
    simp only [Sy.ht] at hs
    have ha : a.ht ≤ 150 := by omega
    have hb : b.ht ≤ 150 := by omega
    cases o <;>
    · simp only [su, Bop.s, ix_t0, ix_t1, ix_t2, M.bind_ok, eqM_str, ofS_inj, String.reduceEq, decide_true, decide_false, Bool.false_eq_true, if_true, if_false, addc1 hr, addc1 hl, addc2 hl, addc2 hr, sh_clm (k := k) h (by omega) (htc1 h2 (a := a) ha) (lenc1 hr), sh_clm (k := k) (htc1 h (a := a) ha) (lenc1 hl) h2 (by omega), sh_clm (k := k) (htc1 h (a := b) hb) (lenc1 hl) h2 (by omega), sh_clm (k := k) (htc2 h ha hb) (lenc2 hl) h2 (by omega)]
      rfl
theorem sh_fromR (h : ∀ s ∈ l, s.ht ≤ 150) (hl : l.length ≤ 1000) (h2 : ∀ s ∈ r, s.ht ≤ 150) (hr : r.length ≤ 1000) (s : Sy) (hs : s.ht ≤ 150) : sh_from_right (k + 4) [.lst (l.map su), .lst (r.map su), su s] = res (fromR l r s) := by
  rw [sh_from_right]
  cases s with
  | no => rfl
  | lt a => rfl
  | shown a => rfl
  | not a =>
    simp only [Sy.ht] at hs
    simp only [su, ix_t0, ix_t1, M.bind_ok, eqM_str, ofS_inj, String.reduceEq, decide_true, decide_false, Bool.false_eq_true, if_true, if_false, addc1 hl, sh_clm (k := k) (htc1 h (a := a) (by omega)) (lenc1 hl) h2 (by omega)]
    rfl
  | bin o a b =>
    simp only [Sy.ht] at hs
    have ha : a.ht ≤ 150 := by omega
    have hb : b.ht ≤ 150 := by omega
    cases o <;>
    · simp only [su, Bop.s, ix_t0, ix_t1, ix_t2, M.bind_ok, eqM_str, ofS_inj, String.reduceEq, decide_true, decide_false, Bool.false_eq_true, if_true, if_false, addc1 hr, addc1 hl, addc2 hl, addc2 hr, sh_clm (k := k) h (by omega) (htc1 h2 (a := a) ha) (lenc1 hr), sh_clm (k := k) h (by omega) (htc1 h2 (a := b) hb) (lenc1 hr), sh_clm (k := k) h (by omega) (htc2 h2 ha hb) (lenc2 hr), sh_clm (k := k) (htc1 h (a := a) ha) (lenc1 hl) (htc1 h2 (a := b) hb) (lenc1 hr)]
      rfl
theorem known_len (l : List Sy) : (l.flatMap known1).length ≤ 2 * l.length := by
  induction l with
  | nil => simp
  | cons a l ih =>
    rw [List.flatMap_cons, List.length_append, List.length_cons]
    have : (known1 a).length ≤ 2 := by cases a <;> simp [known1]
    omega
theorem known_iff {x : Sy} : x ∈ l.flatMap known1 ↔ ∃ a, Sy.shown a ∈ l ∧ (x = .shown a ∨ x = a) := by
  rw [List.mem_flatMap]
  constructor
  · rintro ⟨y, hy, hx⟩
    cases y <;> simp only [known1, List.not_mem_nil, List.mem_cons, or_false] at hx
    exact ⟨_, hy, hx⟩
  · rintro ⟨a, ha, hx⟩
    exact ⟨_, ha, by simp only [known1, List.mem_cons, List.not_mem_nil, or_false]; exact hx⟩
theorem sh_up (h : ∀ s ∈ l, s.ht ≤ 150) (hl : l.length ≤ 1000) (a : Sy) (hs : a.ht < 150) : sh_further_up (k + 4) [.lst (l.map su), su (.shown a)] = res (upC l (.shown a)) := by
  have hk := known_len l
  have e : forN (fun v_known_2 x3 => ((ixM x3 (.int 0)).bind fun z4 => (eqM z4 (.str "shown")).bind fun b5 => if b5 = true then (ixM x3 (.int 1)).bind fun z6 => (extM v_known_2 (.lst [x3, z6])).bind fun l7 => M.ok l7 else .ok v_known_2).bind fun v_known_8 => .ok v_known_8) (l.map su) ([Sy.shown a].map su) = .ok (([Sy.shown a] ++ l.flatMap known1).map su) := by
    rw [forN_ext known1 l ([Sy.shown a].map su), List.map_append]
    · intro acc x _ hx
      cases x with
      | shown b =>
        simp only [su, ix_t0, ix_t1, M.bind_ok, eqM_str, ofS_inj, decide_true, if_true, known1]
        rw [extM_ok (by simpa [known1] using hx)]; rfl
      | no => simp [su, known1]
      | lt l => simp [su, known1]
      | not b => simp [su, known1]
      | bin o b c => cases o <;> simp [su, known1, Bop.s]
    · simp only [List.length_map, List.length_singleton]; omega
  have ec := sh_clm (k := k) (ls := [Sy.shown a] ++ l.flatMap known1) (rs := [a]) (fun s hs => by
    rcases List.mem_append.mp hs with z | z
    · rw [List.mem_singleton] at z; subst z; simp only [Sy.ht]; omega
    · obtain ⟨b, hb, e⟩ := known_iff.mp z
      have := h _ hb
      simp only [Sy.ht] at this
      rcases e with rfl | rfl
      · simp only [Sy.ht]; omega
      · omega) (by rw [List.length_append, List.length_singleton]; omega) (fun s hs => by rw [List.mem_singleton] at hs; subst hs; omega) (by simp)
  rw [sh_further_up, iterL_lst, M.bind_ok]
  refine Eq.trans (congrArg (fun m : M (List U) => m.bind _) e) ?_
  rw [M.bind_ok, show ixM (su (.shown a)) (.int 1) = .ok (su a) from ix_t1, M.bind_ok]
  refine Eq.trans (congrArg (fun m : M U => m.bind fun z11 => M.ok [z11]) ec) ?_
  rfl
end
inductive Rl | same | never | left | right | up
def Rl.s : Rl → Str | .same => "same" | .never => "never" | .left => "left" | .right => "right" | .up => "up"
/-- what a claim needs -/
def need (c : Cl) (r : Rl) (s : Sy) : Option (List Cl) := match r with
  | .same => if s ∈ c.1 ∧ s ∈ c.2 then some [] else none
  | .never => if s = .no ∧ s ∈ c.1 then some [] else none
  | .left => if s ∈ c.1 then fromL (wo c.1 s) c.2 s else none
  | .right => if s ∈ c.2 then fromR c.1 (wo c.2 s) s else none
  | .up => if s ∈ c.2 then upC c.1 s else none
/-- a claim of no great sayings -/
structure CB (c : Cl) : Prop where
  h1 : ∀ s ∈ c.1, s.ht ≤ 149
  h2 : ∀ s ∈ c.2, s.ht ≤ 149
  l1 : c.1.length ≤ 1000
  l2 : c.2.length ≤ 1000
theorem res_bind (o : Option (List Cl)) : (res o).bind (fun z => M.ok z) = res o := by cases o <;> rfl
theorem sh_need {k : Nat} {c : Cl} (B : CB c) (r : Rl) {s : Sy} (hs : s.ht ≤ 149) : sh_needed (k + 5) [clU c, .str r.s, su s] = res (need c r s) := by
  obtain ⟨l, rr⟩ := c
  have i1 : inM (su s) (.lst (l.map su)) = .ok (decide (s ∈ l)) := inM_su rfl (by omega)
  have i2 : inM (su s) (.lst (rr.map su)) = .ok (decide (s ∈ rr)) := inM_su rfl (by omega)
  have b1 := B.h1; have b2 := B.h2; have b3 := B.l1; have b4 := B.l2
  dsimp only at b1 b2 b3 b4
  rw [sh_needed, clU, un2_ok, M.bind_ok]
  dsimp only
  cases r with
  | same =>
    simp only [Rl.s, eqM_str, M.bind_ok, ofS_inj, String.reduceEq, decide_true, decide_false, Bool.false_eq_true, if_true, if_false, i1, i2, need]
    by_cases q1 : s ∈ l
    · by_cases q2 : s ∈ rr
      · simp [q1, q2, res]
      · simp [q1, q2, res]
    · simp [q1, res]
  | never =>
    have e0 : eqM (su s) (.tup [.str "no"]) = .ok (decide (s = .no)) := eqM_su (t := .no) (by simp only [Sy.ht]; omega)
    simp only [Rl.s, eqM_str, M.bind_ok, ofS_inj, String.reduceEq, decide_true, decide_false, Bool.false_eq_true, if_true, if_false, i1, e0, need]
    by_cases q1 : s = .no
    · subst q1
      by_cases q2 : Sy.no ∈ l
      · simp [q2, res]
      · simp [q2, res]
    · simp [q1, res]
  | left =>
    simp only [Rl.s, eqM_str, M.bind_ok, ofS_inj, String.reduceEq, decide_true, decide_false, Bool.false_eq_true, if_true, if_false, i1, need]
    by_cases q1 : s ∈ l
    · have e2 := sh_fromL (k := k) (l := wo l s) (r := rr) (fun x hx => by have := b1 x (wo_iff.mp hx).1; omega) (by have := wo_len l s; omega) (fun x hx => by have := b2 x hx; omega) (by omega) s (by omega)
      simp only [q1, decide_true, if_true]
      rw [sh_wo (by omega) (by omega), M.bind_ok, e2, res_bind]
    · simp [q1, res]
  | right =>
    simp only [Rl.s, eqM_str, M.bind_ok, ofS_inj, String.reduceEq, decide_true, decide_false, Bool.false_eq_true, if_true, if_false, i2, need]
    by_cases q1 : s ∈ rr
    · have e2 := sh_fromR (k := k) (l := l) (r := wo rr s) (fun x hx => by have := b1 x hx; omega) (by omega) (fun x hx => by have := b2 x (wo_iff.mp hx).1; omega) (by have := wo_len rr s; omega) s (by omega)
      simp only [q1, decide_true, if_true]
      rw [sh_wo (by omega) (by omega), M.bind_ok, e2, res_bind]
    · simp [q1, res]
  | up =>
    simp only [Rl.s, eqM_str, M.bind_ok, ofS_inj, String.reduceEq, decide_true, decide_false, Bool.false_eq_true, if_true, if_false, i2, need]
    cases s with
    | shown a =>
      simp only [Sy.ht] at hs
      rw [show ixM (su (.shown a)) (.int 0) = .ok (.str "shown") from ix_t0]
      simp only [M.bind_ok, eqM_str, decide_true, if_true]
      by_cases q1 : Sy.shown a ∈ rr
      · simp only [q1, decide_true, if_true]
        rw [sh_up (k := k) (fun x hx => by have := b1 x hx; omega) (by omega) a (by omega), res_bind]
      · simp [q1, res]
    | no => simp [su, upC, res]
    | lt l => simp [su, upC, res]
    | not b => simp [su, upC, res]
    | bin o b c => cases o <;> simp [su, upC, res, Bop.s]

/-- marks: which of p, q, r -/
structure Ms where
  p : Bool
  q : Bool
  r : Bool
def Ms.s : Ms → Str
  | ⟨false, false, false⟩ => ""
  | ⟨true, false, false⟩ => "p"
  | ⟨false, true, false⟩ => "q"
  | ⟨true, true, false⟩ => "pq"
  | ⟨false, false, true⟩ => "r"
  | ⟨true, false, true⟩ => "pr"
  | ⟨false, true, true⟩ => "qr"
  | ⟨true, true, true⟩ => "pqr"
def Ms.has : Ms → Lt → Bool
  | m, .p => m.p
  | m, .q => m.q
  | m, .r => m.r
def Ms.lts (m : Ms) : List Lt := [Lt.p, .q, .r].filter m.has
theorem join_ms (m : Ms) : joinM (.str "") (.lst (m.lts.map ltU)) = .ok (.str m.s) := by
  obtain ⟨p, q, r⟩ := m
  cases p <;> cases q <;> cases r <;> rfl
/-- a room -/
structure Rm where
  b : Int
  m : Ms
def uR (x : Rm) : U := .tup [.int x.b, .str x.m.s]
/-- a tree's rooms -/
structure Tree (rs : List Rm) : Prop where
  ne : 0 < rs.length
  top : ∀ x, rs[0]? = some x → x.b = -1
  up : ∀ (k : Nat) (x : Rm), 0 < k → rs[k]? = some x → 0 ≤ x.b ∧ x.b < (k : Int)
/-- what a room stands on -/
def par (rs : List Rm) (k : Nat) : Nat := match rs[k]? with
  | some x => x.b.toNat
  | none => 0
theorem Tree.par {rs : List Rm} (T : Tree rs) {k : Nat} (h : 0 < k) (h2 : k < rs.length) : rs[k].b = (Law.par rs k : Nat) ∧ Law.par rs k < k := by
  have hg := List.getElem?_eq_getElem h2
  obtain ⟨h3, h4⟩ := T.up k _ h hg
  unfold Law.par
  rw [hg]
  dsimp only
  omega
/-- by how many rooms one comes from k down to r; 0: not at all -/
def dn (p : Nat → Nat) (r k : Nat) : Nat := if k ≤ r then 0 else if p k = r then 1 else if h : p k < k then (match dn p r (p k) with
  | 0 => 0
  | d + 1 => d + 2) else 0
termination_by k
theorem dn_le {p : Nat → Nat} {r k : Nat} (h : k ≤ r) : dn p r k = 0 := by rw [dn, if_pos h]
theorem dn_kid {p : Nat → Nat} {r k : Nat} (h : r < k) (e : p k = r) : dn p r k = 1 := by rw [dn, if_neg (by omega), if_pos e]
theorem dn_far {p : Nat → Nat} {r k : Nat} (h : r < k) (e : p k ≠ r) (hp : p k < k) : dn p r k = if dn p r (p k) = 0 then 0 else dn p r (p k) + 1 := by
  rw [dn, if_neg (by omega), if_neg e, dif_pos hp]
  cases dn p r (p k) <;> simp
theorem dn_pos {p : Nat → Nat} {r k : Nat} (h : 0 < dn p r k) : r < k := by
  rcases Nat.lt_or_ge r k with z | z
  · exact z
  · rw [dn_le z] at h; omega
def Bop.ev : Bop → Bool → Bool → Bool
  | .and, a, b => a && b
  | .or, a, b => a || b
  | .iff, a, b => !a || b
def mk (rs : List Rm) (k : Nat) (l : Lt) : Bool := match rs[k]? with
  | some x => x.m.has l
  | none => false
/-- whether a saying holds in a room -/
def val (rs : List Rm) : Sy → Nat → Bool
  | .no, _ => false
  | .lt l, k => mk rs k l
  | .not a, k => !val rs a k
  | .shown a, k => (List.range rs.length).all fun j => !decide (0 < dn (par rs) k j) || val rs a j
  | .bin o a b, k => o.ev (val rs a k) (val rs b k)
/-- where a claim holds -/
def clv (rs : List Rm) (c : Cl) (k : Nat) : Bool := (c.1.any fun s => !val rs s k) || c.2.any fun s => val rs s k
theorem any_ext {l l' : List Sy} {f : Sy → Bool} (h : ∀ x, x ∈ l ↔ x ∈ l') : l.any f = l'.any f := by
  rw [Bool.eq_iff_iff, List.any_eq_true, List.any_eq_true]
  exact ⟨fun ⟨x, a, b⟩ => ⟨x, (h x).mp a, b⟩, fun ⟨x, a, b⟩ => ⟨x, (h x).mpr a, b⟩⟩
theorem any_wo {l : List Sy} {s : Sy} (h : s ∈ l) (f : Sy → Bool) : l.any f = (f s || (wo l s).any f) := by
  rw [Bool.eq_iff_iff, Bool.or_eq_true, List.any_eq_true, List.any_eq_true]
  constructor
  · rintro ⟨x, a, b⟩
    by_cases e : x = s
    · subst e; exact .inl b
    · exact .inr ⟨x, wo_iff.mpr ⟨a, e⟩, b⟩
  · rintro (b | ⟨x, a, b⟩)
    · exact ⟨s, h, b⟩
    · exact ⟨x, (wo_iff.mp a).1, b⟩
theorem all_iff {rs : List Rm} {c : Sy} {k : Nat} : val rs (.shown c) k = true ↔ ∀ j, j < rs.length → 0 < dn (par rs) k j → val rs c j = true := by
  rw [val, List.all_eq_true]
  constructor
  · intro h j hj hd
    have := h j (List.mem_range.mpr hj)
    rw [decide_eq_true hd] at this
    simpa using this
  · intro h j hj
    by_cases hd : 0 < dn (par rs) k j
    · rw [h j (List.mem_range.mp hj) hd, Bool.or_true]
    · rw [decide_eq_false hd]; rfl
theorem dn_tr {rs : List Rm} (T : Tree rs) {r j : Nat} (h : 0 < dn (par rs) r j) : ∀ i, i < rs.length → 0 < dn (par rs) j i → 0 < dn (par rs) r i := by
  intro i
  induction i using Nat.strongRecOn with
  | _ i ih =>
    intro hi hd
    have z := dn_pos hd
    have z2 := dn_pos h
    obtain ⟨p1, p2⟩ := T.par (k := i) (by omega) hi
    by_cases e : par rs i = j
    · rw [dn_far (by omega) (by omega) p2, e, if_neg (by omega)]; omega
    · rw [dn_far z e p2] at hd
      by_cases z3 : dn (par rs) j (par rs i) = 0
      · rw [if_pos z3] at hd; omega
      · have := ih _ p2 (by omega) (by omega)
        have := dn_pos this
        rw [dn_far (by omega) (by omega) p2, if_neg (by omega)]; omega
/-! the law's own reckoning -/
/-- a tree told by marks and the trees that stand on its first room -/
inductive Tr where
  | node (m : Ms) (ts : List Tr)
def Tr.m : Tr → Ms
  | .node m _ => m
def Tr.ts : Tr → List Tr
  | .node _ ts => ts
mutual
def trU : Tr → U
  | .node m ts => .tup [.str m.s, .lst (trUs ts)]
def trUs : List Tr → List U
  | [] => []
  | t :: ts => trU t :: trUs ts
end
theorem trUs_map : ∀ ts : List Tr, trUs ts = ts.map trU
  | [] => rfl
  | t :: ts => by rw [trUs, trUs_map ts]; rfl
mutual
def desc : Tr → List Tr
  | .node _ ts => descs ts
def descs : List Tr → List Tr
  | [] => []
  | t :: ts => t :: (desc t ++ descs ts)
end
theorem descs_mem {x : Tr} : ∀ {ts : List Tr}, x ∈ descs ts ↔ ∃ t ∈ ts, x = t ∨ x ∈ desc t
  | [] => by simp [descs]
  | t :: ts => by
    rw [descs, List.mem_cons, List.mem_append, descs_mem (ts := ts)]
    constructor
    · rintro (h | h | ⟨u, hu, h⟩)
      · exact ⟨t, by simp, .inl h⟩
      · exact ⟨t, by simp, .inr h⟩
      · exact ⟨u, by simp [hu], h⟩
    · rintro ⟨u, hu, h⟩
      rcases List.mem_cons.mp hu with rfl | hu
      · rcases h with h | h
        · exact .inl h
        · exact .inr (.inl h)
      · exact .inr (.inr ⟨u, hu, h⟩)
theorem desc_mem {x t : Tr} : x ∈ desc t ↔ ∃ u ∈ t.ts, x = u ∨ x ∈ desc u := by
  obtain ⟨m, ts⟩ := t
  rw [desc]; exact descs_mem
mutual
def hgt : Tr → Nat
  | .node _ ts => hgts ts + 1
def hgts : List Tr → Nat
  | [] => 0
  | t :: ts => max (hgt t) (hgts ts)
end
theorem hgts_le {n : Nat} : ∀ {ts : List Tr}, (∀ t ∈ ts, hgt t ≤ n) → hgts ts ≤ n
  | [], _ => Nat.zero_le _
  | t :: ts, h => by
    rw [hgts]
    have := h t (by simp)
    have := hgts_le (ts := ts) fun u hu => h u (by simp [hu])
    omega
theorem hgts_mem {t : Tr} : ∀ {ts : List Tr}, t ∈ ts → hgt t ≤ hgts ts
  | u :: ts, h => by
    rw [hgts]
    rcases List.mem_cons.mp h with rfl | h
    · omega
    · have := hgts_mem h; omega
mutual
def tsz : Tr → Nat
  | .node _ ts => tszs ts + 1
def tszs : List Tr → Nat
  | [] => 0
  | t :: ts => tsz t + tszs ts
end
/-- whether a saying holds in the first room -/
def tv : Sy → Tr → Bool
  | .no, _ => false
  | .lt l, t => t.m.has l
  | .not a, t => !tv a t
  | .shown a, t => (desc t).all fun u => tv a u
  | .bin o a b, t => o.ev (tv a t) (tv b t)
def clt (t : Tr) (c : Cl) : Bool := (c.1.any fun s => !tv s t) || c.2.any fun s => tv s t
theorem clt_mk {t : Tr} {l r : List Sy} : clt t (mkC l r) = ((l.any fun s => !tv s t) || r.any fun s => tv s t) := by
  unfold clt mkC
  rw [any_ext (l := setS l) (l' := l) fun x => setS_iff, any_ext (l := setS r) (l' := r) fun x => setS_iff]
theorem clt_false {t : Tr} {c : Cl} : clt t c = false ↔ (∀ s ∈ c.1, tv s t = true) ∧ ∀ s ∈ c.2, tv s t = false := by
  unfold clt
  rw [Bool.or_eq_false_iff, List.any_eq_false, List.any_eq_false]
  constructor
  · rintro ⟨h1, h2⟩
    exact ⟨fun s hs => by have := h1 s hs; simpa using this, fun s hs => by have := h2 s hs; simpa using this⟩
  · rintro ⟨h1, h2⟩
    exact ⟨fun s hs => by rw [h1 s hs]; simp, fun s hs => by rw [h2 s hs]; simp⟩
theorem need_tv {t : Tr} {c : Cl} {r : Rl} {s : Sy} {cs : List Cl} (hr : r ≠ .up) (h : need c r s = some cs): clt t c = cs.all fun d => clt t d := by
  obtain ⟨l, rr⟩ := c
  have app : ∀ (l : List Sy) (a : Sy) (f : Sy → Bool), (l ++ [a]).any f = (l.any f || f a) := fun l a f => by simp
  have app2 : ∀ (l : List Sy) (a b : Sy) (f : Sy → Bool), (l ++ [a, b]).any f = (l.any f || (f a || f b)) := fun l a b f => by simp
  cases r with
  | same =>
    unfold need at h
    dsimp only at h
    split at h
    · rename_i q
      cases h
      rw [show clt t (l, rr) = ((l.any fun s => !tv s t) || rr.any fun s => tv s t) from rfl]
      rw [any_wo q.1, any_wo q.2]
      cases tv s t <;> simp
    · cases h
  | never =>
    unfold need at h
    dsimp only at h
    split at h
    · rename_i q
      cases h
      rw [show clt t (l, rr) = ((l.any fun s => !tv s t) || rr.any fun s => tv s t) from rfl]
      rw [q.1] at q
      rw [any_wo q.2]
      simp [tv]
    · cases h
  | left =>
    unfold need at h
    dsimp only at h
    split at h
    · rename_i q
      rw [show clt t (l, rr) = ((l.any fun s => !tv s t) || rr.any fun s => tv s t) from rfl]
      rw [any_wo q]
      cases s with
      | no => cases h
      | lt a => cases h
      | shown a => cases h
      | not a =>
        cases h
        simp only [List.all_cons, List.all_nil, clt_mk, app, tv, Bool.and_true]
        cases tv a t <;> cases (wo l (Sy.not a)).any (fun s => !tv s t) <;> cases rr.any (fun s => tv s t) <;> rfl
      | bin o a b =>
        cases o <;>
        · cases h
          simp only [List.all_cons, List.all_nil, clt_mk, app, app2, tv, Bop.ev, Bool.and_true]
          cases tv a t <;> cases tv b t <;> cases (wo l (Sy.bin _ a b)).any (fun s => !tv s t) <;> cases rr.any (fun s => tv s t) <;> rfl
    · cases h
  | right =>
    unfold need at h
    dsimp only at h
    split at h
    · rename_i q
      rw [show clt t (l, rr) = ((l.any fun s => !tv s t) || rr.any fun s => tv s t) from rfl]
      rw [any_wo q]
      cases s with
      | no => cases h
      | lt a => cases h
      | shown a => cases h
      | not a =>
        cases h
        simp only [List.all_cons, List.all_nil, clt_mk, app, tv, Bool.and_true]
        cases tv a t <;> cases (wo rr (Sy.not a)).any (fun s => tv s t) <;> cases l.any (fun s => !tv s t) <;> rfl
      | bin o a b =>
        cases o <;>
        · cases h
          simp only [List.all_cons, List.all_nil, clt_mk, app, app2, tv, Bop.ev, Bool.and_true]
          cases tv a t <;> cases tv b t <;> cases (wo rr (Sy.bin _ a b)).any (fun s => tv s t) <;> cases l.any (fun s => !tv s t) <;> rfl
    · cases h
  | up => exact absurd rfl hr

/-- only letters and shown sayings at the left, letters, what never holds and shown sayings at the right, none at both: a tree from those of the right's shown sayings -/
theorem clt_up {c : Cl} {m : Ms} {ts : List Tr} (h1 : ∀ s ∈ c.1, (∃ l, s = .lt l) ∨ ∃ a, s = .shown a) (h2 : ∀ s ∈ c.2, s = .no ∨ (∃ l, s = .lt l) ∨ ∃ a, s = .shown a) (h3 : ∀ s ∈ c.1, s ∉ c.2) (hm : ∀ l, m.has l = true ↔ Sy.lt l ∈ c.1)
    (ht : ∀ t ∈ ts, ∃ a, Sy.shown a ∈ c.2 ∧ clt t (mkC (.shown a :: c.1.flatMap known1) [a]) = false) (hs : ∀ a, Sy.shown a ∈ c.2 → ∃ t ∈ ts, clt t (mkC (.shown a :: c.1.flatMap known1) [a]) = false) : clt (.node m ts) c = false := by
  rw [clt_false]
  constructor
  · intro s hs1
    rcases h1 s hs1 with ⟨l, rfl⟩ | ⟨a, rfl⟩
    · rw [tv]; exact (hm l).mpr hs1
    · rw [tv, List.all_eq_true]
      intro u hu
      obtain ⟨t, ht1, ht2⟩ := desc_mem.mp hu
      obtain ⟨b, hb, hf⟩ := ht t ht1
      rw [clt_mk, Bool.or_eq_false_iff, List.any_eq_false] at hf
      have kn : ∀ x, x ∈ c.1.flatMap known1 → tv x t = true := fun x hx => by have := hf.1 x (List.mem_cons_of_mem _ hx); simpa using this
      rcases ht2 with rfl | ht2
      · exact kn a (known_iff.mpr ⟨a, hs1, .inr rfl⟩)
      · have := kn (.shown a) (known_iff.mpr ⟨a, hs1, .inl rfl⟩)
        rw [tv, List.all_eq_true] at this
        exact this u ht2
  · intro s hs2
    rcases h2 s hs2 with rfl | ⟨l, rfl⟩ | ⟨a, rfl⟩
    · rfl
    · rw [tv]
      cases e : (Tr.node m ts).m.has l with
      | false => rfl
      | true => exact absurd hs2 (h3 _ ((hm l).mp e))
    · obtain ⟨t, ht1, hf⟩ := hs a hs2
      rw [clt_mk, Bool.or_eq_false_iff, List.any_eq_false, List.any_eq_false] at hf
      have hv : tv a t = false := by have := hf.2 a (by simp); simpa using this
      cases e : tv (.shown a) (.node m ts) with
      | false => rfl
      | true =>
        rw [tv, List.all_eq_true] at e
        have := e t (desc_mem.mpr ⟨t, ht1, .inl rfl⟩)
        rw [hv] at this; cases this

def cl (s : Str) : List Nat := s.cps.toList
theorem cl_app (a b : Str) : cl (a ++ b) = cl a ++ cl b := by
  show (a.cps ++ b.cps).toList = _
  rw [Array.toList_append]; rfl
def txO : Bop → List Nat
  | .and => [97, 110, 100]
  | .or => [111, 114]
  | .iff => [105, 102]
def txL : Lt → Nat
  | .p => 112
  | .q => 113
  | .r => 114
/-- what repr tells of a saying, sign by sign -/
def tx : Sy → List Nat
  | .no => [40, 39, 110, 111, 39, 44, 41]
  | .lt l => [40, 39, 108, 101, 116, 116, 101, 114, 39, 44, 32, 39, txL l, 39, 41]
  | .not a => [40, 39, 110, 111, 116, 39, 44, 32] ++ (tx a ++ [41])
  | .shown a => [40, 39, 115, 104, 111, 119, 110, 39, 44, 32] ++ (tx a ++ [41])
  | .bin o a b => [40, 39] ++ (txO o ++ ([39, 44, 32] ++ (tx a ++ ([44, 32] ++ (tx b ++ [41])))))
theorem tup1 {x : PyData} : cl (PyData.shown (.tuple [x])) = [40] ++ (cl (PyData.shown x) ++ [44, 41]) := by
  rw [PyData.shown, PyData.shownAll, PyData.shownAll]
  show cl (("(" : Str) ++ Str.join ", " [PyData.shown x] ++ (",)" : Str)) = _
  rw [cl_app, cl_app]
  show _ ++ cl (PyData.shown x) ++ _ = _
  rw [List.append_assoc]; rfl
theorem tup2 {x y : PyData} : cl (PyData.shown (.tuple [x, y])) = [40] ++ (cl (PyData.shown x) ++ ([44, 32] ++ (cl (PyData.shown y) ++ [41]))) := by
  rw [PyData.shown, PyData.shownAll, PyData.shownAll, PyData.shownAll]
  show cl (("(" : Str) ++ (PyData.shown x ++ (", " : Str) ++ PyData.shown y) ++ (")" : Str)) = _
  rw [cl_app, cl_app, cl_app, cl_app]
  simp only [List.append_assoc]; rfl
theorem tup3 {x y z : PyData} : cl (PyData.shown (.tuple [x, y, z])) = [40] ++ (cl (PyData.shown x) ++ ([44, 32] ++ (cl (PyData.shown y) ++ ([44, 32] ++ (cl (PyData.shown z) ++ [41]))))) := by
  rw [PyData.shown, PyData.shownAll, PyData.shownAll, PyData.shownAll, PyData.shownAll]
  show cl (("(" : Str) ++ (PyData.shown x ++ (", " : Str) ++ (PyData.shown y ++ (", " : Str) ++ PyData.shown z)) ++ (")" : Str)) = _
  rw [cl_app, cl_app, cl_app, cl_app, cl_app, cl_app]
  simp only [List.append_assoc]; rfl
theorem tx_su : ∀ s : Sy, cl (PyData.shown (pyU (su s))) = tx s
  | .no => by
    show cl (PyData.shown (.tuple [.str "no"])) = _
    rw [tup1, PyData.shown, show cl (reprText "no") = [39, 110, 111, 39] from by decide +kernel]; rfl
  | .lt l => by
    show cl (PyData.shown (.tuple [.str "letter", .str l.s])) = _
    rw [tup2, PyData.shown, PyData.shown, show cl (reprText "letter") = [39, 108, 101, 116, 116, 101, 114, 39] from by decide +kernel, show cl (reprText l.s) = [39, txL l, 39] from by cases l <;> decide +kernel]; rfl
  | .not a => by
    show cl (PyData.shown (.tuple [.str "not", pyU (su a)])) = _
    rw [tup2, PyData.shown, show cl (reprText "not") = [39, 110, 111, 116, 39] from by decide +kernel, tx_su a]; rfl
  | .shown a => by
    show cl (PyData.shown (.tuple [.str "shown", pyU (su a)])) = _
    rw [tup2, PyData.shown, show cl (reprText "shown") = [39, 115, 104, 111, 119, 110, 39] from by decide +kernel, tx_su a]; rfl
  | .bin o a b => by
    show cl (PyData.shown (.tuple [.str o.s, pyU (su a), pyU (su b)])) = _
    rw [tup3, PyData.shown, show cl (reprText o.s) = [39] ++ (txO o ++ [39]) from by cases o <;> decide +kernel, tx_su a, tx_su b, tx]
    simp only [List.append_assoc]; rfl
theorem tx_inj : ∀ (s t : Sy) (r r' : List Nat), tx s ++ r = tx t ++ r' → s = t ∧ r = r'
  | .no, t, r, r', h => by
    cases t with
    | no => simp only [tx, List.cons_append, List.nil_append, List.cons.injEq, true_and] at h; exact ⟨rfl, h⟩
    | bin o a b => cases o <;> simp [tx, txO] at h
    | _ => simp [tx] at h
  | .lt l, t, r, r', h => by
    cases t with
    | lt m => cases l <;> cases m <;> simp [tx, txL] at h ⊢ <;> exact h
    | bin o a b => cases o <;> simp [tx, txO] at h
    | _ => simp [tx] at h
  | .not a, t, r, r', h => by
    cases t with
    | not b =>
      simp only [tx, List.append_assoc, List.append_cancel_left_eq] at h
      obtain ⟨rfl, h2⟩ := tx_inj a b _ _ h
      simp only [List.cons_append, List.nil_append, List.cons.injEq, true_and] at h2
      exact ⟨rfl, h2⟩
    | bin o a b => cases o <;> simp [tx, txO] at h
    | _ => simp [tx] at h
  | .shown a, t, r, r', h => by
    cases t with
    | shown b =>
      simp only [tx, List.append_assoc, List.append_cancel_left_eq] at h
      obtain ⟨rfl, h2⟩ := tx_inj a b _ _ h
      simp only [List.cons_append, List.nil_append, List.cons.injEq, true_and] at h2
      exact ⟨rfl, h2⟩
    | bin o a b => cases o <;> simp [tx, txO] at h
    | _ => simp [tx] at h
  | .bin o a b, t, r, r', h => by
    cases t with
    | bin o2 c d =>
      have ho : o = o2 := by cases o <;> cases o2 <;> simp [tx, txO] at h ⊢
      subst ho
      simp only [tx, List.append_assoc, List.append_cancel_left_eq] at h
      obtain ⟨rfl, h2⟩ := tx_inj a c _ _ h
      rw [List.append_cancel_left_eq] at h2
      obtain ⟨rfl, h3⟩ := tx_inj b d _ _ h2
      simp only [List.cons_append, List.nil_append, List.cons.injEq, true_and] at h3
      exact ⟨rfl, h3⟩
    | _ => cases o <;> simp [tx, txO] at h
theorem tx_len : ∀ s : Sy, (tx s).length ≤ 16 * s.size
  | .no => by decide
  | .lt l => by show 15 ≤ 16 * 1; decide
  | .not a => by have := tx_len a; rw [tx, List.length_append, List.length_append]; simp only [List.length_cons, List.length_nil, Sy.size]; omega
  | .shown a => by have := tx_len a; rw [tx, List.length_append, List.length_append]; simp only [List.length_cons, List.length_nil, Sy.size]; omega
  | .bin o a b => by
    have := tx_len a; have := tx_len b
    have ho : (txO o).length ≤ 3 := by cases o <;> decide
    rw [tx]; simp only [List.length_append, List.length_cons, List.length_nil, Sy.size]; omega
/-- the list behind its first item -/
def txs : List Sy → List Nat
  | [] => [93]
  | t :: ts => [44, 32] ++ (tx t ++ txs ts)
def txl : List Sy → List Nat
  | [] => [91, 93]
  | t :: ts => [91] ++ (tx t ++ txs ts)
theorem textFrom_cl : ∀ (ts : List Sy) (k : Nat) (acc : Str), 0 < k → cl (textFrom k acc (PyData.shownAll (pyUs (ts.map su)))) ++ [93] = cl acc ++ txs ts
  | [], k, acc, _ => rfl
  | t :: ts, k, acc, hk => by
    rw [List.map_cons, pyUs, PyData.shownAll, textFrom, textFrom_cl ts (k + 1) _ (by omega), if_pos hk, cl_app, cl_app, tx_su, txs]
    simp only [List.append_assoc]; rfl
theorem list_cl (ts : List Sy) : cl (PyData.shown (.list (pyUs (ts.map su)))) = txl ts := by
  rw [PyData.shown]
  unfold listText
  rw [cl_app]
  cases ts with
  | nil => rfl
  | cons t ts =>
    rw [List.map_cons, pyUs, PyData.shownAll, textFrom, show cl ("]" : Str) = [93] from rfl, textFrom_cl ts 1 _ (by omega), if_neg (by omega), cl_app, cl_app, tx_su, txl]
    simp only [List.append_assoc]; rfl
theorem txs_inj : ∀ (l l' : List Sy) (r r' : List Nat), txs l ++ r = txs l' ++ r' → l = l' ∧ r = r'
  | [], [], r, r', h => by simpa [txs] using h
  | [], _ :: _, r, r', h => by simp [txs] at h
  | _ :: _, [], r, r', h => by simp [txs] at h
  | t :: ts, u :: us, r, r', h => by
    simp only [txs, List.append_assoc, List.append_cancel_left_eq] at h
    obtain ⟨rfl, h2⟩ := tx_inj t u _ _ h
    obtain ⟨rfl, h3⟩ := txs_inj ts us _ _ h2
    exact ⟨rfl, h3⟩
theorem tx_ne {t : Sy} {r r' : List Nat} : tx t ++ r ≠ 93 :: r' := by
  cases t with
  | bin o a b => simp [tx]
  | _ => simp [tx]
theorem txl_inj : ∀ (l l' : List Sy) (r r' : List Nat), txl l ++ r = txl l' ++ r' → l = l' ∧ r = r'
  | [], [], r, r', h => by simpa [txl] using h
  | [], _ :: _, r, r', h => by
    simp only [txl, List.append_assoc, List.cons_append, List.nil_append, List.cons.injEq, true_and] at h
    exact absurd h.symm tx_ne
  | _ :: _, [], r, r', h => by
    simp only [txl, List.append_assoc, List.cons_append, List.nil_append, List.cons.injEq, true_and] at h
    exact absurd h tx_ne
  | t :: ts, u :: us, r, r', h => by
    simp only [txl, List.append_assoc, List.append_cancel_left_eq] at h
    obtain ⟨rfl, h2⟩ := tx_inj t u _ _ h
    obtain ⟨rfl, h3⟩ := txs_inj ts us _ _ h2
    exact ⟨rfl, h3⟩
/-- what repr tells of a claim -/
noncomputable def rpC (c : Cl) : Str := PyData.shown (pyU (clU c))
theorem rpC_cl (c : Cl) : cl (rpC c) = [40] ++ (txl c.1 ++ ([44, 32] ++ (txl c.2 ++ [41]))) := by
  show cl (PyData.shown (.tuple [.list (pyUs (c.1.map su)), .list (pyUs (c.2.map su))])) = _
  rw [tup2, list_cl, list_cl]
theorem rpC_inj {c d : Cl} (h : rpC c = rpC d) : c = d := by
  have h := congrArg cl h
  rw [rpC_cl, rpC_cl, List.append_cancel_left_eq] at h
  obtain ⟨h1, h2⟩ := txl_inj _ _ _ _ h
  rw [List.append_cancel_left_eq] at h2
  obtain ⟨h3, _⟩ := txl_inj _ _ _ _ h2
  exact Prod.ext h1 h3
def totS (l : List Sy) : Nat := (l.map Sy.size).sum
theorem txs_len : ∀ l : List Sy, (txs l).length ≤ 18 * totS l + 1
  | [] => by simp [txs, totS]
  | t :: ts => by
    have := tx_len t; have := txs_len ts; have := size_pos t
    unfold totS at *
    rw [txs, List.map_cons, List.sum_cons, List.length_append, List.length_append]; simp only [List.length_cons, List.length_nil]; omega
theorem txl_len (l : List Sy) : (txl l).length ≤ 18 * totS l + 2 := by
  cases l with
  | nil => simp [txl, totS]
  | cons t ts =>
    have := tx_len t; have := txs_len ts; have := size_pos t
    unfold totS at *
    rw [txl, List.map_cons, List.sum_cons, List.length_append, List.length_append]; simp only [List.length_cons, List.length_nil]; omega
theorem rpC_len (c : Cl) : (rpC c).length ≤ 18 * (totS c.1 + totS c.2) + 10 := by
  have h : (rpC c).length = (cl (rpC c)).length := by
    unfold cl
    show (rpC c).cps.size = _
    simp
  rw [h, rpC_cl]
  have := txl_len c.1; have := txl_len c.2
  simp only [List.length_append, List.length_cons, List.length_nil]; omega
theorem su_show : ∀ s : Sy, PyData.showable (pyU (su s)) = true ∧ PyData.hasDict (pyU (su s)) = false
  | .no => ⟨rfl, rfl⟩
  | .lt _ => ⟨rfl, rfl⟩
  | .not a => by
    obtain ⟨h1, h2⟩ := su_show a
    refine ⟨?_, ?_⟩
    · show (true && (PyData.showable (pyU (su a)) && true)) = true; rw [h1]; rfl
    · show (false || (PyData.hasDict (pyU (su a)) || false)) = false; rw [h2]; rfl
  | .shown a => by
    obtain ⟨h1, h2⟩ := su_show a
    refine ⟨?_, ?_⟩
    · show (true && (PyData.showable (pyU (su a)) && true)) = true; rw [h1]; rfl
    · show (false || (PyData.hasDict (pyU (su a)) || false)) = false; rw [h2]; rfl
  | .bin o a b => by
    obtain ⟨h1, h2⟩ := su_show a
    obtain ⟨h3, h4⟩ := su_show b
    refine ⟨?_, ?_⟩
    · show (true && (PyData.showable (pyU (su a)) && (PyData.showable (pyU (su b)) && true))) = true; rw [h1, h3]; rfl
    · show (false || (PyData.hasDict (pyU (su a)) || (PyData.hasDict (pyU (su b)) || false))) = false; rw [h2, h4]; rfl
theorem sus_show : ∀ l : List Sy, PyData.showableAll (pyUs (l.map su)) = true ∧ PyData.hasDictAll (pyUs (l.map su)) = false
  | [] => ⟨rfl, rfl⟩
  | s :: l => by
    obtain ⟨h1, h2⟩ := su_show s
    obtain ⟨h3, h4⟩ := sus_show l
    refine ⟨?_, ?_⟩
    · show (PyData.showable (pyU (su s)) && PyData.showableAll (pyUs (l.map su))) = true; rw [h1, h3]; rfl
    · show (PyData.hasDict (pyU (su s)) || PyData.hasDictAll (pyUs (l.map su))) = false; rw [h2, h4]; rfl

theorem ltS_irrS (s : Sy) : ¬ Sy.ltS s s = true := fun h => by
  have h1 : Rise [s, s] := List.pairwise_cons.mpr ⟨fun b hb => by rw [List.mem_singleton] at hb; subst hb; exact h, List.pairwise_singleton _ _⟩
  have := rise_ext (l := [s, s]) (m := [s]) h1 (List.pairwise_singleton _ _) (by simp)
  simp at this
theorem rise_ndS {l : List Sy} (h : Rise l) : l.Nodup := List.Pairwise.imp (fun {a b} h e => by subst e; exact ltS_irrS _ h) h
theorem setS_nd (l : List Sy) : (setS l).Nodup := rise_ndS (setS_rise l)
theorem setS_fix {l : List Sy} (h : Rise l) : setS l = l := (setS_is h fun _ => Iff.rfl).symm
section
variable {α : Type} [DecidableEq α]
theorem sum_erase (f : α → Nat) : ∀ {l : List α} {x : α}, x ∈ l → (l.map f).sum = f x + ((l.erase x).map f).sum
  | [], _, h => by cases h
  | a :: l, x, h => by
    by_cases e : a = x
    · subst e; rw [List.erase_cons_head, List.map_cons, List.sum_cons]
    · rw [List.erase_cons_tail (by simpa using e), List.map_cons, List.sum_cons, List.map_cons, List.sum_cons, sum_erase f (l := l) ((List.mem_cons.mp h).resolve_left fun z => e z.symm)]; omega
theorem sum1 : ∀ l : List α, (l.map fun _ => 1).sum = l.length
  | [] => rfl
  | a :: l => by rw [List.map_cons, List.sum_cons, sum1 l, List.length_cons]; omega
theorem sum_sub (f : α → Nat) : ∀ {l m : List α}, l.Nodup → (∀ x ∈ l, x ∈ m) → (l.map f).sum ≤ (m.map f).sum
  | [], _, _, _ => by simp
  | a :: l, m, nd, h => by
    obtain ⟨n1, n2⟩ := List.nodup_cons.mp nd
    rw [List.map_cons, List.sum_cons, sum_erase f (h a (by simp))]
    have := sum_sub f (l := l) (m := m.erase a) n2 fun x hx => (List.mem_erase_of_ne (fun (e : x = a) => n1 (e ▸ hx))).mpr (h x (by simp [hx]))
    omega
theorem len_sub {l m : List α} (nd : l.Nodup) (h : ∀ x ∈ l, x ∈ m) : l.length ≤ m.length := by
  have := sum_sub (fun _ => 1) nd h
  rwa [sum1, sum1] at this
end
/-- how many words outside of shown -/
def cn : Sy → Nat
  | .no => 0
  | .lt _ => 0
  | .not a => cn a + 1
  | .shown _ => 0
  | .bin _ a b => cn a + cn b + 1
def brk : Sy → Bool
  | .not _ => true
  | .bin _ _ _ => true
  | _ => false
def kidS : Sy → Sy
  | .shown a => a
  | s => s
def wl (l : List Sy) : Nat := (l.map cn).sum
def wC (c : Cl) : Nat := wl c.1 + wl c.2
theorem wl_app (l m : List Sy) : wl (l ++ m) = wl l + wl m := by unfold wl; rw [List.map_append, List.sum_append]
theorem wl_set (l : List Sy) : wl (setS l) ≤ wl l := sum_sub cn (setS_nd l) fun _ h => setS_iff.mp h
theorem wC_mk (l r : List Sy) : wC (mkC l r) ≤ wl l + wl r := by
  have := wl_set l; have := wl_set r
  show wl (setS l) + wl (setS r) ≤ _
  omega
theorem wl_wo {l : List Sy} {s : Sy} (nd : l.Nodup) (h : s ∈ l) : wl l = cn s + wl (wo l s) := by
  unfold wl
  rw [sum_erase cn h]
  have : l.erase s = wo l s := by
    unfold wo
    rw [List.Nodup.erase_eq_filter nd]
    exact List.filter_congr fun x _ => by rw [Bool.eq_iff_iff]; simp
  rw [this]
/-- a set of sayings with all their parts -/
structure UQ (Q : List Sy) : Prop where
  kid : ∀ s ∈ Q, ∀ x ∈ s.kids, x ∈ Q
  ht : ∀ s ∈ Q, s.ht ≤ 149
  sz : ∀ s ∈ Q, s.size ≤ 200
  rise : Rise Q
  len : Q.length ≤ 200
/-- a claim told sorted, of these sayings -/
structure WF (Q : List Sy) (c : Cl) : Prop where
  r1 : Rise c.1
  r2 : Rise c.2
  q1 : ∀ s ∈ c.1, s ∈ Q
  q2 : ∀ s ∈ c.2, s ∈ Q
theorem WF.mk' {Q l r : List Sy} (h1 : ∀ s ∈ l, s ∈ Q) (h2 : ∀ s ∈ r, s ∈ Q) : WF Q (mkC l r) := ⟨setS_rise l, setS_rise r, fun s hs => h1 s (setS_iff.mp hs), fun s hs => h2 s (setS_iff.mp hs)⟩
theorem WF.eq {Q : List Sy} {c : Cl} (h : WF Q c) : mkC c.1 c.2 = c := by unfold mkC; rw [setS_fix h.r1, setS_fix h.r2]
/-- how many shown sayings are not known -/
def ups (Q : List Sy) (c : Cl) : Nat := (Q.filter fun s => isShown s && !decide (s ∈ c.1)).length
theorem ups_le {Q : List Sy} (nd : Q.Nodup) {c d : Cl} (h : ∀ s, isShown s = true → s ∈ c.1 → s ∈ d.1) : ups Q d ≤ ups Q c := by
  unfold ups
  refine len_sub (nd.filter _) fun s hs => ?_
  rw [List.mem_filter] at hs ⊢
  simp only [Bool.and_eq_true, Bool.not_eq_true', decide_eq_false_iff_not] at hs ⊢
  exact ⟨hs.1, hs.2.1, fun z => hs.2.2 (h s hs.2.1 z)⟩
theorem ups_lt {Q : List Sy} (nd : Q.Nodup) {c d : Cl} (h : ∀ s, isShown s = true → s ∈ c.1 → s ∈ d.1) {t : Sy} (ht : isShown t = true) (hq : t ∈ Q) (hc : t ∉ c.1) (hd : t ∈ d.1) : ups Q d + 1 ≤ ups Q c := by
  unfold ups
  have h1 : t ∈ Q.filter fun s => isShown s && !decide (s ∈ c.1) := by rw [List.mem_filter]; simp [ht, hq, hc]
  have h2 := sum_erase (fun _ => 1) h1
  have h3 := len_sub (l := Q.filter fun s => isShown s && !decide (s ∈ d.1)) (m := (Q.filter fun s => isShown s && !decide (s ∈ c.1)).erase t) (nd.filter _) (fun x hx => by
    rw [List.mem_filter] at hx
    obtain ⟨x1, x2⟩ := hx
    simp only [Bool.and_eq_true, Bool.not_eq_true', decide_eq_false_iff_not] at x2
    rw [List.mem_erase_of_ne (fun (e : x = t) => x2.2 (e ▸ hd)), List.mem_filter]
    simp only [Bool.and_eq_true, Bool.not_eq_true', decide_eq_false_iff_not]
    exact ⟨x1, x2.1, fun z => x2.2 (h x x2.1 z)⟩)
  rw [sum1, sum1] at h2
  omega
/-- what is first taken apart -/
def first (c : Cl) : Option (Rl × Sy) := match c.1.find? brk with
  | some s => some (.left, s)
  | none => match c.2.find? brk with
    | some s => some (.right, s)
    | none => none
theorem first_need {c : Cl} {r : Rl} {s : Sy} (h : first c = some (r, s)) : brk s = true ∧ ((r = .left ∧ s ∈ c.1) ∨ (r = .right ∧ s ∈ c.2)) := by
  unfold first at h
  cases e : c.1.find? brk with
  | some x =>
    rw [e] at h
    cases h
    exact ⟨List.find?_some e, .inl ⟨rfl, List.mem_of_find?_eq_some e⟩⟩
  | none =>
    rw [e] at h
    dsimp only at h
    cases e2 : c.2.find? brk with
    | some x =>
      rw [e2] at h
      cases h
      exact ⟨List.find?_some e2, .inr ⟨rfl, List.mem_of_find?_eq_some e2⟩⟩
    | none => rw [e2] at h; cases h
/-- what is needed of a saying taken apart: at most two claims, each lighter, nothing that is known forgotten -/
theorem need_brk {Q : List Sy} (u : UQ Q) {c : Cl} (W : WF Q c) {r : Rl} {s : Sy} (hb : brk s = true) (h : (r = .left ∧ s ∈ c.1) ∨ (r = .right ∧ s ∈ c.2)) :
    ∃ cs, need c r s = some cs ∧ cs.length ≤ 2 ∧ cs ≠ [] ∧ ∀ d ∈ cs, WF Q d ∧ wC d + 1 ≤ wC c ∧ ∀ x, isShown x = true → x ∈ c.1 → x ∈ d.1 := by
  obtain ⟨l, rr⟩ := c
  have q1 : ∀ x ∈ l, x ∈ Q := W.q1
  have q2 : ∀ x ∈ rr, x ∈ Q := W.q2
  have app1 : ∀ {l : List Sy} {a : Sy}, (∀ x ∈ l, x ∈ Q) → a ∈ Q → ∀ x ∈ l ++ [a], x ∈ Q := fun h ha x hx => by
    rcases List.mem_append.mp hx with z | z
    · exact h x z
    · rw [List.mem_singleton] at z; subst z; exact ha
  have app2 : ∀ {l : List Sy} {a b : Sy}, (∀ x ∈ l, x ∈ Q) → a ∈ Q → b ∈ Q → ∀ x ∈ l ++ [a, b], x ∈ Q := fun h ha hb x hx => by
    rcases List.mem_append.mp hx with z | z
    · exact h x z
    · simp only [List.mem_cons, List.not_mem_nil, or_false] at z
      rcases z with rfl | rfl
      · exact ha
      · exact hb
  have w1 : ∀ a : Sy, wl [a] = cn a := fun a => by simp [wl]
  have w2 : ∀ a b : Sy, wl [a, b] = cn a + cn b := fun a b => by simp [wl]
  have sh : ∀ {x : Sy}, isShown x = true → brk s = true → x ≠ s := fun {x} hx hb e => by subst e; cases x <;> simp [brk, isShown] at hx hb
  rcases h with ⟨rfl, h⟩ | ⟨rfl, h⟩
  · have h : s ∈ l := h
    have hw : wl l = cn s + wl (wo l s) := wl_wo (rise_ndS W.r1) h
    have qo : ∀ x ∈ wo l s, x ∈ Q := fun x hx => q1 x (wo_iff.mp hx).1
    have ko : ∀ {x : Sy}, isShown x = true → x ∈ l → x ∈ wo l s := fun hx hl => wo_iff.mpr ⟨hl, sh hx hb⟩
    have hwc : wC (l, rr) = wl l + wl rr := rfl
    have one : ∀ {p q : List Sy}, (∀ x ∈ p, x ∈ Q) → (∀ x ∈ q, x ∈ Q) → wl p + wl q + 1 ≤ wl l + wl rr → (∀ x, x ∈ wo l s → x ∈ p) → WF Q (mkC p q) ∧ wC (mkC p q) + 1 ≤ wC (l, rr) ∧ ∀ x, isShown x = true → x ∈ l → x ∈ (mkC p q).1 := fun h1 h2 h3 h4 =>
      ⟨.mk' h1 h2, by rw [hwc]; exact Nat.le_trans (Nat.add_le_add_right (wC_mk _ _) 1) h3, fun x hx hl => setS_iff.mpr (h4 x (ko hx hl))⟩
    cases s with
    | no => cases hb
    | lt a => cases hb
    | shown a => cases hb
    | not a =>
      have ha : a ∈ Q := u.kid _ (q1 _ h) a (by simp [Sy.kids])
      refine ⟨[mkC (wo l (.not a)) (rr ++ [a])], by unfold need; dsimp only; rw [if_pos h]; rfl, by simp, by simp, fun d hd => ?_⟩
      rw [List.mem_singleton] at hd; subst hd
      exact one qo (app1 q2 ha) (by rw [wl_app, w1]; simp only [cn] at hw; omega) fun x hx => hx
    | bin o a b =>
      have ha : a ∈ Q := u.kid _ (q1 _ h) a (by simp [Sy.kids])
      have hb2 : b ∈ Q := u.kid _ (q1 _ h) b (by simp [Sy.kids])
      simp only [cn] at hw
      cases o with
      | and =>
        refine ⟨[mkC (wo l (.bin .and a b) ++ [a, b]) rr], by unfold need; dsimp only; rw [if_pos h]; rfl, by simp, by simp, fun d hd => ?_⟩
        rw [List.mem_singleton] at hd; subst hd
        exact one (app2 qo ha hb2) q2 (by rw [wl_app, w2]; omega) fun x hx => List.mem_append_left _ hx
      | or =>
        refine ⟨[mkC (wo l (.bin .or a b) ++ [a]) rr, mkC (wo l (.bin .or a b) ++ [b]) rr], by unfold need; dsimp only; rw [if_pos h]; rfl, by simp, by simp, fun d hd => ?_⟩
        simp only [List.mem_cons, List.not_mem_nil, or_false] at hd
        rcases hd with rfl | rfl
        · exact one (app1 qo ha) q2 (by rw [wl_app, w1]; omega) fun x hx => List.mem_append_left _ hx
        · exact one (app1 qo hb2) q2 (by rw [wl_app, w1]; omega) fun x hx => List.mem_append_left _ hx
      | iff =>
        refine ⟨[mkC (wo l (.bin .iff a b)) (rr ++ [a]), mkC (wo l (.bin .iff a b) ++ [b]) rr], by unfold need; dsimp only; rw [if_pos h]; rfl, by simp, by simp, fun d hd => ?_⟩
        simp only [List.mem_cons, List.not_mem_nil, or_false] at hd
        rcases hd with rfl | rfl
        · exact one qo (app1 q2 ha) (by rw [wl_app, w1]; omega) fun x hx => hx
        · exact one (app1 qo hb2) q2 (by rw [wl_app, w1]; omega) fun x hx => List.mem_append_left _ hx
  · have h : s ∈ rr := h
    have hw : wl rr = cn s + wl (wo rr s) := wl_wo (rise_ndS W.r2) h
    have qo : ∀ x ∈ wo rr s, x ∈ Q := fun x hx => q2 x (wo_iff.mp hx).1
    have hwc : wC (l, rr) = wl l + wl rr := rfl
    have one : ∀ {p q : List Sy}, (∀ x ∈ p, x ∈ Q) → (∀ x ∈ q, x ∈ Q) → wl p + wl q + 1 ≤ wl l + wl rr → (∀ x, x ∈ l → x ∈ p) → WF Q (mkC p q) ∧ wC (mkC p q) + 1 ≤ wC (l, rr) ∧ ∀ x, isShown x = true → x ∈ l → x ∈ (mkC p q).1 := fun h1 h2 h3 h4 =>
      ⟨.mk' h1 h2, by rw [hwc]; exact Nat.le_trans (Nat.add_le_add_right (wC_mk _ _) 1) h3, fun x hx hl => setS_iff.mpr (h4 x hl)⟩
    cases s with
    | no => cases hb
    | lt a => cases hb
    | shown a => cases hb
    | not a =>
      have ha : a ∈ Q := u.kid _ (q2 _ h) a (by simp [Sy.kids])
      refine ⟨[mkC (l ++ [a]) (wo rr (.not a))], by unfold need; dsimp only; rw [if_pos h]; rfl, by simp, by simp, fun d hd => ?_⟩
      rw [List.mem_singleton] at hd; subst hd
      exact one (app1 q1 ha) qo (by rw [wl_app, w1]; simp only [cn] at hw; omega) fun x hx => List.mem_append_left _ hx
    | bin o a b =>
      have ha : a ∈ Q := u.kid _ (q2 _ h) a (by simp [Sy.kids])
      have hb2 : b ∈ Q := u.kid _ (q2 _ h) b (by simp [Sy.kids])
      simp only [cn] at hw
      cases o with
      | and =>
        refine ⟨[mkC l (wo rr (.bin .and a b) ++ [a]), mkC l (wo rr (.bin .and a b) ++ [b])], by unfold need; dsimp only; rw [if_pos h]; rfl, by simp, by simp, fun d hd => ?_⟩
        simp only [List.mem_cons, List.not_mem_nil, or_false] at hd
        rcases hd with rfl | rfl
        · exact one q1 (app1 qo ha) (by rw [wl_app, w1]; omega) fun x hx => hx
        · exact one q1 (app1 qo hb2) (by rw [wl_app, w1]; omega) fun x hx => hx
      | or =>
        refine ⟨[mkC l (wo rr (.bin .or a b) ++ [a, b])], by unfold need; dsimp only; rw [if_pos h]; rfl, by simp, by simp, fun d hd => ?_⟩
        rw [List.mem_singleton] at hd; subst hd
        exact one q1 (app2 qo ha hb2) (by rw [wl_app, w2]; omega) fun x hx => hx
      | iff =>
        refine ⟨[mkC (l ++ [a]) (wo rr (.bin .iff a b) ++ [b])], by unfold need; dsimp only; rw [if_pos h]; rfl, by simp, by simp, fun d hd => ?_⟩
        rw [List.mem_singleton] at hd; subst hd
        exact one (app1 q1 ha) (app1 qo hb2) (by rw [wl_app, wl_app, w1, w1]; omega) fun x hx => List.mem_append_left _ hx

/-- the claims met where sayings are taken apart -/
def lvl : Nat → Cl → List Cl
  | 0, c => [c]
  | n + 1, c => c :: (match first c with
    | none => []
    | some (r, s) => match need c r s with
      | some cs => cs.flatMap (lvl n)
      | none => [])
theorem lvl_self (n : Nat) (c : Cl) : c ∈ lvl n c := by cases n <;> simp [lvl]
/-- the children of a claim that is taken apart -/
theorem lvl_mem {n : Nat} {c d : Cl} : d ∈ lvl (n + 1) c ↔ d = c ∨ ∃ r s cs, first c = some (r, s) ∧ need c r s = some cs ∧ ∃ e ∈ cs, d ∈ lvl n e := by
  rw [lvl, List.mem_cons]
  constructor
  · rintro (h | h)
    · exact .inl h
    · right
      cases e : first c with
      | none => rw [e] at h; cases h
      | some p =>
        obtain ⟨r, s⟩ := p
        rw [e] at h
        dsimp only at h
        cases e2 : need c r s with
        | none => rw [e2] at h; cases h
        | some cs =>
          rw [e2] at h
          obtain ⟨x, hx, hd⟩ := List.mem_flatMap.mp h
          exact ⟨r, s, cs, rfl, e2, x, hx, hd⟩
  · rintro (h | ⟨r, s, cs, e, e2, x, hx, hd⟩)
    · exact .inl h
    · right
      rw [e]; dsimp only; rw [e2]
      exact List.mem_flatMap.mpr ⟨x, hx, hd⟩
section
variable {Q : List Sy} (u : UQ Q)
include u
theorem brk_kids {c : Cl} (W : WF Q c) {r : Rl} {s : Sy} (h : first c = some (r, s)) : ∃ cs, need c r s = some cs ∧ cs.length ≤ 2 ∧ cs ≠ [] ∧ ∀ d ∈ cs, WF Q d ∧ wC d + 1 ≤ wC c ∧ ∀ x, isShown x = true → x ∈ c.1 → x ∈ d.1 := by
  obtain ⟨h1, h2⟩ := first_need h
  exact need_brk u W h1 h2
theorem lvl_wf : ∀ (n : Nat) (c : Cl), WF Q c → ∀ d ∈ lvl n c, WF Q d
  | 0, c, W, d, h => by simp [lvl] at h; subst h; exact W
  | n + 1, c, W, d, h => by
    rcases lvl_mem.mp h with rfl | ⟨r, s, cs, e, e2, x, hx, hd⟩
    · exact W
    · obtain ⟨cs', h1, _, _, h3⟩ := brk_kids u W e
      rw [e2] at h1; cases h1
      exact lvl_wf n x (h3 x hx).1 d hd
theorem lvl_cl : ∀ (n : Nat) (c : Cl), WF Q c → wC c ≤ n → ∀ d ∈ lvl n c, ∀ {r s cs}, first d = some (r, s) → need d r s = some cs → ∀ e ∈ cs, e ∈ lvl n c
  | 0, c, W, hw, d, hd, r, s, cs, e1, e2, e, he => by
    simp [lvl] at hd; subst hd
    obtain ⟨cs', h1, _, _, h3⟩ := brk_kids u W e1
    rw [e2] at h1; cases h1
    have := (h3 e he).2.1
    omega
  | n + 1, c, W, hw, d, hd, r, s, cs, e1, e2, e, he => by
    rcases lvl_mem.mp hd with rfl | ⟨r', s', cs', f1, f2, x, hx, hd⟩
    · exact lvl_mem.mpr (.inr ⟨r, s, cs, e1, e2, e, he, lvl_self n e⟩)
    · obtain ⟨cs'', h1, _, _, h3⟩ := brk_kids u W f1
      rw [f2] at h1; cases h1
      obtain ⟨k1, k2, _⟩ := h3 x hx
      exact lvl_mem.mpr (.inr ⟨r', s', cs', f1, f2, x, hx, lvl_cl n x k1 (by omega) d hd e1 e2 e he⟩)
end
def subl : List Sy → List (List Sy)
  | [] => [[]]
  | a :: l => subl l ++ (subl l).map (a :: ·)
theorem subl_filter (p : Sy → Bool) : ∀ l : List Sy, l.filter p ∈ subl l
  | [] => by simp [subl]
  | a :: l => by
    rw [subl, List.mem_append, List.filter_cons]
    cases p a with
    | true => exact .inr (List.mem_map.mpr ⟨_, subl_filter p l, rfl⟩)
    | false => exact .inl (by simpa using subl_filter p l)
theorem subl_sub : ∀ {l T : List Sy}, T ∈ subl l → T.Sublist l
  | [], T, h => by simp [subl] at h; subst h; exact List.Sublist.refl _
  | a :: l, T, h => by
    rw [subl, List.mem_append] at h
    rcases h with h | h
    · exact (subl_sub h).cons a
    · obtain ⟨T', h', rfl⟩ := List.mem_map.mp h
      exact (subl_sub h').cons₂ a
def SL (Q : List Sy) : List Sy := Q.filter isShown
def upc (T : List Sy) (s : Sy) : Cl := mkC (s :: T.flatMap known1) [kidS s]
def UC (Q : List Sy) : List Cl := (subl (SL Q)).flatMap fun T => ((SL Q).filter fun s => !decide (s ∈ T)).map (upc T)
def SPw (Q : List Sy) : Nat := ((SL Q).map fun s => cn (kidS s)).sum
def RC (Q : List Sy) (c0 : Cl) : List Cl := lvl (wC c0) c0 ++ (UC Q).flatMap fun v => lvl (wC v) v
def mu (Q : List Sy) (c : Cl) : Nat := ups Q c * (SPw Q + 1) + wC c
theorem known_filter : ∀ l : List Sy, (l.filter isShown).flatMap known1 = l.flatMap known1
  | [] => rfl
  | s :: l => by
    rw [List.filter_cons, List.flatMap_cons]
    cases s with
    | shown a => rw [if_pos (show isShown (.shown a) = true from rfl), List.flatMap_cons, known_filter l]
    | no => rw [if_neg (by simp [isShown]), known_filter l]; rfl
    | lt m => rw [if_neg (by simp [isShown]), known_filter l]; rfl
    | not a => rw [if_neg (by simp [isShown]), known_filter l]; rfl
    | bin o a b => rw [if_neg (by simp [isShown]), known_filter l]; rfl
theorem wl_known : ∀ {T : List Sy}, (∀ s ∈ T, isShown s = true) → wl (T.flatMap known1) = (T.map fun s => cn (kidS s)).sum
  | [], _ => rfl
  | s :: T, h => by
    rw [List.flatMap_cons, wl_app, List.map_cons, List.sum_cons, wl_known fun x hx => h x (by simp [hx])]
    have := h s (by simp)
    cases s with
    | shown a => simp [known1, wl, cn, kidS]
    | _ => simp [isShown] at this
section
variable {Q : List Sy} (u : UQ Q)
include u
theorem UC_mem {v : Cl} (h : v ∈ UC Q) : ∃ T s, v = upc T s ∧ T.Nodup ∧ (∀ x ∈ T, x ∈ SL Q) ∧ s ∈ SL Q ∧ s ∉ T := by
  unfold UC at h
  obtain ⟨T, hT, h⟩ := List.mem_flatMap.mp h
  obtain ⟨s, hs, rfl⟩ := List.mem_map.mp h
  rw [List.mem_filter] at hs
  have := subl_sub hT
  exact ⟨T, s, rfl, this.nodup ((rise_ndS u.rise).filter _), fun x hx => this.subset hx, hs.1, by simpa using hs.2⟩
theorem SL_mem {s : Sy} : s ∈ SL Q ↔ s ∈ Q ∧ isShown s = true := List.mem_filter
theorem kid_mem {s : Sy} (h : s ∈ SL Q) : kidS s ∈ Q := by
  obtain ⟨h1, h2⟩ := List.mem_filter.mp h
  cases s with
  | shown a => exact u.kid _ h1 a (by simp [Sy.kids])
  | _ => simp [isShown] at h2
theorem known_mem {T : List Sy} (h : ∀ x ∈ T, x ∈ Q) : ∀ x ∈ T.flatMap known1, x ∈ Q := fun x hx => by
  obtain ⟨a, ha, e⟩ := known_iff.mp hx
  rcases e with rfl | rfl
  · exact h _ ha
  · exact u.kid _ (h _ ha) _ (by simp [Sy.kids])
theorem UC_wf {v : Cl} (h : v ∈ UC Q) : WF Q v ∧ wC v ≤ SPw Q := by
  obtain ⟨T, s, rfl, nd, hT, hs, hn⟩ := UC_mem u h
  have hsQ := List.mem_filter.mp hs
  refine ⟨.mk' (fun x hx => ?_) (fun x hx => ?_), ?_⟩
  · rcases List.mem_cons.mp hx with rfl | hx
    · exact hsQ.1
    · exact known_mem u (fun y hy => (List.mem_filter.mp (hT y hy)).1) x hx
  · rw [List.mem_singleton] at hx; subst hx; exact kid_mem u hs
  · have h1 := wC_mk (s :: T.flatMap known1) [kidS s]
    have h2 : wl (s :: T.flatMap known1) = cn s + wl (T.flatMap known1) := by unfold wl; rw [List.map_cons, List.sum_cons]
    have h3 : wl [kidS s] = cn (kidS s) := by simp [wl]
    have h4 : cn s = 0 := by
      have := hsQ.2
      cases s <;> simp [isShown] at this <;> rfl
    have h5 := wl_known (T := T) fun x hx => (List.mem_filter.mp (hT x hx)).2
    have h6 := sum_sub (fun s => cn (kidS s)) (l := s :: T) (m := SL Q) (List.nodup_cons.mpr ⟨hn, nd⟩) (fun x hx => by
      rcases List.mem_cons.mp hx with rfl | hx
      · exact hs
      · exact hT x hx)
    rw [List.map_cons, List.sum_cons] at h6
    show wC (mkC _ _) ≤ ((SL Q).map fun s => cn (kidS s)).sum
    omega
theorem RC_wf {c0 : Cl} (W : WF Q c0) {c : Cl} (h : c ∈ RC Q c0) : WF Q c := by
  rcases List.mem_append.mp h with h | h
  · exact lvl_wf u _ _ W c h
  · obtain ⟨v, hv, h⟩ := List.mem_flatMap.mp h
    exact lvl_wf u _ _ (UC_wf u hv).1 c h
theorem RC_brk {c0 : Cl} (W : WF Q c0) {c : Cl} (h : c ∈ RC Q c0) {r : Rl} {s : Sy} {cs : List Cl} (e1 : first c = some (r, s)) (e2 : need c r s = some cs) : ∀ e ∈ cs, e ∈ RC Q c0 := fun e he => by
  rcases List.mem_append.mp h with h | h
  · exact List.mem_append_left _ (lvl_cl u _ _ W (Nat.le_refl _) c h e1 e2 e he)
  · obtain ⟨v, hv, h⟩ := List.mem_flatMap.mp h
    exact List.mem_append_right _ (List.mem_flatMap.mpr ⟨v, hv, lvl_cl u _ _ (UC_wf u hv).1 (Nat.le_refl _) c h e1 e2 e he⟩)
theorem RC_up {c0 c : Cl} (W : WF Q c) {a : Sy} (h1 : Sy.shown a ∈ c.2) (h2 : Sy.shown a ∉ c.1) : mkC (.shown a :: c.1.flatMap known1) [a] ∈ RC Q c0 := by
  have e : c.1.filter isShown = (SL Q).filter fun s => decide (s ∈ c.1) := by
    refine rise_ext (rise_filter _ W.r1) (rise_filter _ (rise_filter _ u.rise)) fun s => ?_
    rw [List.mem_filter, List.mem_filter, SL_mem u, decide_eq_true_eq]
    exact ⟨fun ⟨x, y⟩ => ⟨⟨W.q1 s x, y⟩, x⟩, fun ⟨⟨_, y⟩, x⟩ => ⟨x, y⟩⟩
  have hv : upc (c.1.filter isShown) (.shown a) ∈ UC Q := by
    unfold UC
    refine List.mem_flatMap.mpr ⟨c.1.filter isShown, by rw [e]; exact subl_filter _ _, List.mem_map.mpr ⟨.shown a, ?_, rfl⟩⟩
    rw [List.mem_filter, SL_mem u]
    exact ⟨⟨W.q2 _ h1, rfl⟩, by simp [h2]⟩
  have e2 : upc (c.1.filter isShown) (.shown a) = mkC (.shown a :: c.1.flatMap known1) [a] := by unfold upc; rw [known_filter]; rfl
  rw [← e2]
  exact List.mem_append_right _ (List.mem_flatMap.mpr ⟨_, hv, lvl_self _ _⟩)
theorem mu_brk {c d : Cl} (h1 : wC d + 1 ≤ wC c) (h2 : ∀ x, isShown x = true → x ∈ c.1 → x ∈ d.1) : mu Q d + 1 ≤ mu Q c ∧ ups Q d ≤ ups Q c := by
  have := ups_le (rise_ndS u.rise) h2
  have h3 : ups Q d * (SPw Q + 1) ≤ ups Q c * (SPw Q + 1) := Nat.mul_le_mul_right _ this
  unfold mu
  omega
theorem mu_up {c : Cl} (W : WF Q c) {a : Sy} (h1 : Sy.shown a ∈ c.2) (h2 : Sy.shown a ∉ c.1) : mu Q (mkC (.shown a :: c.1.flatMap known1) [a]) + 1 ≤ mu Q c ∧ ups Q (mkC (.shown a :: c.1.flatMap known1) [a]) + 1 ≤ ups Q c ∧ WF Q (mkC (.shown a :: c.1.flatMap known1) [a]) := by
  have hv : upc (c.1.filter isShown) (.shown a) ∈ UC Q := by
    have e : c.1.filter isShown = (SL Q).filter fun s => decide (s ∈ c.1) := by
      refine rise_ext (rise_filter _ W.r1) (rise_filter _ (rise_filter _ u.rise)) fun s => ?_
      rw [List.mem_filter, List.mem_filter, SL_mem u, decide_eq_true_eq]
      exact ⟨fun ⟨x, y⟩ => ⟨⟨W.q1 s x, y⟩, x⟩, fun ⟨⟨_, y⟩, x⟩ => ⟨x, y⟩⟩
    unfold UC
    refine List.mem_flatMap.mpr ⟨c.1.filter isShown, by rw [e]; exact subl_filter _ _, List.mem_map.mpr ⟨.shown a, ?_, rfl⟩⟩
    rw [List.mem_filter, SL_mem u]
    exact ⟨⟨W.q2 _ h1, rfl⟩, by simp [h2]⟩
  have e2 : upc (c.1.filter isShown) (.shown a) = mkC (.shown a :: c.1.flatMap known1) [a] := by unfold upc; rw [known_filter]; rfl
  obtain ⟨k1, k2⟩ := UC_wf u hv
  rw [e2] at k1 k2
  have hu := ups_lt (rise_ndS u.rise) (c := c) (d := mkC (.shown a :: c.1.flatMap known1) [a]) (fun s hs hc => setS_iff.mpr (by
    cases s with
    | shown b => exact List.mem_cons_of_mem _ (known_iff.mpr ⟨b, hc, .inl rfl⟩)
    | _ => simp [isShown] at hs)) (t := .shown a) rfl (W.q2 _ h1) h2 (setS_iff.mpr (by simp))
  refine ⟨?_, hu, k1⟩
  have h3 : (ups Q (mkC (.shown a :: c.1.flatMap known1) [a]) + 1) * (SPw Q + 1) ≤ ups Q c * (SPw Q + 1) := Nat.mul_le_mul_right _ hu
  rw [Nat.add_mul] at h3
  unfold mu
  omega
end
/-- how many rooms a tree may have -/
def NN : Nat → Nat
  | 0 => 1
  | n + 1 => 1 + (n + 1) * NN n
theorem NN_succ (n : Nat) : NN n ≤ NN (n + 1) := by
  have : 1 * NN n ≤ (n + 1) * NN n := Nat.mul_le_mul_right _ (by omega)
  rw [NN]; omega
theorem NN_mono {m : Nat} : ∀ {n : Nat}, m ≤ n → NN m ≤ NN n
  | 0, h => by have : m = 0 := by omega
               subst this; exact Nat.le_refl _
  | n + 1, h => by
    rcases Nat.lt_or_ge m (n + 1) with z | z
    · exact Nat.le_trans (NN_mono (n := n) (by omega)) (NN_succ n)
    · have : m = n + 1 := by omega
      subst this; exact Nat.le_refl _
theorem tszs_le {n : Nat} : ∀ {ts : List Tr}, (∀ t ∈ ts, tsz t ≤ n) → tszs ts ≤ ts.length * n
  | [], _ => by simp [tszs]
  | t :: ts, h => by
    rw [tszs, List.length_cons, Nat.add_mul]
    have := h t (by simp)
    have := tszs_le (ts := ts) fun x hx => h x (by simp [hx])
    omega

structure Stp where
  c : Cl
  r : Rl
  s : Sy
  us : List Nat
def stpU (x : Stp) : U := .tup [.lst (x.c.1.map su), .lst (x.c.2.map su), .str x.r.s, su x.s, .lst (x.us.map fun n => .int (n : Nat))]
/-- the steps are a showing, each by what stands ahead of it -/
def Good (S : List Stp) : Prop := ∀ (i : Nat) (x : Stp), S[i]? = some x → mkC x.c.1 x.c.2 = x.c ∧ ∃ cs, need x.c x.r x.s = some cs ∧ x.us.length = cs.length ∧ ∀ (j : Nat) (d : Cl), cs[j]? = some d → ∃ (n : Nat) (y : Stp), x.us[j]? = some n ∧ n < i ∧ S[n]? = some y ∧ y.c = d
inductive Rz where
  | st (n : Nat)
  | tr (t : Tr)
def rzU : Rz → U
  | .st n => .tup [.int (n : Nat), .non]
  | .tr t => .tup [.non, trU t]
noncomputable def memoU (E : List (Cl × Rz)) : Dc := (E.map fun e => (Sum.inr (rpC e.1) : Key), E.map fun e => rzU e.2)
theorem memo_look (E : List (Cl × Rz)) (c : Cl) : uLook (memoU E).1 (memoU E).2 (.inr (rpC c)) = (E.find? fun e => decide (e.1 = c)).map fun e => rzU e.2 := by
  unfold uLook memoU
  rw [List.zip_map', List.find?_map, Option.map_map]
  congr 1
  congr 1
  funext e
  show decide ((Sum.inr (rpC e.1) : Key) = Sum.inr (rpC c)) = decide (e.1 = c)
  rw [Bool.eq_iff_iff, decide_eq_true_eq, decide_eq_true_eq]
  exact ⟨fun h => rpC_inj (Sum.inr.inj h), fun h => by rw [h]⟩
theorem memo_in (E : List (Cl × Rz)) (c : Cl) : inM (.str (rpC c)) (.dic (memoU E).1 (memoU E).2) = .ok (decide (c ∈ E.map (·.1))) := by
  show M.ok (uLook _ _ (.inr (rpC c))).isSome = _
  rw [memo_look, Option.isSome_map]
  congr 1
  rw [Bool.eq_iff_iff, decide_eq_true_eq, List.find?_isSome, List.mem_map]
  simp
theorem memo_ix {E : List (Cl × Rz)} (nd : (E.map (·.1)).Nodup) {c : Cl} {r : Rz} (h : (c, r) ∈ E) : ixdM (.dic (memoU E).1 (memoU E).2) (.str (rpC c)) = .ok (rzU r) := by
  have e : E.find? (fun e => decide (e.1 = c)) = some (c, r) := by
    induction E with
    | nil => cases h
    | cons a E ih =>
      rw [List.map_cons, List.nodup_cons] at nd
      rw [List.find?_cons]
      rcases List.mem_cons.mp h with rfl | h
      · simp
      · have : a.1 ≠ c := fun e => nd.1 (List.mem_map.mpr ⟨_, h, e.symm⟩)
        rw [decide_eq_false this]
        exact ih nd.2 h
  show (match uLook _ _ (.inr (rpC c)) with | some u => M.ok u | none => .stuck) = _
  rw [memo_look, e]; rfl
theorem memo_put {E : List (Cl × Rz)} {c : Cl} {r : Rz} (hn : c ∉ E.map (·.1)) (hl : E.length < 10000000) : putM (memoU E) (.str (rpC c)) (rzU r) = .ok (memoU (E ++ [(c, r)])) := by
  have hk : hasK (memoU E).1 (.inr (rpC c)) = false := by
    unfold hasK memoU
    rw [List.any_map, List.any_eq_false]
    intro e he
    simp only [Function.comp, decide_eq_true_eq]
    exact fun h => hn (List.mem_map.mpr ⟨e, he, rpC_inj (Sum.inr.inj h)⟩)
  show sz (memoU E).1.length (M.ok (putKs (memoU E).1 (.inr (rpC c)), putDs (memoU E).1 (memoU E).2 (.inr (rpC c)) (rzU r))) = _
  rw [sz_ok (by unfold memoU; rw [List.length_map]; exact hl)]
  unfold putKs putDs
  rw [hk, if_neg (by simp), if_neg (by simp)]
  unfold memoU
  simp
section
variable {Q : List Sy}
/-- what is found for a claim is right -/
def Right (Q : List Sy) (S : List Stp) : Rz → Cl → Prop
  | .st n, c => ∃ x : Stp, S[n]? = some x ∧ x.c = c
  | .tr t, c => clt t c = false ∧ hgt t ≤ ups Q c + 1 ∧ tsz t ≤ NN (ups Q c)
theorem pre_getS {S S' : List Stp} (p : S <+: S') {n : Nat} {x : Stp} (h : S[n]? = some x) : S'[n]? = some x := by
  obtain ⟨t, rfl⟩ := p
  rw [List.getElem?_append_left (List.getElem?_eq_some_iff.mp h).1]; exact h
theorem Right.mono {S S' : List Stp} (p : S <+: S') {r : Rz} {c : Cl} (h : Right Q S r c) : Right Q S' r c := by
  cases r with
  | st n => obtain ⟨x, h1, h2⟩ := h; exact ⟨x, pre_getS p h1, h2⟩
  | tr t => exact h
/-- what stands fast while a search goes on -/
structure SI (Q : List Sy) (R : List Cl) (S : List Stp) (E : List (Cl × Rz)) : Prop where
  good : Good S
  nd : (E.map (·.1)).Nodup
  inR : ∀ e ∈ E, e.1 ∈ R
  right : ∀ e ∈ E, Right Q S e.2 e.1
  len : S.length ≤ E.length
  wf : ∀ x ∈ S, WF Q x.c
theorem SI.elen {R : List Cl} {S : List Stp} {E : List (Cl × Rz)} (h : SI Q R S E) : E.length ≤ R.length := by
  have := len_sub h.nd (m := R) fun c hc => by
    obtain ⟨e, he, rfl⟩ := List.mem_map.mp hc
    exact h.inR e he
  rwa [List.length_map] at this
theorem Good.snoc {S : List Stp} (g : Good S) {x : Stp} (h0 : mkC x.c.1 x.c.2 = x.c) {cs : List Cl} (h1 : need x.c x.r x.s = some cs) (h2 : x.us.length = cs.length) (h3 : ∀ (j : Nat) (d : Cl), cs[j]? = some d → ∃ (n : Nat) (y : Stp), x.us[j]? = some n ∧ S[n]? = some y ∧ y.c = d) : Good (S ++ [x]) := by
  intro i y hy
  by_cases hi : i < S.length
  · rw [List.getElem?_append_left hi] at hy
    obtain ⟨g0, cs', g1, g2, g3⟩ := g i y hy
    exact ⟨g0, cs', g1, g2, fun j d hd => by
      obtain ⟨n, z, k1, k2, k3, k4⟩ := g3 j d hd
      exact ⟨n, z, k1, k2, pre_getS (List.prefix_append _ _) k3, k4⟩⟩
  · rw [List.getElem?_append_right (by omega)] at hy
    have hi2 : i - S.length = 0 := by
      cases e : i - S.length with
      | zero => rfl
      | succ n => rw [e] at hy; simp at hy
    rw [hi2] at hy
    simp at hy; subst hy
    refine ⟨h0, cs, h1, h2, fun j d hd => ?_⟩
    obtain ⟨n, z, k1, k2, k3⟩ := h3 j d hd
    have := (List.getElem?_eq_some_iff.mp k2).1
    exact ⟨n, z, k1, by omega, pre_getS (List.prefix_append _ _) k2, k3⟩
theorem told_ok {k : Nat} {c : Cl} {r : Rl} {s : Sy} {us : List Nat} {S : List Stp} {md : Dc} (hl : S.length < 10000000) : sh_Search_told (k + 1) [clU c, .str r.s, su s, .lst (us.map fun n => .int (n : Nat))] (S.map stpU) md = .ok (rzU (.st S.length), (S ++ [(⟨c, r, s, us⟩ : Stp)]).map stpU, md) := by
  rw [sh_Search_told]
  unfold clU
  rw [ix_t0, M.bind_ok, listM_lst, M.bind_ok, ix_t1, M.bind_ok, listM_lst, M.bind_ok, appM_ok (by rw [List.length_map]; exact hl), M.bind_ok, lenM_lst, M.bind_ok, subM_int, M.bind_ok, List.length_append, List.length_map]
  have e : (((S.length + [U.tup [.lst (c.1.map su), .lst (c.2.map su), .str r.s, su s, .lst (us.map fun n => .int (n : Nat))]].length : Nat) : Int)) - 1 = (S.length : Nat) := by simp
  rw [e, List.map_append]; rfl
theorem forC_none {σ ρ β : Type} {f : σ → U → M (Ct σ ρ)} (g : β → U) {s : σ} : ∀ {xs : List β}, (∀ x ∈ xs, f s (g x) = .ok (.nx s)) → forC f (xs.map g) s = .ok (.nx s)
  | [], _ => rfl
  | x :: xs, h => by
    rw [List.map_cons, forC, h x (by simp), M.bind_ok]
    exact forC_none g fun y hy => h y (by simp [hy])
theorem forC_hit {σ ρ β : Type} {f : σ → U → M (Ct σ ρ)} (g : β → U) (p : β → Bool) {s : σ} {x : β} {z : ρ} : ∀ {xs : List β}, xs.find? p = some x → (∀ y ∈ xs, p y = false → f s (g y) = .ok (.nx s)) → f s (g x) = .ok (.rt z) → forC f (xs.map g) s = .ok (.rt z)
  | [], h, _, _ => by cases h
  | y :: ys, h, h1, h2 => by
    rw [List.find?_cons] at h
    rw [List.map_cons, forC]
    cases e : p y with
    | true =>
      rw [e] at h
      cases h
      rw [h2, M.bind_ok]
    | false =>
      rw [e] at h
      rw [h1 y (by simp) e, M.bind_ok]
      exact forC_hit g p h (fun q hq => h1 q (by simp [hq])) h2
theorem brk_word (s : Sy) : inM (.str (wd s)) (.tup [.str "not", .str "and", .str "or", .str "if"]) = .ok (brk s) := by
  cases s with
  | bin o a b => cases o <;> rfl
  | _ => rfl
end

section
variable {Q : List Sy} {R : List Cl}
/-- found_for does its work for lighter claims -/
def FIH (Q : List Sy) (R : List Cl) (k : Nat) (c : Cl) : Prop := ∀ d, d ∈ R → mu Q d + 1 ≤ mu Q c → ∀ S E, SI Q R S E → ∃ r S' E', sh_Search_found_for k [clU d] (S.map stpU) (memoU E) = .ok (rzU r, S'.map stpU, memoU E') ∧ S <+: S' ∧ SI Q R S' E' ∧ Right Q S' r d ∧ ∀ e ∈ E', e ∈ E ∨ mu Q e.1 ≤ mu Q d
/-- what looking at a claim comes to -/
structure SO (Q : List Sy) (R : List Cl) (c : Cl) (S : List Stp) (E : List (Cl × Rz)) (r : Rz) (S' : List Stp) (E' : List (Cl × Rz)) : Prop where
  pre : S <+: S'
  good : Good S'
  nd : (E'.map (·.1)).Nodup
  inR : ∀ e ∈ E', e.1 ∈ R
  right : ∀ e ∈ E', Right Q S' e.2 e.1
  len : S'.length ≤ E'.length + 1
  is : Right Q S' r c
  old : ∀ e ∈ E', e ∈ E ∨ mu Q e.1 + 1 ≤ mu Q c
  last : ∀ n, r = .st n → n + 1 = S'.length
  wf : ∀ x ∈ S', WF Q x.c
theorem SO.told {c : Cl} {S S1 : List Stp} {E E1 : List (Cl × Rz)} (W : WF Q c) (p : S <+: S1) (I : SI Q R S1 E1) (old : ∀ e ∈ E1, e ∈ E ∨ mu Q e.1 + 1 ≤ mu Q c) {r : Rl} {s : Sy} {us : List Nat} {cs : List Cl} (h1 : need c r s = some cs) (h2 : us.length = cs.length) (h3 : ∀ (j : Nat) (d : Cl), cs[j]? = some d → ∃ (n : Nat) (y : Stp), us[j]? = some n ∧ S1[n]? = some y ∧ y.c = d) :
    SO Q R c S E (.st S1.length) (S1 ++ [(⟨c, r, s, us⟩ : Stp)]) E1 where
  pre := p.trans (List.prefix_append _ _)
  good := I.good.snoc (x := ⟨c, r, s, us⟩) W.eq h1 h2 h3
  nd := I.nd
  inR := I.inR
  right := fun e he => (I.right e he).mono (List.prefix_append _ _)
  len := by have := I.len; rw [List.length_append, List.length_singleton]; omega
  is := ⟨⟨c, r, s, us⟩, by rw [List.getElem?_append_right (Nat.le_refl _), Nat.sub_self]; rfl, rfl⟩
  old := old
  last := fun n h => by cases h; rw [List.length_append, List.length_singleton]
  wf := fun x hx => by
    rcases List.mem_append.mp hx with z | z
    · exact I.wf x z
    · rw [List.mem_singleton] at z; subst z; exact W
theorem SO.tree {c : Cl} {S S1 : List Stp} {E E1 : List (Cl × Rz)} (p : S <+: S1) (I : SI Q R S1 E1) (old : ∀ e ∈ E1, e ∈ E ∨ mu Q e.1 + 1 ≤ mu Q c) {t : Tr} (h : Right Q S1 (.tr t) c) : SO Q R c S E (.tr t) S1 E1 :=
  ⟨p, I.good, I.nd, I.inR, I.right, by have := I.len; omega, h, old, (fun n h => by cases h), I.wf⟩
noncomputable def brkF (kk : Nat) : List U × List U × Dc → U → M (Ct (List U × List U × Dc) (U × List U × Dc)) := fun (v_uses_3, v_atS_4, v_atM_5) x6 =>
        (sh_Search_found_for kk [x6] v_atS_4 v_atM_5).calm.bind fun (z7, l8, m9) =>
        (un2 z7).bind fun (v_number_10, v_tree_11) =>
        (isM v_number_10 .non).bind fun b12 =>
        if b12 then
          .ok (.rt (.tup [.non, v_tree_11], l8, m9))
        else
          (appM v_uses_3 v_number_10).bind fun l13 =>
          .ok (.nx (l13, l8, m9))
theorem broken_eq {kk : Nat} {a b c : U} {S : List U} {md : Dc} : sh_Search_broken (kk + 1) [a, b, c] S md = (sh_needed kk [a, b, c]).bind fun z1 => (iterL (.lst z1)).bind fun it2 => (forC (ρ := U × List U × Dc) (brkF kk) it2 ([], S, md)).bind fun r => match r with
    | .bk _ => .stuck
    | .rt c => .ok c
    | .nx (v_uses_14, v_atS_15, v_atM_16) =>
      (sh_Search_told kk [a, b, c, .lst v_uses_14] v_atS_15 v_atM_16).calm.bind fun (z17, l18, m19) =>
      .ok (z17, l18, m19) := by rw [sh_Search_broken]; rfl
theorem brk_loop {k : Nat} {c : Cl} (ih : FIH Q R k c) : ∀ (ds : List Cl) (us : List Nat) (ps : List Cl) (S : List Stp) (E : List (Cl × Rz)), (∀ d ∈ ds, d ∈ R ∧ mu Q d + 1 ≤ mu Q c) → SI Q R S E → us.length = ps.length → ps.length + ds.length ≤ 100 →
    (∀ (j : Nat) (d : Cl), ps[j]? = some d → ∃ (n : Nat) (y : Stp), us[j]? = some n ∧ S[n]? = some y ∧ y.c = d) →
    ∃ out S' E', forC (brkF k) (ds.map clU) (us.map (fun n => U.int (n : Nat)), S.map stpU, memoU E) = .ok out ∧ S <+: S' ∧ SI Q R S' E' ∧ (∀ e ∈ E', e ∈ E ∨ mu Q e.1 + 1 ≤ mu Q c) ∧
      ((∃ t d, d ∈ ds ∧ out = .rt (rzU (.tr t), S'.map stpU, memoU E') ∧ Right Q S' (.tr t) d) ∨
       ∃ us' : List Nat, out = .nx (us'.map (fun n => U.int (n : Nat)), S'.map stpU, memoU E') ∧ us'.length = (ps ++ ds).length ∧ ∀ (j : Nat) (d : Cl), (ps ++ ds)[j]? = some d → ∃ (n : Nat) (y : Stp), us'[j]? = some n ∧ S'[n]? = some y ∧ y.c = d)
  | [], us, ps, S, E, _, I, hl, _, hp => ⟨_, S, E, rfl, List.prefix_refl _, I, fun e he => .inl he, .inr ⟨us, rfl, by simpa using hl, by simpa using hp⟩⟩
  | d :: ds, us, ps, S, E, hd, I, hl, hm, hp => by
    obtain ⟨hd1, hd2⟩ := hd d (by simp)
    obtain ⟨r, S1, E1, e1, p1, I1, R1, o1⟩ := ih d hd1 hd2 S E I
    have ef : ∀ uu : List U, brkF k (uu, S.map stpU, memoU E) (clU d) = (un2 (rzU r)).bind fun (v_number_10, v_tree_11) => (isM v_number_10 .non).bind fun b12 => if b12 then .ok (.rt (.tup [.non, v_tree_11], S1.map stpU, memoU E1)) else (appM uu v_number_10).bind fun l13 => .ok (.nx (l13, S1.map stpU, memoU E1)) := fun uu => by
      unfold brkF
      dsimp only
      rw [e1, M.calm_ok, M.bind_ok]
    rw [List.map_cons, forC, ef]
    cases r with
    | tr t =>
      refine ⟨_, S1, E1, rfl, p1, I1, fun e he => ?_, .inl ⟨t, d, by simp, rfl, R1⟩⟩
      rcases o1 e he with z | z
      · exact .inl z
      · exact .inr (by omega)
    | st n =>
      have es : ((un2 (rzU (.st n))).bind fun (v_number_10, v_tree_11) => (isM v_number_10 .non).bind fun b12 => if b12 then M.ok (Ct.rt (U.tup [.non, v_tree_11], S1.map stpU, memoU E1)) else (appM (us.map fun n => U.int (n : Nat)) v_number_10).bind fun l13 => .ok (.nx (l13, S1.map stpU, memoU E1))) = .ok (.nx ((us ++ [n]).map (fun n => U.int (n : Nat)), S1.map stpU, memoU E1)) := by
        show (appM (us.map fun n => U.int (n : Nat)) (.int (n : Nat))).bind _ = _
        rw [appM_ok (by rw [List.length_map]; omega), M.bind_ok, List.map_append]; rfl
      rw [es, M.bind_ok]
      dsimp only
      obtain ⟨out, S2, E2, e2, p2, I2, o2, h2⟩ := brk_loop ih ds (us ++ [n]) (ps ++ [d]) S1 E1 (fun x hx => hd x (by simp [hx])) I1 (by simp [hl]) (by simp only [List.length_append, List.length_cons, List.length_nil] at hm ⊢; omega) (fun j x hx => by
        by_cases hj : j < ps.length
        · rw [List.getElem?_append_left hj] at hx
          obtain ⟨m, y, k1, k2, k3⟩ := hp j x hx
          exact ⟨m, y, by rw [List.getElem?_append_left (by omega)]; exact k1, pre_getS p1 k2, k3⟩
        · rw [List.getElem?_append_right (by omega)] at hx
          have hj2 : j - ps.length = 0 := by
            cases q : j - ps.length with
            | zero => rfl
            | succ m => rw [q] at hx; simp at hx
          rw [hj2] at hx
          simp at hx; subst hx
          obtain ⟨y, y1, y2⟩ := R1
          exact ⟨n, y, by rw [List.getElem?_append_right (by omega), hl, hj2]; rfl, y1, y2⟩)
      refine ⟨out, S2, E2, e2, p1.trans p2, I2, fun e he => ?_, ?_⟩
      · rcases o2 e he with z | z
        · rcases o1 e z with z | z
          · exact .inl z
          · exact .inr (by omega)
        · exact .inr z
      · rcases h2 with ⟨t, x, hx, h3, h4⟩ | ⟨us', h3, h4, h5⟩
        · exact .inl ⟨t, x, by simp [hx], h3, h4⟩
        · refine .inr ⟨us', h3, by simpa using h4, fun j x hx => h5 j x (by simpa using hx)⟩
theorem WF.cb (u : UQ Q) {c : Cl} (W : WF Q c) : CB c := by
  have h1 := len_sub (rise_ndS W.r1) W.q1
  have h2 := len_sub (rise_ndS W.r2) W.q2
  have h3 := u.len
  exact ⟨fun s hs => u.ht s (W.q1 s hs), fun s hs => u.ht s (W.q2 s hs), by omega, by omega⟩
theorem broken_ok (u : UQ Q) (hR : R.length ≤ 9000000) {k : Nat} {c : Cl} (W : WF Q c) (ih : FIH Q R (k + 5) c) {r : Rl} {s : Sy} {cs : List Cl} (hr : r ≠ .up) (hs : s ∈ Q) (hn : need c r s = some cs) (hl : cs.length ≤ 2) (hcs : ∀ d ∈ cs, d ∈ R ∧ mu Q d + 1 ≤ mu Q c ∧ ups Q d ≤ ups Q c) {S : List Stp} {E : List (Cl × Rz)} (I : SI Q R S E) :
    ∃ r' S' E', sh_Search_broken (k + 6) [clU c, .str r.s, su s] (S.map stpU) (memoU E) = .ok (rzU r', S'.map stpU, memoU E') ∧ SO Q R c S E r' S' E' := by
  have e0 := sh_need (k := k) (W.cb u) r (u.ht s hs)
  rw [hn] at e0
  obtain ⟨out, S1, E1, e1, p1, I1, o1, h1⟩ := brk_loop ih cs [] [] S E (fun d hd => ⟨(hcs d hd).1, (hcs d hd).2.1⟩) I rfl (by simp; omega) (fun j d h => by simp at h)
  have h0 := broken_eq (kk := k + 5) (a := clU c) (b := .str r.s) (c := su s) (S := S.map stpU) (md := memoU E)
  rw [show res (some cs) = .ok (cs.map clU) from rfl] at e0
  have e1 : forC (brkF (k + 5)) (cs.map clU) (([] : List U), S.map stpU, memoU E) = .ok out := e1
  rw [e0, M.bind_ok, iterL_lst, M.bind_ok, e1, M.bind_ok] at h0
  rcases h1 with ⟨t, d, hd, rfl, h2⟩ | ⟨us, rfl, h2, h3⟩
  · refine ⟨.tr t, S1, E1, h0, SO.tree p1 I1 o1 ?_⟩
    obtain ⟨k1, k2, k3⟩ := h2
    obtain ⟨_, m1, m2⟩ := hcs d hd
    refine ⟨?_, by omega, Nat.le_trans k3 (NN_mono m2)⟩
    rw [need_tv hr hn, List.all_eq_false]
    exact ⟨d, hd, by rw [k1]; simp⟩
  · have hE := I1.elen
    have hS := I1.len
    dsimp only at h0
    rw [told_ok (k := k + 4) (by omega), M.calm_ok, M.bind_ok] at h0
    exact ⟨.st S1.length, _, E1, h0, SO.told W p1 I1 o1 hn (by simpa using h2) (by simpa using h3)⟩
end

section
variable {Q : List Sy} {R : List Cl}
noncomputable def upF (kk : Nat) (cu : U) : List U × List U × Dc → U → M (Ct (List U × List U × Dc) (U × List U × Dc)) := fun (v_trees_3, v_atS_4, v_atM_5) x6 =>
        ((
          (ixM x6 (.int 0)).bind fun z7 =>
          (eqM z7 (.str "shown")).bind fun b8 =>
          if b8 then
            (sh_needed kk [cu, .str "up", x6]).bind fun z9 =>
            (ixM (.lst z9) (.int 0)).bind fun z10 =>
            (sh_Search_found_for kk [z10] v_atS_4 v_atM_5).calm.bind fun (z11, l12, m13) =>
            (un2 z11).bind fun (v_number_14, v_tree_15) =>
            (isntM v_number_14 .non).bind fun b16 =>
            if b16 then
              (sh_Search_told kk [cu, .str "up", x6, .lst [v_number_14]] l12 m13).calm.bind fun (z17, l18, m19) =>
              .ok (.rt (z17, l18, m19))
            else
              (appM v_trees_3 v_tree_15).bind fun l20 =>
              .ok (.nx (l20, l12, m13))
          else
            .ok (.nx (v_trees_3, v_atS_4, v_atM_5))
         : M (Ct (List U × List U × Dc) (U × List U × Dc)))).bind fun r => match r with
        | .bk _ => .stuck
        | .rt c => .ok (.rt c)
        | .nx (v_trees_21, v_atS_22, v_atM_23) =>
          .ok (.nx (v_trees_21, v_atS_22, v_atM_23))
theorem gone_eq {kk : Nat} {a : U} {S : List U} {md : Dc} : sh_Search_gone_up (kk + 1) [a] S md = (ixM a (.int 1)).bind fun z1 => (iterL z1).bind fun it2 => (forC (ρ := U × List U × Dc) (upF kk a) it2 ([], S, md)).bind fun r => match r with
    | .bk _ => .stuck
    | .rt c => .ok c
    | .nx (v_trees_24, v_atS_25, v_atM_26) =>
      (ixM a (.int 0)).bind fun z27 =>
      (iterL z27).bind fun it28 =>
      (compF (fun x29 =>
          (ixM x29 (.int 0)).bind fun z31 =>
          (eqM z31 (.str "letter")).bind fun b32 =>
          .ok b32
        ) (fun x29 =>
          (ixM x29 (.int 1)).bind fun z33 =>
          .ok z33
        ) it28).bind fun zs30 =>
      (joinM (.str "") (.lst zs30)).bind fun z34 =>
      .ok (.tup [.non, .tup [z34, .lst v_trees_24]], v_atS_25, v_atM_26) := by rw [sh_Search_gone_up]; rfl
theorem wd_isShown (s : Sy) : decide (wd s = ("shown" : Str)) = isShown s := by
  cases s with
  | bin o a b => cases o <;> rfl
  | _ => rfl
theorem upF_other {k : Nat} {cu : U} {s : Sy} (h : isShown s = false) (ts S : List U) (md : Dc) : upF k cu (ts, S, md) (su s) = .ok (.nx (ts, S, md)) := by
  unfold upF
  dsimp only
  rw [ix_su0, M.bind_ok, eqM_str, wd_isShown, h, M.bind_ok, if_neg (by simp), M.bind_ok]
def upcl (c : Cl) (a : Sy) : Cl := mkC (.shown a :: c.1.flatMap known1) [a]
theorem need_upc {c : Cl} {a : Sy} (h : Sy.shown a ∈ c.2) : need c .up (.shown a) = some [upcl c a] := by
  unfold need
  dsimp only
  rw [if_pos h]; rfl
theorem up_loop (u : UQ Q) (hR : R.length ≤ 9000000) {k : Nat} {c : Cl} (W : WF Q c) (ih : FIH Q R (k + 5) c) (hup : ∀ a, Sy.shown a ∈ c.2 → upcl c a ∈ R) (hd : ∀ s ∈ c.2, s ∉ c.1) : ∀ (ds : List Sy) (ts : List Tr) (S : List Stp) (E : List (Cl × Rz)), (∀ s ∈ ds, s ∈ c.2) → SI Q R S E → ts.length + ds.length ≤ 1000 →
    ∃ out S' E', forC (upF (k + 5) (clU c)) (ds.map su) (ts.map trU, S.map stpU, memoU E) = .ok out ∧
      ((∃ r, out = .rt (rzU r, S'.map stpU, memoU E') ∧ SO Q R c S E r S' E') ∨
       ∃ ts' : List Tr, out = .nx ((ts ++ ts').map trU, S'.map stpU, memoU E') ∧ S <+: S' ∧ SI Q R S' E' ∧ (∀ e ∈ E', e ∈ E ∨ mu Q e.1 + 1 ≤ mu Q c) ∧
        (∀ t ∈ ts', ∃ a, Sy.shown a ∈ c.2 ∧ clt t (upcl c a) = false ∧ hgt t ≤ ups Q c ∧ tsz t ≤ NN (ups Q c - 1)) ∧ (∀ a, Sy.shown a ∈ ds → ∃ t ∈ ts', clt t (upcl c a) = false) ∧ ts'.length ≤ (ds.filter isShown).length)
  | [], ts, S, E, _, I, _ => ⟨_, S, E, rfl, .inr ⟨[], by simp, List.prefix_refl _, I, fun e he => .inl he, by simp, by simp, by simp⟩⟩
  | s :: ds, ts, S, E, hs, I, hl => by
    rw [List.length_cons] at hl
    rw [List.map_cons, forC]
    by_cases hsh : isShown s = true
    · obtain ⟨a, rfl⟩ : ∃ a, s = .shown a := by cases s <;> simp [isShown] at hsh; exact ⟨_, rfl⟩
      have ha := hs (.shown a) (by simp)
      obtain ⟨m1, m2, _⟩ := mu_up u W ha (hd _ ha)
      obtain ⟨r, S1, E1, e1, p1, I1, R1, o1⟩ := ih (upcl c a) (hup a ha) m1 S E I
      have e0 := sh_need (k := k) (W.cb u) .up (s := .shown a) (u.ht _ (W.q2 _ ha))
      rw [need_upc ha] at e0
      have e0 : sh_needed (k + 5) [clU c, .str "up", su (.shown a)] = .ok [clU (upcl c a)] := e0
      have o2 : ∀ e ∈ E1, e ∈ E ∨ mu Q e.1 + 1 ≤ mu Q c := fun e he => by
        have m1 : mu Q (upcl c a) + 1 ≤ mu Q c := m1
        rcases o1 e he with z | z
        · exact .inl z
        · exact .inr (by omega)
      have ef : upF (k + 5) (clU c) (ts.map trU, S.map stpU, memoU E) (su (.shown a)) = (((un2 (rzU r)).bind fun (v_number_14, v_tree_15) => (isntM v_number_14 .non).bind fun b16 => if b16 then (sh_Search_told (k + 5) [clU c, .str "up", su (.shown a), .lst [v_number_14]] (S1.map stpU) (memoU E1)).calm.bind fun (z17, l18, m19) => .ok (.rt (z17, l18, m19)) else (appM (ts.map trU) v_tree_15).bind fun l20 => .ok (.nx (l20, S1.map stpU, memoU E1)) : M (Ct (List U × List U × Dc) (U × List U × Dc)))).bind fun r => match r with
        | .bk _ => .stuck
        | .rt c => .ok (.rt c)
        | .nx (v_trees_21, v_atS_22, v_atM_23) => .ok (.nx (v_trees_21, v_atS_22, v_atM_23)) := by
        unfold upF
        dsimp only
        rw [ix_su0, M.bind_ok, eqM_str, wd_isShown, hsh, M.bind_ok, if_pos rfl, e0, M.bind_ok, ix_l0, M.bind_ok, e1, M.calm_ok, M.bind_ok]
      rw [ef]
      cases r with
      | st n =>
        have hE := I1.elen
        have hS := I1.len
        have et := told_ok (k := k + 4) (c := c) (r := .up) (s := .shown a) (us := [n]) (S := S1) (md := memoU E1) (by omega)
        have et : sh_Search_told (k + 5) [clU c, .str "up", su (.shown a), .lst [.int (n : Nat)]] (S1.map stpU) (memoU E1) = _ := et
        rw [show un2 (rzU (.st n)) = .ok (.int (n : Nat), .non) from rfl, M.bind_ok]
        dsimp only
        rw [show isntM (.int (n : Nat)) .non = .ok true from rfl, M.bind_ok, if_pos rfl, et, M.calm_ok, M.bind_ok, M.bind_ok]
        refine ⟨_, _, E1, rfl, .inl ⟨.st S1.length, rfl, SO.told W p1 I1 o2 (need_upc ha) rfl fun j d hj => ?_⟩⟩
        cases j with
        | zero =>
          simp at hj; subst hj
          obtain ⟨y, y1, y2⟩ := R1
          exact ⟨n, y, rfl, y1, y2⟩
        | succ j => simp at hj
      | tr t =>
        rw [show un2 (rzU (.tr t)) = .ok (.non, trU t) from rfl, M.bind_ok]
        dsimp only
        rw [show isntM .non .non = .ok false from rfl, M.bind_ok, if_neg (by simp), appM_ok (by rw [List.length_map]; omega), M.bind_ok, M.bind_ok]
        dsimp only
        rw [M.bind_ok]
        dsimp only
        have en : ts.map trU ++ [trU t] = (ts ++ [t]).map trU := by rw [List.map_append]; rfl
        rw [en]
        obtain ⟨out, S2, E2, e2, h2⟩ := up_loop u hR W ih hup hd ds (ts ++ [t]) S1 E1 (fun x hx => hs x (by simp [hx])) I1 (by rw [List.length_append, List.length_singleton]; omega)
        refine ⟨out, S2, E2, e2, ?_⟩
        rcases h2 with ⟨r, h3, h4⟩ | ⟨ts', h3, p2, I2, o3, h4, h5, h6⟩
        · refine .inl ⟨r, h3, ⟨p1.trans h4.pre, h4.good, h4.nd, h4.inR, h4.right, h4.len, h4.is, fun e he => ?_, h4.last, h4.wf⟩⟩
          rcases h4.old e he with z | z
          · exact o2 e z
          · exact .inr z
        · obtain ⟨k1, k2, k3⟩ := R1
          have m2 : ups Q (upcl c a) + 1 ≤ ups Q c := m2
          refine .inr ⟨t :: ts', by rw [h3, List.append_assoc]; rfl, p1.trans p2, I2, fun e he => ?_, fun x hx => ?_, fun b hb => ?_, ?_⟩
          · rcases o3 e he with z | z
            · exact o2 e z
            · exact .inr z
          · rcases List.mem_cons.mp hx with rfl | hx
            · exact ⟨a, ha, k1, by omega, Nat.le_trans k3 (NN_mono (by omega))⟩
            · exact h4 x hx
          · rcases List.mem_cons.mp hb with hb | hb
            · cases hb
              exact ⟨t, by simp, k1⟩
            · obtain ⟨x, hx, hy⟩ := h5 b hb
              exact ⟨x, by simp [hx], hy⟩
          · rw [List.filter_cons, if_pos hsh, List.length_cons, List.length_cons]; omega
    · rw [Bool.not_eq_true] at hsh
      rw [upF_other hsh, M.bind_ok]
      dsimp only
      obtain ⟨out, S2, E2, e2, h2⟩ := up_loop u hR W ih hup hd ds ts S E (fun x hx => hs x (by simp [hx])) I (by omega)
      refine ⟨out, S2, E2, e2, ?_⟩
      rcases h2 with h2 | ⟨ts', h3, p2, I2, o3, h4, h5, h6⟩
      · exact .inl h2
      · refine .inr ⟨ts', h3, p2, I2, o3, h4, fun b hb => ?_, ?_⟩
        · rcases List.mem_cons.mp hb with hb | hb
          · subst hb; simp [isShown] at hsh
          · exact h5 b hb
        · rw [List.filter_cons, hsh, if_neg (by simp)]; exact h6
/-- the marks of a claim's left -/
def msC (l : List Sy) : Ms := ⟨decide (Sy.lt .p ∈ l), decide (Sy.lt .q ∈ l), decide (Sy.lt .r ∈ l)⟩
theorem msC_has {l : List Sy} {m : Lt} : (msC l).has m = true ↔ Sy.lt m ∈ l := by cases m <;> simp [msC, Ms.has]
theorem marks_ok {l : List Sy} (h : Rise l) (hl : l.length ≤ 1000) : compF (fun x29 => (ixM x29 (.int 0)).bind fun z31 => (eqM z31 (.str "letter")).bind fun b32 => M.ok b32) (fun x29 => (ixM x29 (.int 1)).bind fun z33 => M.ok z33) (l.map su) = .ok ((msC l).lts.map ltU) := by
  rw [compF_ok su isLt litU (by omega) (fun x _ => by
    rw [ix_su0, M.bind_ok, eqM_str, M.bind_ok]
    cases x with
    | bin o a b => cases o <;> simp [wd, isLt, Bop.s]
    | _ => simp [wd, isLt]) (fun x _ hx => by
    cases x with
    | lt l => rfl
    | _ => cases hx)]
  have e : l.filter isLt = (msC l).lts.map Sy.lt := by
    refine rise_ext (rise_filter _ h) (List.Pairwise.sublist ((List.filter_sublist (l := [Lt.p, .q, .r])).map Sy.lt) (by decide +kernel)) fun s => ?_
    rw [List.mem_filter, List.mem_map]
    constructor
    · rintro ⟨h1, h2⟩
      cases s with
      | lt m => exact ⟨m, by unfold Ms.lts; rw [List.mem_filter]; exact ⟨by cases m <;> simp, msC_has.mpr h1⟩, rfl⟩
      | _ => cases h2
    · rintro ⟨m, hm, rfl⟩
      unfold Ms.lts at hm
      exact ⟨msC_has.mp (List.mem_filter.mp hm).2, rfl⟩
  rw [e, List.map_map]; rfl
theorem gone_ok (u : UQ Q) (hR : R.length ≤ 9000000) {k : Nat} {c : Cl} (W : WF Q c) (ih : FIH Q R (k + 5) c) (hup : ∀ a, Sy.shown a ∈ c.2 → upcl c a ∈ R) (hd : ∀ s ∈ c.1, s ∉ c.2) (hf : first c = none) (hno : Sy.no ∉ c.1) {S : List Stp} {E : List (Cl × Rz)} (I : SI Q R S E) :
    ∃ r' S' E', sh_Search_gone_up (k + 6) [clU c] (S.map stpU) (memoU E) = .ok (rzU r', S'.map stpU, memoU E') ∧ SO Q R c S E r' S' E' := by
  have cb := W.cb u
  have hd2 : ∀ s ∈ c.2, s ∉ c.1 := fun s h2 h1 => hd s h1 h2
  obtain ⟨out, S1, E1, e1, h1⟩ := up_loop u hR W ih hup hd2 c.2 [] S E (fun s hs => hs) I (by have := cb.l2; simp; omega)
  have h0 := gone_eq (kk := k + 5) (a := clU c) (S := S.map stpU) (md := memoU E)
  have e1 : forC (upF (k + 5) (clU c)) (c.2.map su) (([] : List U), S.map stpU, memoU E) = .ok out := e1
  have i1 : ixM (clU c) (.int 1) = .ok (.lst (c.2.map su)) := ix_t1
  have i0 : ixM (clU c) (.int 0) = .ok (.lst (c.1.map su)) := ix_t0
  rw [i1, M.bind_ok, iterL_lst, M.bind_ok, e1, M.bind_ok] at h0
  rcases h1 with ⟨r, rfl, h2⟩ | ⟨ts, rfl, p1, I1, o1, h4, h5, h6⟩
  · exact ⟨r, S1, E1, h0, h2⟩
  · dsimp only at h0
    rw [i0, M.bind_ok, iterL_lst, M.bind_ok, marks_ok W.r1 cb.l1, M.bind_ok, join_ms, M.bind_ok, List.nil_append, ← trUs_map] at h0
    have hnb : (∀ s ∈ c.1, brk s = false) ∧ ∀ s ∈ c.2, brk s = false := by
      unfold first at hf
      cases q1 : c.1.find? brk with
      | some x => rw [q1] at hf; cases hf
      | none =>
        rw [q1] at hf
        dsimp only at hf
        cases q2 : c.2.find? brk with
        | some x => rw [q2] at hf; cases hf
        | none =>
          rw [List.find?_eq_none] at q1 q2
          exact ⟨fun s hs => by simpa using q1 s hs, fun s hs => by simpa using q2 s hs⟩
    have hlen : ts.length ≤ ups Q c := by
      refine Nat.le_trans h6 ?_
      unfold ups
      refine len_sub ((rise_ndS W.r2).filter _) fun s hs => ?_
      obtain ⟨s1, s2⟩ := List.mem_filter.mp hs
      rw [List.mem_filter]
      exact ⟨W.q2 s s1, by rw [s2]; simp [hd2 s s1]⟩
    refine ⟨.tr (.node (msC c.1) ts), S1, E1, h0, SO.tree p1 I1 o1 ⟨?_, ?_, ?_⟩⟩
    · refine clt_up (fun s hs => ?_) (fun s hs => ?_) hd (fun l => msC_has) (fun t ht => by obtain ⟨a, a1, a2, _⟩ := h4 t ht; exact ⟨a, a1, a2⟩) fun a ha => h5 a ha
      · have := hnb.1 s hs
        cases s with
        | no => exact absurd hs hno
        | lt l => exact .inl ⟨l, rfl⟩
        | shown a => exact .inr ⟨a, rfl⟩
        | _ => simp [brk] at this
      · have := hnb.2 s hs
        cases s with
        | no => exact .inl rfl
        | lt l => exact .inr (.inl ⟨l, rfl⟩)
        | shown a => exact .inr (.inr ⟨a, rfl⟩)
        | _ => simp [brk] at this
    · rw [hgt]
      have := hgts_le (n := ups Q c) (ts := ts) fun t ht => by obtain ⟨a, _, _, a3, _⟩ := h4 t ht; exact a3
      omega
    · rw [tsz]
      have h7 := tszs_le (n := NN (ups Q c - 1)) (ts := ts) fun t ht => by obtain ⟨a, _, _, _, a4⟩ := h4 t ht; exact a4
      cases e : ups Q c with
      | zero =>
        rw [e] at hlen
        have : ts = [] := List.length_eq_zero_iff.mp (by omega)
        subst this; decide
      | succ n =>
        rw [e] at hlen h7
        have h8 : ts.length * NN (n + 1 - 1) ≤ (n + 1) * NN n := Nat.mul_le_mul hlen (Nat.le_refl _)
        rw [NN]; omega
end

section
variable {Q : List Sy} {R : List Cl}
theorem totS_le {l : List Sy} {n : Nat} (h : ∀ s ∈ l, s.size ≤ n) : totS l ≤ l.length * n := by
  induction l with
  | nil => simp [totS]
  | cons a l ih =>
    have h1 := h a (by simp)
    have h2 := ih fun x hx => h x (by simp [hx])
    unfold totS at h2 ⊢
    rw [List.map_cons, List.sum_cons, List.length_cons, Nat.add_mul]; omega
theorem rp_ok (u : UQ Q) {c : Cl} (W : WF Q c) : reprM (clU c) = .ok (.str (rpC c)) := by
  have h1 := len_sub (rise_ndS W.r1) W.q1
  have h2 := len_sub (rise_ndS W.r2) W.q2
  have h3 := u.len
  have t1 := totS_le (l := c.1) fun s hs => u.sz s (W.q1 s hs)
  have t2 := totS_le (l := c.2) fun s hs => u.sz s (W.q2 s hs)
  have t3 : c.1.length * 200 ≤ 200 * 200 := Nat.mul_le_mul (by omega) (Nat.le_refl _)
  have t4 : c.2.length * 200 ≤ 200 * 200 := Nat.mul_le_mul (by omega) (Nat.le_refl _)
  have hl := rpC_len c
  obtain ⟨s1, s2⟩ := sus_show c.1
  obtain ⟨s3, s4⟩ := sus_show c.2
  have hs : PyData.showable (pyU (clU c)) = true := by
    show (PyData.showableAll (pyUs (c.1.map su)) && (PyData.showableAll (pyUs (c.2.map su)) && true)) = true
    rw [s1, s3]; rfl
  have hd : PyData.hasDict (pyU (clU c)) = false := by
    show (PyData.hasDictAll (pyUs (c.1.map su)) || (PyData.hasDictAll (pyUs (c.2.map su)) || false)) = false
    rw [s2, s4]; rfl
  have hp : pl (clU c) = true := by
    unfold clU
    refine pl_tup ?_
    show (PyData.plain (pyU (.lst (c.1.map su))) && (PyData.plain (pyU (.lst (c.2.map su))) && true)) = true
    rw [show PyData.plain (pyU (.lst (c.1.map su))) = true from pl_lst (pls_su _), show PyData.plain (pyU (.lst (c.2.map su))) = true from pl_lst (pls_su _)]; rfl
  have hdp : dp (clU c) ≤ 151 + 1 := by
    unfold clU
    refine dp_tup ?_
    exact Nat.le_trans (two_dp (n := 149) (fun s hs => u.ht s (W.q1 s hs)) fun s hs => u.ht s (W.q2 s hs)) (by omega)
  have e : (PyData.shown (pyU (clU c))).length ≤ sizeLine := by
    show (rpC c).length ≤ 2 ^ 24
    omega
  have hc : (pl (clU c) && (PyData.showable (pyU (clU c)) && (!PyData.hasDict (pyU (clU c)) && (decide (dp (clU c) ≤ 180) && decide ((PyData.shown (pyU (clU c))).length ≤ sizeLine))))) = true := by
    rw [hp, hs, hd, decide_eq_true (show dp (clU c) ≤ 180 by omega), decide_eq_true e]; rfl
  exact if_pos hc
noncomputable def samF (kk : Nat) (cu rt : U) : List U × Dc → U → M (Ct (List U × Dc) (U × List U × Dc)) := fun (v_atS_4, v_atM_5) x6 =>
        (inM x6 rt).bind fun b7 =>
        if b7 then
          (sh_Search_told kk [cu, .str "same", x6, .lst []] v_atS_4 v_atM_5).calm.bind fun (z8, l9, m10) =>
          .ok (.rt (z8, l9, m10))
        else
          .ok (.nx (v_atS_4, v_atM_5))
noncomputable def parF (kk : Nat) (cu ru : U) : List U × Dc → U → M (Ct (List U × Dc) (U × List U × Dc)) := fun (v_atS_24, v_atM_25) x26 =>
                (ixM x26 (.int 0)).bind fun z27 =>
                (inM z27 (.tup [.str "not", .str "and", .str "or", .str "if"])).bind fun b28 =>
                if b28 then
                  (sh_Search_broken kk [cu, ru, x26] v_atS_24 v_atM_25).calm.bind fun (z29, l30, m31) =>
                  .ok (.rt (z29, l30, m31))
                else
                  .ok (.nx (v_atS_24, v_atM_25))
noncomputable def sidF (kk : Nat) (cu : U) : List U × Dc → U → M (Ct (List U × Dc) (U × List U × Dc)) := fun (v_atS_18, v_atM_19) x20 =>
            (un2 x20).bind fun (v_rule_21, v_side_22) =>
            (iterL v_side_22).bind fun it23 =>
            (forC (ρ := U × List U × Dc) (parF kk cu v_rule_21) it23 (v_atS_18, v_atM_19)).bind fun r => match r with
            | .bk _ => .stuck
            | .rt c => .ok (.rt c)
            | .nx (v_atS_32, v_atM_33) =>
              .ok (.nx (v_atS_32, v_atM_33))
theorem looked_eq {kk : Nat} {a : U} {S : List U} {md : Dc} : sh_Search_looked (kk + 1) [a] S md = (un2 a).bind fun (v_left_1, v_right_2) =>
    (iterL v_left_1).bind fun it3 =>
    (forC (ρ := U × List U × Dc) (samF kk a v_right_2) it3 (S, md)).bind fun r => match r with
    | .bk _ => .stuck
    | .rt c => .ok c
    | .nx (v_atS_11, v_atM_12) =>
      (inM (.tup [.str "no"]) v_left_1).bind fun b13 =>
      if b13 then
        (sh_Search_told kk [a, .str "never", .tup [.str "no"], .lst []] v_atS_11 v_atM_12).calm.bind fun (z14, l15, m16) =>
        .ok (z14, l15, m16)
      else
        (iterL (.lst [.tup [.str "left", v_left_1], .tup [.str "right", v_right_2]])).bind fun it17 =>
        (forC (ρ := U × List U × Dc) (sidF kk a) it17 (v_atS_11, v_atM_12)).bind fun r => match r with
        | .bk _ => .stuck
        | .rt c => .ok c
        | .nx (v_atS_34, v_atM_35) =>
          (sh_Search_gone_up kk [a] v_atS_34 v_atM_35).calm.bind fun (z36, l37, m38) =>
          .ok (z36, l37, m38) := by rw [sh_Search_looked]; rfl
theorem parF_no {k : Nat} {cu ru : U} {s : Sy} {S : List U} {md : Dc} (h : brk s = false) : parF k cu ru (S, md) (su s) = .ok (.nx (S, md)) := by
  unfold parF
  dsimp only
  rw [ix_su0, M.bind_ok, brk_word, M.bind_ok, h, if_neg (by simp)]
theorem parF_yes {k : Nat} {cu ru : U} {s : Sy} {S : List U} {md : Dc} {z : U × List U × Dc} (h : brk s = true) (e : sh_Search_broken k [cu, ru, su s] S md = .ok z) : parF k cu ru (S, md) (su s) = .ok (.rt z) := by
  unfold parF
  dsimp only
  rw [ix_su0, M.bind_ok, brk_word, M.bind_ok, h, if_pos rfl, e, M.calm_ok, M.bind_ok]
theorem sidF_none {k : Nat} {cu : U} {r : Str} {l : List Sy} {S : List U} {md : Dc} (h : l.find? brk = none) : sidF k cu (S, md) (.tup [.str r, .lst (l.map su)]) = .ok (.nx (S, md)) := by
  unfold sidF
  dsimp only
  rw [un2_ok, M.bind_ok]
  dsimp only
  rw [iterL_lst, M.bind_ok, forC_none su (fun s hs => parF_no (by
    rw [List.find?_eq_none] at h
    simpa using h s hs)), M.bind_ok]
theorem sidF_hit {k : Nat} {cu : U} {r : Str} {l : List Sy} {s : Sy} {S : List U} {md : Dc} {z : U × List U × Dc} (h : l.find? brk = some s) (e : sh_Search_broken k [cu, .str r, su s] S md = .ok z) : sidF k cu (S, md) (.tup [.str r, .lst (l.map su)]) = .ok (.rt z) := by
  unfold sidF
  dsimp only
  rw [un2_ok, M.bind_ok]
  dsimp only
  rw [iterL_lst, M.bind_ok, forC_hit su brk h (fun s _ hs => parF_no hs) (parF_yes (List.find?_some h) e), M.bind_ok]
theorem looked_ok (u : UQ Q) {c0 : Cl} (W0 : WF Q c0) (hR : (RC Q c0).length ≤ 9000000) {k : Nat} {c : Cl} (hc : c ∈ RC Q c0) (ih : FIH Q (RC Q c0) (k + 5) c) {S : List Stp} {E : List (Cl × Rz)} (I : SI Q (RC Q c0) S E) :
    ∃ r' S' E', sh_Search_looked (k + 7) [clU c] (S.map stpU) (memoU E) = .ok (rzU r', S'.map stpU, memoU E') ∧ SO Q (RC Q c0) c S E r' S' E' := by
  have W := RC_wf u W0 hc
  have cb := W.cb u
  have hE := I.elen
  have hS := I.len
  have h0 := looked_eq (kk := k + 6) (a := clU c) (S := S.map stpU) (md := memoU E)
  rw [show un2 (clU c) = .ok (.lst (c.1.map su), .lst (c.2.map su)) from un2_ok, M.bind_ok] at h0
  dsimp only at h0
  rw [iterL_lst, M.bind_ok] at h0
  have sam : ∀ s ∈ c.1, samF (k + 6) (clU c) (.lst (c.2.map su)) (S.map stpU, memoU E) (su s) = if s ∈ c.2 then .ok (.rt (rzU (.st S.length), (S ++ [(⟨c, .same, s, []⟩ : Stp)]).map stpU, memoU E)) else .ok (.nx (S.map stpU, memoU E)) := fun s hs => by
    unfold samF
    dsimp only
    rw [inM_su rfl (by have := cb.h1 s hs; omega), M.bind_ok]
    by_cases q : s ∈ c.2
    · rw [decide_eq_true q, if_pos rfl, if_pos q]
      have et := told_ok (k := k + 5) (c := c) (r := .same) (s := s) (us := []) (S := S) (md := memoU E) (by omega)
      have et : sh_Search_told (k + 6) [clU c, .str "same", su s, .lst []] (S.map stpU) (memoU E) = _ := et
      rw [et, M.calm_ok, M.bind_ok]
    · rw [decide_eq_false q, if_neg (by simp), if_neg q]
  cases q1 : c.1.find? fun s => decide (s ∈ c.2) with
  | some s =>
    have hs1 := List.mem_of_find?_eq_some q1
    have hs2 : s ∈ c.2 := by simpa using List.find?_some q1
    rw [forC_hit su (fun s => decide (s ∈ c.2)) (z := (rzU (.st S.length), (S ++ [(⟨c, .same, s, []⟩ : Stp)]).map stpU, memoU E)) q1 (fun x hx hp => by rw [sam x hx, if_neg (by simpa using hp)]) (by rw [sam s hs1, if_pos hs2]), M.bind_ok] at h0
    exact ⟨_, _, E, h0, SO.told W (List.prefix_refl _) I (fun e he => .inl he) (cs := []) (by unfold need; dsimp only; rw [if_pos ⟨hs1, hs2⟩]) rfl fun j d h => by simp at h⟩
  | none =>
    rw [List.find?_eq_none] at q1
    have hd : ∀ s ∈ c.1, s ∉ c.2 := fun s hs => by simpa using q1 s hs
    rw [forC_none su (fun x hx => by rw [sam x hx, if_neg (hd x hx)]), M.bind_ok] at h0
    dsimp only at h0
    have en : inM (.tup [.str "no"]) (.lst (c.1.map su)) = .ok (decide (Sy.no ∈ c.1)) := inM_su (s := .no) rfl (by simp only [Sy.ht]; omega)
    rw [en, M.bind_ok] at h0
    by_cases q2 : Sy.no ∈ c.1
    · rw [decide_eq_true q2, if_pos rfl] at h0
      have et := told_ok (k := k + 5) (c := c) (r := .never) (s := .no) (us := []) (S := S) (md := memoU E) (by omega)
      have et : sh_Search_told (k + 6) [clU c, .str "never", .tup [.str "no"], .lst []] (S.map stpU) (memoU E) = _ := et
      rw [et, M.calm_ok, M.bind_ok] at h0
      exact ⟨_, _, E, h0, SO.told W (List.prefix_refl _) I (fun e he => .inl he) (cs := []) (by unfold need; dsimp only; rw [if_pos ⟨rfl, q2⟩]) rfl fun j d h => by simp at h⟩
    · rw [decide_eq_false q2, if_neg (by simp), iterL_lst, M.bind_ok] at h0
      cases hf : first c with
      | some p =>
        obtain ⟨r, s⟩ := p
        obtain ⟨cs, n1, n2, n3, n4⟩ := brk_kids u W hf
        obtain ⟨f1, f2⟩ := first_need hf
        have hr : r ≠ .up := by rcases f2 with ⟨rfl, _⟩ | ⟨rfl, _⟩ <;> simp
        have hs : s ∈ Q := by
          rcases f2 with ⟨_, h⟩ | ⟨_, h⟩
          · exact W.q1 s h
          · exact W.q2 s h
        obtain ⟨r', S', E', e, o⟩ := broken_ok u hR W ih hr hs n1 n2 (fun d hd => by
          obtain ⟨_, m2, m3⟩ := n4 d hd
          obtain ⟨m4, m5⟩ := mu_brk u m2 m3
          exact ⟨RC_brk u W0 hc hf n1 d hd, m4, m5⟩) I
        refine ⟨r', S', E', ?_, o⟩
        unfold first at hf
        cases g1 : c.1.find? brk with
        | some x =>
          rw [g1] at hf
          cases hf
          rw [forC, sidF_hit (r := "left") g1 e, M.bind_ok] at h0
          exact h0
        | none =>
          rw [g1] at hf
          dsimp only at hf
          cases g2 : c.2.find? brk with
          | some x =>
            rw [g2] at hf
            cases hf
            rw [forC, sidF_none g1, M.bind_ok] at h0
            dsimp only at h0
            rw [forC, sidF_hit (r := "right") g2 e, M.bind_ok] at h0
            exact h0
          | none => rw [g2] at hf; cases hf
      | none =>
        have g1 : c.1.find? brk = none := by
          unfold first at hf
          cases g1 : c.1.find? brk with
          | some x => rw [g1] at hf; cases hf
          | none => rfl
        have g2 : c.2.find? brk = none := by
          unfold first at hf
          rw [g1] at hf
          dsimp only at hf
          cases g2 : c.2.find? brk with
          | some x => rw [g2] at hf; cases hf
          | none => rfl
        obtain ⟨r', S', E', e, o⟩ := gone_ok u hR W ih (fun a ha => RC_up u W ha fun h => hd _ h ha) hd hf q2 I
        rw [forC, sidF_none g1, M.bind_ok] at h0
        dsimp only at h0
        rw [forC, sidF_none g2, M.bind_ok] at h0
        dsimp only at h0
        rw [forC, M.bind_ok] at h0
        dsimp only at h0
        rw [e, M.calm_ok, M.bind_ok] at h0
        exact ⟨r', S', E', h0, o⟩
theorem found_ok (u : UQ Q) {c0 : Cl} (W0 : WF Q c0) (hR : (RC Q c0).length ≤ 9000000) : ∀ (m k : Nat) (c : Cl), c ∈ RC Q c0 → mu Q c ≤ m → ∀ S E, SI Q (RC Q c0) S E →
    ∃ r S' E', sh_Search_found_for (k + 3 * m + 8) [clU c] (S.map stpU) (memoU E) = .ok (rzU r, S'.map stpU, memoU E') ∧ S <+: S' ∧ SI Q (RC Q c0) S' E' ∧ Right Q S' r c ∧ (∀ e ∈ E', e ∈ E ∨ mu Q e.1 ≤ mu Q c) ∧ (c ∉ E.map (·.1) → ∀ n, r = .st n → n + 1 = S'.length) := by
  intro m
  induction m using Nat.strongRecOn with
  | _ m ihm =>
    intro k c hc hm S E I
    have W := RC_wf u W0 hc
    rw [sh_Search_found_for, rp_ok u W, M.bind_ok]
    have eb : nB inM (.str (rpC c)) (.dic (memoU E).1 (memoU E).2) = .ok (!decide (c ∈ E.map (·.1))) := by
      unfold nB
      rw [memo_in]; rfl
    rw [eb, M.bind_ok]
    by_cases q : c ∈ E.map (·.1)
    · rw [decide_eq_true q, if_neg (by simp), M.bind_ok]
      dsimp only
      obtain ⟨⟨d, r⟩, he, rfl⟩ := List.mem_map.mp q
      rw [memo_ix I.nd he, M.bind_ok]
      exact ⟨r, S, E, rfl, List.prefix_refl _, I, I.right _ he, fun e he => .inl he, fun h => absurd q h⟩
    · rw [decide_eq_false q, if_pos (show (!false) = true from rfl)]
      have ih : FIH Q (RC Q c0) (k + 3 * m + 5) c := fun d hd hmu S E I => by
        obtain ⟨j, rfl⟩ : ∃ j, m = j + 1 := ⟨m - 1, by omega⟩
        obtain ⟨r, S', E', e, p1, I1, R1, o1, _⟩ := ihm j (by omega) k d hd (by omega) S E I
        exact ⟨r, S', E', by rw [show k + 3 * (j + 1) + 5 = k + 3 * j + 8 by omega]; exact e, p1, I1, R1, o1⟩
      obtain ⟨r, S1, E1, e1, o⟩ := looked_ok u W0 hR (k := k + 3 * m) hc ih I
      have hn : c ∉ E1.map (·.1) := fun h => by
        obtain ⟨e, he, h2⟩ := List.mem_map.mp h
        rcases o.old e he with z | z
        · exact q (List.mem_map.mpr ⟨e, z, h2⟩)
        · rw [h2] at z; omega
      have hl : E1.length ≤ 9000000 := by
        have := len_sub o.nd (m := RC Q c0) fun c hc => by
          obtain ⟨e, he, rfl⟩ := List.mem_map.mp hc
          exact o.inR e he
        rw [List.length_map] at this
        omega
      have nd2 : ((E1 ++ [(c, r)]).map (·.1)).Nodup := by
        rw [List.map_append, List.nodup_append]
        refine ⟨o.nd, by simp, fun a ha b hb => ?_⟩
        simp at hb; subst hb
        exact fun e => hn (e ▸ ha)
      rw [e1, M.calm_ok, M.bind_ok]
      dsimp only
      rw [memo_put hn (by omega), M.bind_ok, M.bind_ok]
      dsimp only
      rw [memo_ix nd2 (r := r) (by simp), M.bind_ok]
      refine ⟨r, S1, E1 ++ [(c, r)], rfl, o.pre, ⟨o.good, nd2, fun e he => ?_, fun e he => ?_, by rw [List.length_append, List.length_singleton]; exact o.len, o.wf⟩, o.is, fun e he => ?_, fun _ => o.last⟩
      · rcases List.mem_append.mp he with z | z
        · exact o.inR e z
        · rw [List.mem_singleton] at z; subst z; exact hc
      · rcases List.mem_append.mp he with z | z
        · exact o.right e z
        · rw [List.mem_singleton] at z; subst z; exact o.is
      · rcases List.mem_append.mp he with z | z
        · rcases o.old e z with y | y
          · exact .inl y
          · exact .inr (by omega)
        · rw [List.mem_singleton] at z; subst z; exact .inr (Nat.le_refl _)
end

/-- how many words in all -/
def op : Sy → Nat
  | .no => 0
  | .lt _ => 0
  | .not a => op a + 1
  | .shown a => op a + 1
  | .bin _ a b => op a + op b + 1
def nsh : Sy → Nat
  | .no => 0
  | .lt _ => 0
  | .not a => nsh a
  | .shown a => nsh a + 1
  | .bin _ a b => nsh a + nsh b
def wop (ss : List Sy) : Nat := (ss.map fun s => op s + 1).sum
def wns (ss : List Sy) : Nat := (ss.map nsh).sum
/-- a stack of at most n words, m of them shown -/
def Sts (n m : Nat) (l : List U) : Prop := ∃ ss : List Sy, l = ss.map su ∧ ss ≠ [] ∧ wop ss ≤ n ∧ wns ss ≤ m
theorem Sts.mono {n n' m m' : Nat} {l : List U} (h : Sts n m l) (i : n ≤ n') (j : m ≤ m') : Sts n' m' l := by obtain ⟨s, h1, h2, h3, h4⟩ := h; exact ⟨s, h1, h2, by omega, by omega⟩
mutual
theorem tsz_pos : ∀ t : Tr, 0 < tsz t
  | .node _ ts => by rw [tsz]; omega
end
theorem tszs_map : ∀ ts : List Tr, tszs ts = (ts.map tsz).sum
  | [] => rfl
  | t :: ts => by rw [tszs, tszs_map ts, List.map_cons, List.sum_cons]
/-- the queue: what a room stands on, and the tree that begins there -/
abbrev Qu := List (Int × Tr)
def wU (x : Int × Tr) : U := .tup [.int x.1, trU x.2]
def wR (x : Int × Tr) : Rm := ⟨x.1, x.2.m⟩
structure QI (t0 : Tr) (n : Nat) (W : Qu) : Prop where
  le : n ≤ W.length
  top : W[0]? = some (-1, t0)
  par : ∀ (j : Nat) (x : Int × Tr), 0 < j → W[j]? = some x → ∃ (p : Nat) (y : Int × Tr), x.1 = (p : Nat) ∧ p < j ∧ p < n ∧ W[p]? = some y ∧ x.2 ∈ y.2.ts
  kid : ∀ (p : Nat) (y : Int × Tr), p < n → W[p]? = some y → ∀ u ∈ y.2.ts, ∃ (j : Nat) (x : Int × Tr), 0 < j ∧ W[j]? = some x ∧ x.1 = (p : Nat) ∧ x.2 = u
  sum : n + ((W.drop n).map fun x => tsz x.2).sum = tsz t0
theorem sum_len {l : List (Int × Tr)} : l.length ≤ (l.map fun x => tsz x.2).sum := by
  induction l with
  | nil => simp
  | cons a l ih => rw [List.map_cons, List.sum_cons, List.length_cons]; have := tsz_pos a.2; omega
theorem QI.len {t0 : Tr} {n : Nat} {W : Qu} (h : QI t0 n W) : W.length ≤ tsz t0 := by
  have h1 := h.sum
  have h2 := h.le
  have h3 := sum_len (l := W.drop n)
  rw [List.length_drop] at h3
  omega
theorem QI.start (t : Tr) : QI t 0 [(-1, t)] where
  le := Nat.zero_le _
  top := rfl
  par := fun j x hj hx => by
    obtain ⟨j, rfl⟩ := Nat.exists_eq_succ_of_ne_zero (Nat.pos_iff_ne_zero.mp hj)
    simp at hx
  kid := fun p y hp => by omega
  sum := by simp
theorem QI.step {t0 : Tr} {n : Nat} {W : Qu} (h : QI t0 n W) {b : Int} {t : Tr} (hn : W[n]? = some (b, t)) : QI t0 (n + 1) (W ++ t.ts.map fun u => ((n : Int), u)) where
  le := by
    have := (List.getElem?_eq_some_iff.mp hn).1
    rw [List.length_append]; omega
  top := by
    have := (List.getElem?_eq_some_iff.mp h.top).1
    rw [List.getElem?_append_left this]; exact h.top
  par := fun j x hj hx => by
    have hl := (List.getElem?_eq_some_iff.mp hn).1
    by_cases hjl : j < W.length
    · rw [List.getElem?_append_left hjl] at hx
      obtain ⟨p, y, h1, h2, h3, h4, h5⟩ := h.par j x hj hx
      exact ⟨p, y, h1, h2, by omega, by rw [List.getElem?_append_left (by omega)]; exact h4, h5⟩
    · rw [List.getElem?_append_right (by omega), List.getElem?_map, Option.map_eq_some_iff] at hx
      obtain ⟨u, hu, rfl⟩ := hx
      exact ⟨n, (b, t), rfl, by omega, by omega, by rw [List.getElem?_append_left hl]; exact hn, List.mem_of_getElem? hu⟩
  kid := fun p y hp hy u hu => by
    have hl := (List.getElem?_eq_some_iff.mp hn).1
    rw [List.getElem?_append_left (by omega)] at hy
    by_cases hpn : p < n
    · obtain ⟨j, x, h1, h2, h3, h4⟩ := h.kid p y hpn hy u hu
      exact ⟨j, x, h1, by rw [List.getElem?_append_left (List.getElem?_eq_some_iff.mp h2).1]; exact h2, h3, h4⟩
    · have : p = n := by omega
      subst this
      rw [hn] at hy; cases hy
      obtain ⟨i, hi⟩ := List.getElem?_of_mem hu
      exact ⟨W.length + i, ((p : Int), u), by omega, by rw [List.getElem?_append_right (by omega), Nat.add_sub_cancel_left, List.getElem?_map, hi]; rfl, rfl, rfl⟩
  sum := by
    have hl := (List.getElem?_eq_some_iff.mp hn).1
    have h1 := h.sum
    have e : W.drop n = (b, t) :: W.drop (n + 1) := by
      rw [List.drop_eq_getElem_cons hl]
      have := List.getElem?_eq_getElem hl
      rw [hn] at this
      rw [← Option.some.inj this]
    rw [e, List.map_cons, List.sum_cons] at h1
    rw [List.drop_append_of_le_length (by omega), List.map_append, List.sum_append, List.map_map]
    have e2 : (t.ts.map ((fun x : Int × Tr => tsz x.2) ∘ fun u => ((n : Int), u))) = t.ts.map tsz := rfl
    rw [e2, ← tszs_map]
    have e3 : tsz t = tszs t.ts + 1 := by obtain ⟨m, ts⟩ := t; rw [tsz]; rfl
    dsimp only at h1
    omega
/-- the finished queue is a tree's rooms -/
theorem QI.tree {t0 : Tr} {W : Qu} (h : QI t0 W.length W) : Tree (W.map wR) where
  ne := by have := (List.getElem?_eq_some_iff.mp h.top).1; rw [List.length_map]; omega
  top := fun x hx => by
    rw [List.getElem?_map, h.top] at hx
    cases hx; rfl
  up := fun k x hk hx => by
    rw [List.getElem?_map, Option.map_eq_some_iff] at hx
    obtain ⟨y, hy, rfl⟩ := hx
    obtain ⟨p, _, h1, h2, _⟩ := h.par k y hk hy
    show 0 ≤ y.1 ∧ y.1 < _
    omega
theorem QI.parR {t0 : Tr} {W : Qu} (h : QI t0 W.length W) {j : Nat} {x : Int × Tr} (hj : 0 < j) (hx : W[j]? = some x) : ∃ y, Law.par (W.map wR) j < j ∧ W[Law.par (W.map wR) j]? = some y ∧ x.2 ∈ y.2.ts := by
  obtain ⟨p, y, h1, h2, h3, h4, h5⟩ := h.par j x hj hx
  have e : Law.par (W.map wR) j = p := by
    unfold Law.par
    rw [List.getElem?_map, hx]
    show (wR x).b.toNat = p
    show x.1.toNat = p
    omega
  rw [e]
  exact ⟨y, h2, h4, h5⟩
theorem desc_tr : ∀ (n : Nat) (t : Tr), hgt t ≤ n → ∀ x ∈ desc t, ∀ y ∈ x.ts, y ∈ desc t
  | 0, .node _ ts, h => by rw [hgt] at h; omega
  | n + 1, t, h => by
    intro x hx y hy
    obtain ⟨u, hu, e⟩ := desc_mem.mp hx
    have hh : hgt u ≤ n := by
      obtain ⟨m, ts⟩ := t
      rw [hgt] at h
      have := hgts_mem (t := u) (ts := ts) hu
      omega
    refine desc_mem.mpr ⟨u, hu, .inr ?_⟩
    rcases e with rfl | e
    · exact desc_mem.mpr ⟨y, hy, .inl rfl⟩
    · exact desc_tr n u hh x e y hy
theorem QI.down {t0 : Tr} {W : Qu} (h : QI t0 W.length W) {j : Nat} {x : Int × Tr} (hj : W[j]? = some x) : ∀ i y, W[i]? = some y → 0 < dn (Law.par (W.map wR)) j i → y.2 ∈ desc x.2 := by
  intro i
  induction i using Nat.strongRecOn with
  | _ i ih =>
    intro y hy hd
    have hji := dn_pos hd
    obtain ⟨z, h1, h2, h3⟩ := h.parR (by omega) hy
    by_cases e : Law.par (W.map wR) i = j
    · rw [e, hj] at h2; cases h2
      exact desc_mem.mpr ⟨y.2, h3, .inl rfl⟩
    · rw [dn_far hji e h1] at hd
      by_cases e2 : dn (Law.par (W.map wR)) j (Law.par (W.map wR) i) = 0
      · rw [if_pos e2] at hd; omega
      · exact desc_tr _ x.2 (Nat.le_refl _) z.2 (ih _ h1 z h2 (by omega)) y.2 h3
theorem QI.upw {t0 : Tr} {W : Qu} (h : QI t0 W.length W) : ∀ (n j : Nat) (x : Int × Tr), hgt x.2 ≤ n → W[j]? = some x → ∀ u ∈ desc x.2, ∃ (i : Nat) (y : Int × Tr), W[i]? = some y ∧ y.2 = u ∧ 0 < dn (Law.par (W.map wR)) j i
  | 0, j, (_, .node _ ts), hh, _, _, _ => by rw [hgt] at hh; omega
  | n + 1, j, x, hh, hx, u, hu => by
    obtain ⟨v, hv, e⟩ := desc_mem.mp hu
    have hl := (List.getElem?_eq_some_iff.mp hx).1
    obtain ⟨i, y, h1, h2, h3, h4⟩ := h.kid j x hl hx v hv
    have hp : Law.par (W.map wR) i = j := by
      unfold Law.par
      rw [List.getElem?_map, h2]
      show y.1.toNat = j
      omega
    have hij : j < i := by
      obtain ⟨_, h5, _⟩ := h.parR h1 h2
      omega
    have hd : 0 < dn (Law.par (W.map wR)) j i := by rw [dn_kid hij hp]; omega
    rcases e with rfl | e
    · exact ⟨i, y, h2, h4, hd⟩
    · have hhv : hgt v ≤ n := by
        obtain ⟨b, t⟩ := x
        obtain ⟨m, ts⟩ := t
        rw [hgt] at hh
        have := hgts_mem (t := v) (ts := ts) hv
        omega
      obtain ⟨i2, z, g1, g2, g3⟩ := QI.upw h n i y (by rw [h4]; exact hhv) h2 u (by rw [h4]; exact e)
      have hi2 := (List.getElem?_eq_some_iff.mp g1).1
      exact ⟨i2, z, g1, g2, dn_tr h.tree hd i2 (by rw [List.length_map]; exact hi2) g3⟩
theorem QI.val {t0 : Tr} {W : Qu} (h : QI t0 W.length W) : ∀ (s : Sy) (j : Nat) (x : Int × Tr), W[j]? = some x → Law.val (W.map wR) s j = tv s x.2
  | .no, _, _, _ => rfl
  | .lt l, j, x, hx => by
    rw [Law.val, tv]
    unfold Law.mk
    rw [List.getElem?_map, hx]; rfl
  | .not a, j, x, hx => by rw [Law.val, tv, QI.val h a j x hx]
  | .bin o a b, j, x, hx => by rw [Law.val, tv, QI.val h a j x hx, QI.val h b j x hx]
  | .shown a, j, x, hx => by
    rw [Bool.eq_iff_iff, all_iff, tv, List.all_eq_true]
    constructor
    · intro q u hu
      obtain ⟨i, y, h1, h2, h3⟩ := h.upw _ j x (Nat.le_refl _) hx u hu
      have hi := (List.getElem?_eq_some_iff.mp h1).1
      have := q i (by rw [List.length_map]; exact hi) h3
      rw [QI.val h a i y h1, h2] at this
      exact this
    · intro q i hi hd
      rw [List.length_map] at hi
      have hy := List.getElem?_eq_getElem hi
      rw [QI.val h a i _ hy]
      exact q _ (h.down hx i _ hy hd)
theorem QI.walk {t0 : Tr} {W : Qu} (h : QI t0 W.length W) {f : Nat → Nat} (h0 : f 0 = 1) (hf : ∀ j, 0 < j → j < W.length → f j = f (Law.par (W.map wR) j) + 1) : ∀ (j : Nat) (x : Int × Tr), W[j]? = some x → f j + hgt x.2 ≤ hgt t0 + 1 := by
  intro j
  induction j using Nat.strongRecOn with
  | _ j ih =>
    intro x hx
    rcases Nat.eq_zero_or_pos j with rfl | hj
    · rw [h.top] at hx; cases hx
      rw [h0]; dsimp only; omega
    · obtain ⟨y, h1, h2, h3⟩ := h.parR hj hx
      have := ih _ h1 y h2
      rw [hf j hj (List.getElem?_eq_some_iff.mp hx).1]
      have : hgt x.2 + 1 ≤ hgt y.2 := by
        obtain ⟨b, t⟩ := y
        obtain ⟨m, ts⟩ := t
        have := hgts_mem (t := x.2) (ts := ts) h3
        dsimp only
        rw [hgt]; omega
      omega
theorem hgt_pos : ∀ t : Tr, 0 < hgt t
  | .node _ ts => by rw [hgt]; omega
theorem sh_roomsT {k : Nat} {t : Tr} (ht : tsz t < 1000000) : ∃ rs : List Rm, sh_rooms_of (k + 1) [trU t] = .ok (rs.map uR) ∧ Tree rs ∧ (∀ s, val rs s 0 = tv s t) ∧ rs.length ≤ tsz t ∧
    ∀ f : Nat → Nat, f 0 = 1 → (∀ j, 0 < j → j < rs.length → f j = f (par rs j) + 1) → ∀ j, j < rs.length → f j ≤ hgt t := by
  have key := whN_down (c := fun (x : List U × List U) => match x with
      | (v_waiting_2, v_rooms_3) => (lenM (.lst v_rooms_3)).bind fun z4 => (lenM (.lst v_waiting_2)).bind fun z5 => (ltM z4 z5).bind fun b6 => M.ok b6)
    (f := fun (x : List U × List U) => match x with
      | (v_waiting_7, v_rooms_8) => (lenM (.lst v_rooms_8)).bind fun z9 => (ixM (.lst v_waiting_7) z9).bind fun z10 => (un2 z10).bind fun x => match x with
        | (v_below_11, y12) => (un2 y12).bind fun x => match x with
          | (v_marks_13, v_trees_14) => (iterL v_trees_14).bind fun it15 => (compM (fun x16 => (lenM (.lst v_rooms_8)).bind fun z18 => M.ok (.tup [z18, x16])) it15).bind fun zs17 => (extM v_waiting_7 (.lst zs17)).bind fun l19 => (appM v_rooms_8 (.tup [v_below_11, v_marks_13])).bind fun l20 => M.ok (l19, l20))
    (fun st => ∃ (n : Nat) (W : Qu), QI t n W ∧ st = (W.map wU, (W.take n).map fun x => uR (wR x)))
    (fun st => ∃ W : Qu, QI t W.length W ∧ st.2 = (W.map wR).map uR)
    (fun st => tsz t - st.2.length)
    (fun st ⟨n, W, hq, e⟩ => by
      subst e
      have hlen := hq.len
      have hle := hq.le
      dsimp only
      rw [lenM_lst, M.bind_ok, lenM_lst, M.bind_ok, ltM_int, M.bind_ok, List.length_map, List.length_map, List.length_take, Nat.min_eq_left hle]
      refine ⟨_, rfl, ?_⟩
      by_cases hn : n < W.length
      · rw [decide_eq_true (by omega)]
        dsimp only
        rw [if_pos rfl, M.bind_ok]
        obtain ⟨b, m, ts, hx⟩ : ∃ b m ts, W[n]? = some (b, Tr.node m ts) := by
          have h0 := List.getElem?_eq_getElem hn
          rcases hw : W[n] with ⟨b, m, ts⟩
          exact ⟨b, m, ts, by rw [h0, hw]⟩
        have hs := hq.step hx
        have hl2 := hs.len
        rw [List.length_append, List.length_map] at hl2
        have e1 : ixM (.lst (W.map wU)) (.int (n : Int)) = .ok (wU (b, .node m ts)) := ixM_get rfl (by rw [List.getElem?_map, hx]; rfl)
        rw [e1, M.bind_ok]
        show Ok ((un2 (.tup [.int b, trU (.node m ts)])).bind _) _
        rw [un2_ok, M.bind_ok, trU, un2_ok, M.bind_ok, trUs_map, iterL_lst, M.bind_ok, compM_ok trU (fun u => wU ((n : Int), u)) (by have : (Tr.node m ts).ts = ts := rfl; rw [this] at hl2; omega) (fun u _ => by rw [M.bind_ok]; rfl), M.bind_ok, extM_ok (by rw [List.length_map, List.length_map]; have : (Tr.node m ts).ts = ts := rfl; rw [this] at hl2; omega), M.bind_ok, appM_ok (by rw [List.length_map, List.length_take]; omega), M.bind_ok]
        refine ⟨_, rfl, ⟨n + 1, _, hs, ?_⟩, ?_⟩
        · rw [List.map_append, List.map_map, List.take_append_of_le_length (by omega), List.take_succ, hx, List.map_append]
          rfl
        · dsimp only
          rw [List.length_append, List.length_map, List.length_take, List.length_singleton, Nat.min_eq_left hle]
          have hp := hq.len
          have : n < tsz t := by omega
          omega
      · have e : n = W.length := by omega
        subst e
        rw [decide_eq_false (by omega)]
        dsimp only
        rw [if_neg (by simp)]
        exact ⟨W, hq, by rw [List.take_length, List.map_map]; rfl⟩)
    1000000 ([wU (-1, t)], []) ⟨0, [(-1, t)], QI.start t, rfl⟩ (by show tsz t - 0 < 1000000; omega)
  obtain ⟨st, e, W, hq, hst⟩ := key
  refine ⟨W.map wR, ?_, hq.tree, fun s => hq.val s 0 _ hq.top, by rw [List.length_map]; exact hq.len, fun f h0 hf j hj => ?_⟩
  · rw [sh_rooms_of, negM_int, M.bind_ok]
    refine Eq.trans (congrArg (fun m : M (List U × List U) => m.bind _) e) ?_
    rw [M.bind_ok]
    show M.ok st.2 = _
    rw [hst]
  · rw [List.length_map] at hf hj
    have := hq.walk h0 hf j _ (List.getElem?_eq_getElem hj)
    have := hgt_pos (W[j]).2
    omega

/-- all parts of a claim -/
def QC (l r : List Sy) : List Sy := setS ((l ++ r).flatMap partsL)
theorem parts_kid {s : Sy} : ∀ {t x : Sy}, t ∈ partsL s → x ∈ t.kids → x ∈ partsL s := by
  induction s with
  | no => intro t x h hx; simp [partsL] at h; subst h; simp [Sy.kids] at hx
  | lt m => intro t x h hx; simp [partsL] at h; subst h; simp [Sy.kids] at hx
  | not a ih =>
    intro t x h hx
    rcases List.mem_cons.mp h with rfl | h
    · simp [Sy.kids] at hx; subst hx; exact List.mem_cons_of_mem _ (parts_self _)
    · exact List.mem_cons_of_mem _ (ih h hx)
  | shown a ih =>
    intro t x h hx
    rcases List.mem_cons.mp h with rfl | h
    · simp [Sy.kids] at hx; subst hx; exact List.mem_cons_of_mem _ (parts_self _)
    · exact List.mem_cons_of_mem _ (ih h hx)
  | bin o a b ih1 ih2 =>
    intro t x h hx
    rcases List.mem_cons.mp h with rfl | h
    · simp [Sy.kids] at hx
      rcases hx with rfl | rfl
      · exact List.mem_cons_of_mem _ (List.mem_append_left _ (parts_self _))
      · exact List.mem_cons_of_mem _ (List.mem_append_right _ (parts_self _))
    · rcases List.mem_append.mp h with h | h
      · exact List.mem_cons_of_mem _ (List.mem_append_left _ (ih1 h hx))
      · exact List.mem_cons_of_mem _ (List.mem_append_right _ (ih2 h hx))
theorem parts_size {s : Sy} : ∀ {t : Sy}, t ∈ partsL s → t.size ≤ s.size := by
  induction s with
  | no => intro t h; simp [partsL] at h; subst h; exact Nat.le_refl _
  | lt m => intro t h; simp [partsL] at h; subst h; exact Nat.le_refl _
  | not a ih =>
    intro t h
    rcases List.mem_cons.mp h with rfl | h
    · exact Nat.le_refl _
    · have := ih h; simp only [Sy.size]; omega
  | shown a ih =>
    intro t h
    rcases List.mem_cons.mp h with rfl | h
    · exact Nat.le_refl _
    · have := ih h; simp only [Sy.size]; omega
  | bin o a b ih1 ih2 =>
    intro t h
    rcases List.mem_cons.mp h with rfl | h
    · exact Nat.le_refl _
    · rcases List.mem_append.mp h with h | h
      · have := ih1 h; simp only [Sy.size]; omega
      · have := ih2 h; simp only [Sy.size]; omega
theorem QC_mem {l r : List Sy} {x : Sy} : x ∈ QC l r ↔ ∃ s, (s ∈ l ∨ s ∈ r) ∧ x ∈ partsL s := by
  unfold QC
  rw [setS_iff, List.mem_flatMap]
  exact ⟨fun ⟨s, a, b⟩ => ⟨s, List.mem_append.mp a, b⟩, fun ⟨s, a, b⟩ => ⟨s, List.mem_append.mpr a, b⟩⟩
theorem QC_uq {l r : List Sy} (h : ∀ s ∈ l, s.size ≤ 90) (h2 : ∀ s ∈ r, s.size ≤ 90) (hq : (QC l r).length ≤ 40) : UQ (QC l r) where
  kid := fun s hs x hx => by
    obtain ⟨t, a, b⟩ := QC_mem.mp hs
    exact QC_mem.mpr ⟨t, a, parts_kid b hx⟩
  ht := fun s hs => by
    obtain ⟨t, a, b⟩ := QC_mem.mp hs
    have h3 := parts_size b
    have : s.size ≤ 149 := by
      rcases a with a | a
      · have := h t a; omega
      · have := h2 t a; omega
    exact pv_ht this
  sz := fun s hs => by
    obtain ⟨t, a, b⟩ := QC_mem.mp hs
    have h3 := parts_size b
    rcases a with a | a
    · have := h t a; omega
    · have := h2 t a; omega
  rise := setS_rise _
  len := by omega
theorem QC_wf {l r : List Sy} (rl : Rise l) (rr : Rise r) : WF (QC l r) (l, r) where
  r1 := rl
  r2 := rr
  q1 := fun s hs => QC_mem.mpr ⟨s, .inl hs, parts_self s⟩
  q2 := fun s hs => QC_mem.mpr ⟨s, .inr hs, parts_self s⟩
theorem ups_SL (Q : List Sy) (c : Cl) : ups Q c ≤ (SL Q).length := by
  unfold ups SL
  induction Q with
  | nil => simp
  | cons s Q ih =>
    rw [List.filter_cons, List.filter_cons]
    cases isShown s <;> cases decide (s ∈ c.1) <;> simp <;> omega
theorem need_in {c : Cl} {r : Rl} {s : Sy} {cs : List Cl} (h : need c r s = some cs) : s = .no ∨ s ∈ c.1 ∨ s ∈ c.2 := by
  unfold need at h
  cases r <;> dsimp only at h <;> split at h
  · rename_i q; exact .inr (.inl q.1)
  · cases h
  · rename_i q; exact .inl q.1
  · cases h
  · rename_i q; exact .inr (.inl q)
  · cases h
  · rename_i q; exact .inr (.inr q)
  · cases h
  · rename_i q; exact .inr (.inr q)
  · cases h
/-- what a search tells of a claim -/
inductive Told (c : Cl) (n : Nat) : U → Prop where
  | shows (S : List Stp) (x : Stp) (g : Good S) (hl : S.length ≤ 9000000) (h : S.getLast? = some x) (e : x.c = c) (hc : ∀ y ∈ S, CB y.c ∧ y.s.ht ≤ 149) : Told c n (.tup [.str "showing", .lst (S.map stpU)])
  | tree (rs : List Rm) (T : Tree rs) (hl : rs.length ≤ 2000) (hw : ∀ f : Nat → Nat, f 0 = 1 → (∀ j, 0 < j → j < rs.length → f j = f (par rs j) + 1) → ∀ j, j < rs.length → f j ≤ n + 1) (h : clv rs c 0 = false) (t : Tr) (ht : clt t c = false) : Told c n (.tup [.str "tree", .lst (rs.map uR)])
theorem sh_search195 {k : Nat} {l r : List Sy} (rl : Rise l) (rr : Rise r) (h : ∀ s ∈ l, s.size ≤ 90) (h2 : ∀ s ∈ r, s.size ≤ 90) (hl : l.length ≤ 20) (hl2 : r.length ≤ 20) (n6 : (SL (QC l r)).length ≤ 6) (q40 : (QC l r).length ≤ 40) (hR : (RC (QC l r) (l, r)).length ≤ 9000000) (hm : mu (QC l r) (l, r) ≤ 195) :
    Ok (sh_searched (k + 594) [clU (l, r)]) (Told (l, r) (SL (QC l r)).length) := by
  have u := QC_uq h h2 q40
  have W := QC_wf rl rr
  have e1 := sh_cparts (k := k + 489) h h2 hl hl2
  have e2 := sh_cshown (k := k + 489) h h2 hl hl2
  have e1 : sh_claim_parts (k + 591 + 2) [clU (l, r)] = .ok ((QC l r).map su) := e1
  have e2 : sh_claim_shown (k + 591 + 2) [clU (l, r)] = .ok ((SL (QC l r)).map su) := e2
  obtain ⟨z, S, E, e3, _, I, R1, _, h5⟩ := found_ok u W hR 195 k (l, r) (List.mem_append_left _ (lvl_self _ _)) hm [] [] ⟨fun i x hx => by simp at hx, by simp, by simp, by simp, by simp, by simp⟩
  have e3 : sh_Search_found_for (k + 591 + 2) [clU (l, r)] [] (([], []) : Dc) = .ok (rzU z, S.map stpU, memoU E) := e3
  have hE := I.elen
  have hS := I.len
  have h5 := h5 (by simp)
  rw [show k + 594 = k + 591 + 3 from rfl, sh_searched, e1, M.bind_ok, lenM_lst, M.bind_ok, gtM_int, M.bind_ok, List.length_map, decide_eq_false (by omega), if_neg (by simp), e2, M.bind_ok, lenM_lst, M.bind_ok, gtM_int, M.bind_ok, List.length_map, decide_eq_false (by omega), M.bind_ok, if_neg (by simp), e3, M.calm_ok, M.bind_ok]
  dsimp only
  cases z with
  | st n =>
    rw [show un2 (rzU (.st n)) = .ok (.int (n : Nat), .non) from rfl, M.bind_ok]
    dsimp only
    rw [show isM (.int (n : Nat)) .non = .ok false from rfl, M.bind_ok, if_neg (by simp)]
    obtain ⟨x, x1, x2⟩ := R1
    have hn := h5 n rfl
    refine ⟨_, rfl, .shows S x I.good (by omega) ?_ x2 fun y hy => ?_⟩
    · rw [List.getLast?_eq_getElem?, ← x1]; congr 1; omega
    · have Wy := I.wf y hy
      refine ⟨Wy.cb u, ?_⟩
      obtain ⟨i, hi, ei⟩ := List.getElem_of_mem hy
      obtain ⟨_, cs, g1, _⟩ := I.good i y (by rw [List.getElem?_eq_getElem hi, ei])
      rcases need_in g1 with e | e | e
      · rw [e]; simp [Sy.ht]
      · exact u.ht _ (Wy.q1 _ e)
      · exact u.ht _ (Wy.q2 _ e)
  | tr t =>
    obtain ⟨t1, t2, t3⟩ := R1
    have hu := ups_SL (QC l r) (l, r)
    have h7 : NN (ups (QC l r) (l, r)) ≤ NN 6 := NN_mono (by omega)
    have h8 : NN 6 = 1957 := by decide
    rw [show un2 (rzU (.tr t)) = .ok (.non, trU t) from rfl, M.bind_ok]
    dsimp only
    rw [show isM .non .non = .ok true from rfl, M.bind_ok, if_pos rfl]
    obtain ⟨rs, r1, T, r2, r3, r4⟩ := sh_roomsT (k := k + 592) (t := t) (by omega)
    have r1 : sh_rooms_of (k + 591 + 2) [trU t] = .ok (rs.map uR) := r1
    rw [r1, M.bind_ok]
    refine ⟨_, rfl, .tree rs T (by omega) (fun f f0 f1 j hj => by have := r4 f f0 f1 j hj; omega) ?_ t t1⟩
    rw [← t1]
    unfold clv clt
    simp only [r2]

/-- more than the search takes is refused -/
theorem sh_searchX {k : Nat} {l r : List Sy} (rl : Rise l) (rr : Rise r) (h : ∀ s ∈ l, s.size ≤ 90) (h2 : ∀ s ∈ r, s.size ≤ 90) (hl : l.length ≤ 20) (hl2 : r.length ≤ 20) (hx : 40 < (QC l r).length ∨ 6 < (SL (QC l r)).length) : sh_searched (k + 594) [clU (l, r)] = .err "TooMany" [] := by
  have e1 := sh_cparts (k := k + 489) h h2 hl hl2
  have e2 := sh_cshown (k := k + 489) h h2 hl hl2
  have e1 : sh_claim_parts (k + 591 + 2) [clU (l, r)] = .ok ((QC l r).map su) := e1
  have e2 : sh_claim_shown (k + 591 + 2) [clU (l, r)] = .ok ((SL (QC l r)).map su) := e2
  rw [show k + 594 = k + 591 + 3 from rfl, sh_searched, e1, M.bind_ok, lenM_lst, M.bind_ok, gtM_int, M.bind_ok, List.length_map]
  by_cases h40 : 40 < (QC l r).length
  · rw [decide_eq_true (by omega), if_pos rfl, M.bind_ok, if_pos rfl]
  · rw [decide_eq_false (by omega), if_neg (by simp), e2, M.bind_ok, lenM_lst, M.bind_ok, gtM_int, M.bind_ok, M.bind_ok, List.length_map, decide_eq_true (by omega), if_pos rfl]

def spn (ps : List Sy) : Nat := ((ps.filter isShown).map fun s => cn (kidS s) + 1).sum
theorem spn_app (l m : List Sy) : spn (l ++ m) = spn l + spn m := by unfold spn; rw [List.filter_append, List.map_append, List.sum_append]
theorem spn_parts : ∀ s : Sy, spn (partsL s) + cn s = op s
  | .no => rfl
  | .lt _ => rfl
  | .not a => by
    have := spn_parts a
    show spn (.not a :: partsL a) + (cn a + 1) = op a + 1
    have e : spn (.not a :: partsL a) = spn (partsL a) := rfl
    omega
  | .shown a => by
    have := spn_parts a
    have e : spn (.shown a :: partsL a) = cn a + 1 + spn (partsL a) := by
      unfold spn
      rw [List.filter_cons, if_pos (show isShown (.shown a) = true from rfl), List.map_cons, List.sum_cons]; rfl
    show spn (.shown a :: partsL a) + 0 = op a + 1
    omega
  | .bin o a b => by
    have := spn_parts a; have := spn_parts b
    have e : spn (.bin o a b :: (partsL a ++ partsL b)) = spn (partsL a ++ partsL b) := rfl
    show spn (.bin o a b :: (partsL a ++ partsL b)) + (cn a + cn b + 1) = op a + op b + 1
    rw [e, spn_app]; omega
theorem nsh_parts : ∀ s : Sy, ((partsL s).filter isShown).length = nsh s
  | .no => rfl
  | .lt _ => rfl
  | .not a => nsh_parts a
  | .shown a => by
    show ((Sy.shown a :: partsL a).filter isShown).length = nsh a + 1
    rw [List.filter_cons, if_pos (show isShown (.shown a) = true from rfl), List.length_cons, nsh_parts a]
  | .bin o a b => by
    show ((Sy.bin o a b :: (partsL a ++ partsL b)).filter isShown).length = nsh a + nsh b
    rw [List.filter_cons, if_neg (by simp [isShown]), List.filter_append, List.length_append, nsh_parts a, nsh_parts b]
/-- a claim that a search can do -/
structure Fit (l r : List Sy) : Prop where
  n6 : (SL (QC l r)).length ≤ 6
  q40 : (QC l r).length ≤ 40
  hR : (RC (QC l r) (l, r)).length ≤ 9000000
  hm : mu (QC l r) (l, r) ≤ 180
theorem sum_p1 (f : Sy → Nat) : ∀ l : List Sy, (l.map fun s => f s + 1).sum = (l.map f).sum + l.length
  | [] => rfl
  | a :: l => by rw [List.map_cons, List.sum_cons, sum_p1 f l, List.map_cons, List.sum_cons, List.length_cons]; omega
theorem sum_fm (f : Sy → List Sy) : ∀ ss : List Sy, (ss.flatMap f).length = (ss.map fun s => (f s).length).sum
  | [] => rfl
  | a :: l => by rw [List.flatMap_cons, List.length_append, sum_fm f l, List.map_cons, List.sum_cons]
theorem spn_fm : ∀ ss : List Sy, spn (ss.flatMap partsL) = (ss.map fun s => spn (partsL s)).sum
  | [] => rfl
  | a :: l => by rw [List.flatMap_cons, spn_app, spn_fm l, List.map_cons, List.sum_cons]
theorem nsh_fm : ∀ ss : List Sy, ((ss.flatMap partsL).filter isShown).length = (ss.map nsh).sum
  | [] => rfl
  | a :: l => by rw [List.flatMap_cons, List.filter_append, List.length_append, nsh_fm l, nsh_parts, List.map_cons, List.sum_cons]
theorem sum_le {f g : Sy → Nat} : ∀ {l : List Sy}, (∀ s ∈ l, f s ≤ g s) → (l.map f).sum ≤ (l.map g).sum
  | [], _ => by simp
  | a :: l, h => by
    rw [List.map_cons, List.sum_cons, List.map_cons, List.sum_cons]
    have := h a (by simp)
    have := sum_le (l := l) fun s hs => h s (by simp [hs])
    omega
theorem tsz_mem {t : Tr} : ∀ {ts : List Tr}, t ∈ ts → tsz t ≤ tszs ts
  | u :: ts, h => by
    rw [tszs]
    rcases List.mem_cons.mp h with rfl | h
    · omega
    · have := tsz_mem h; omega
theorem tsz_ts {t w : Tr} (h : w ∈ t.ts) : tsz w + 1 ≤ tsz t := by
  obtain ⟨m, ts⟩ := t
  rw [tsz]
  have := tsz_mem (ts := ts) h
  omega
theorem desc_tsz : ∀ (n : Nat) (t u : Tr), tsz t ≤ n → u ∈ desc t → tsz u + 1 ≤ tsz t
  | 0, t, u, hn, h => by obtain ⟨m, ts⟩ := t; rw [tsz] at hn; omega
  | n + 1, t, u, hn, h => by
    obtain ⟨w, hw, e⟩ := desc_mem.mp h
    have h1 := tsz_ts hw
    rcases e with rfl | e
    · exact h1
    · have := desc_tsz n w u (by omega) e
      omega
theorem desc_trans : ∀ (n : Nat) (t u v : Tr), tsz t ≤ n → u ∈ desc t → v ∈ desc u → v ∈ desc t
  | 0, t, u, v, hn, _, _ => by obtain ⟨m, ts⟩ := t; rw [tsz] at hn; omega
  | n + 1, t, u, v, hn, h, h2 => by
    obtain ⟨w, hw, e⟩ := desc_mem.mp h
    have h1 := tsz_ts hw
    rcases e with rfl | e
    · exact desc_mem.mpr ⟨_, hw, .inr h2⟩
    · exact desc_mem.mpr ⟨w, hw, .inr (desc_trans n w u v (by omega) e h2)⟩
theorem tv_shown {a : Sy} {t : Tr} : tv (.shown a) t = true ↔ ∀ u ∈ desc t, tv a u = true := by rw [tv, List.all_eq_true]
theorem tv_up {a : Sy} {t u : Tr} (h : tv (.shown a) t = true) (hu : u ∈ desc t) : tv (.shown a) u = true := tv_shown.mpr fun v hv => tv_shown.mp h v (desc_trans _ t u v (Nat.le_refl _) hu hv)
/-- what holds wherever it holds above, holds above -/
theorem tv_loeb {a : Sy} {t : Tr} (h : ∀ u ∈ desc t, tv (.shown a) u = true → tv a u = true) : tv (.shown a) t = true := by
  have key : ∀ (n : Nat) (u : Tr), tsz u ≤ n → u ∈ desc t → tv a u = true := by
    intro n
    induction n with
    | zero => intro u hn; obtain ⟨m, ts⟩ := u; rw [tsz] at hn; omega
    | succ n ih =>
      intro u hn hu
      refine h u hu (tv_shown.mpr fun v hv => ?_)
      have := desc_tsz _ u v (Nat.le_refl _) hv
      exact ih v (by omega) (desc_trans _ t u v (Nat.le_refl _) hu hv)
  exact tv_shown.mpr fun u hu => key _ u (Nat.le_refl _) hu
/-- shown: it holds in each tree -/
theorem good_tv {S : List Stp} (g : Good S) : ∀ (i : Nat) (x : Stp), S[i]? = some x → ∀ t, clt t x.c = true := by
  intro i
  induction i using Nat.strongRecOn with
  | _ i ih =>
    intro x hx t
    obtain ⟨_, cs, g1, _, g3⟩ := g i x hx
    have hd : ∀ d ∈ cs, ∀ u, clt u d = true := fun d hd u => by
      obtain ⟨m, hm, e⟩ := List.getElem_of_mem hd
      obtain ⟨n, y, _, n2, n3, n4⟩ := g3 m d (by rw [List.getElem?_eq_getElem hm, e])
      rw [← n4]
      exact ih n n2 y n3 u
    by_cases hr : x.r = .up
    · obtain ⟨c, r, s, us⟩ := x
      obtain ⟨l, rr⟩ := c
      dsimp only at hr g1 hd ⊢
      subst hr
      unfold need at g1
      dsimp only at g1
      split at g1
      · rename_i q
        cases s with
        | shown a =>
          have g1 : some [mkC (.shown a :: l.flatMap known1) [a]] = some cs := g1
          cases g1
          unfold clt
          rw [Bool.or_eq_true, List.any_eq_true, List.any_eq_true]
          by_cases hb : ∀ b, Sy.shown b ∈ l → tv (.shown b) t = true
          · refine .inr ⟨_, q, tv_loeb fun u hu hs => ?_⟩
            have hc := hd (mkC (.shown a :: l.flatMap known1) [a]) (by simp) u
            rw [clt_mk, Bool.or_eq_true, List.any_eq_true, List.any_eq_true] at hc
            rcases hc with ⟨y, hy, hv⟩ | ⟨y, hy, hv⟩
            · exfalso
              rcases List.mem_cons.mp hy with rfl | hy
              · rw [hs] at hv; cases hv
              · obtain ⟨b, hb2, e⟩ := known_iff.mp hy
                rcases e with rfl | rfl
                · rw [tv_up (hb b hb2) hu] at hv; cases hv
                · rw [tv_shown.mp (hb _ hb2) u hu] at hv; cases hv
            · rw [List.mem_singleton] at hy; subst hy; exact hv
          · rw [Classical.not_forall] at hb
            obtain ⟨b, hb⟩ := hb
            rw [Classical.not_imp] at hb
            obtain ⟨b1, b2⟩ := hb
            exact .inl ⟨_, b1, by simpa using b2⟩
        | _ => cases g1
      · cases g1
    · rw [need_tv hr g1, List.all_eq_true]
      exact fun d h => hd d h t
/-- a claim that holds in each tree -/
def VC (c : Cl) : Prop := ∀ t, clt t c = true
open Classical in
noncomputable def wdC (c : Cl) : Str := if VC c then "showing" else "tree"
theorem wdC_yes {c : Cl} (h : VC c) : wdC c = "showing" := if_pos h
theorem wdC_no {c : Cl} (h : ¬ VC c) : wdC c = "tree" := if_neg h
theorem Told.vc {c : Cl} {n : Nat} {S : List Stp} {x : Stp} (g : Good S) (h : S.getLast? = some x) (e : x.c = c) : VC c := fun t => by
  rw [List.getLast?_eq_getElem?] at h
  rw [← e]; exact good_tv g _ x h t
theorem Told.word {c : Cl} {n : Nat} {u : U} (h : Told c n u) : ∃ v, u = .tup [.str (wdC c), v] := by
  cases h with
  | shows S x g hl hx hc hcb => rw [wdC_yes (Told.vc (n := n) g hx hc)]; exact ⟨_, rfl⟩
  | tree rs T hl hw h t ht => rw [wdC_no (fun z => by rw [z t] at ht; cases ht)]; exact ⟨_, rfl⟩
theorem rise1 (s : Sy) : Rise [s] := List.pairwise_singleton _ _
/-- how wide a saying is, taken apart at the left (true) or at the right -/
def hw : Bool → Sy → Nat
  | _, .no => 1
  | _, .lt _ => 1
  | _, .shown _ => 1
  | b, .not a => hw (!b) a + 1
  | true, .bin .and a b => hw true a * hw true b + 1
  | false, .bin .and a b => hw false a + hw false b
  | true, .bin .or a b => hw true a + hw true b
  | false, .bin .or a b => hw false a * hw false b + 1
  | true, .bin .iff a b => hw false a + hw true b
  | false, .bin .iff a b => hw true a * hw false b + 1
theorem hw_pos : ∀ (s : Sy) (b : Bool), 1 ≤ hw b s
  | .no, b => by rw [hw]; exact Nat.le_refl _
  | .lt _, b => by rw [hw]; exact Nat.le_refl _
  | .shown _, b => by rw [hw]; exact Nat.le_refl _
  | .not a, b => by rw [hw]; omega
  | .bin o a c, b => by
    have := hw_pos a true; have := hw_pos a false
    cases o <;> cases b <;> rw [hw] <;> omega
def pr (b : Bool) : List Sy → Nat
  | [] => 1
  | s :: l => hw b s * pr b l
theorem pr_pos (b : Bool) : ∀ l, 1 ≤ pr b l
  | [] => Nat.le_refl _
  | s :: l => Nat.mul_pos (hw_pos s b) (pr_pos b l)
theorem pr_app (b : Bool) : ∀ l m, pr b (l ++ m) = pr b l * pr b m
  | [], m => by rw [List.nil_append, pr, Nat.one_mul]
  | s :: l, m => by rw [List.cons_append, pr, pr, pr_app b l m, Nat.mul_assoc]
theorem pr_erase (b : Bool) : ∀ {l : List Sy} {x : Sy}, x ∈ l → pr b l = hw b x * pr b (l.erase x)
  | [], _, h => by cases h
  | a :: l, x, h => by
    by_cases e : a = x
    · subst e; rw [List.erase_cons_head, pr]
    · rw [List.erase_cons_tail (by simpa using e), pr, pr, pr_erase b (l := l) ((List.mem_cons.mp h).resolve_left fun z => e z.symm), Nat.mul_left_comm]
theorem pr_sub (b : Bool) : ∀ {l m : List Sy}, l.Nodup → (∀ x ∈ l, x ∈ m) → pr b l ≤ pr b m
  | [], m, _, _ => pr_pos b m
  | a :: l, m, nd, h => by
    obtain ⟨n1, n2⟩ := List.nodup_cons.mp nd
    rw [pr, pr_erase b (h a (by simp))]
    exact Nat.mul_le_mul_left _ (pr_sub b n2 fun x hx => (List.mem_erase_of_ne (fun (e : x = a) => n1 (e ▸ hx))).mpr (h x (by simp [hx])))
theorem pr_set (b : Bool) (l : List Sy) : pr b (setS l) ≤ pr b l := pr_sub b (setS_nd l) fun _ h => setS_iff.mp h
theorem pr_wo (b : Bool) {l : List Sy} {s : Sy} (nd : l.Nodup) (h : s ∈ l) : pr b l = hw b s * pr b (wo l s) := by
  rw [pr_erase b h]
  have : l.erase s = wo l s := by
    unfold wo
    rw [List.Nodup.erase_eq_filter nd]
    exact List.filter_congr fun x _ => by rw [Bool.eq_iff_iff]; simp
  rw [this]
theorem pr1 (b : Bool) (l : List Sy) (a : Sy) : pr b (l ++ [a]) = pr b l * hw b a := by rw [pr_app, pr, pr, Nat.mul_one]
theorem pr2 (b : Bool) (l : List Sy) (a c : Sy) : pr b (l ++ [a, c]) = pr b l * (hw b a * hw b c) := by rw [pr_app, pr, pr, pr, Nat.mul_one]
def hC (c : Cl) : Nat := pr true c.1 * pr false c.2
theorem hC_pos (c : Cl) : 1 ≤ hC c := Nat.mul_pos (pr_pos _ _) (pr_pos _ _)
theorem hC_mk (l r : List Sy) : hC (mkC l r) ≤ pr true l * pr false r := Nat.mul_le_mul (pr_set _ _) (pr_set _ _)
theorem h_one {X a n m : Nat} (hx : 1 ≤ X) (h1 : n ≤ X * a) (h2 : m = X * (a + 1)) : n + 2 ≤ m + 1 := by
  rw [h2, Nat.mul_add, Nat.mul_one]; omega
theorem h_two {X a b n1 n2 m : Nat} (h1 : n1 ≤ X * a) (h2 : n2 ≤ X * b) (h3 : m = X * (a + b)) : n1 + n2 + 2 ≤ m + 2 := by
  rw [h3, Nat.mul_add]; omega
theorem need_h {Q : List Sy} {c : Cl} (W : WF Q c) {r : Rl} {s : Sy} (hb : brk s = true) (h : (r = .left ∧ s ∈ c.1) ∨ (r = .right ∧ s ∈ c.2)) {cs : List Cl} (e : need c r s = some cs) : (cs.map hC).sum + 2 ≤ hC c + cs.length := by
  obtain ⟨l, rr⟩ := c
  rcases h with ⟨rfl, h⟩ | ⟨rfl, h⟩
  · have h : s ∈ l := h
    unfold need at e
    dsimp only at e
    rw [if_pos h] at e
    have hw0 : pr true l = hw true s * pr true (wo l s) := pr_wo true (rise_ndS W.r1) h
    have hx : 1 ≤ pr true (wo l s) * pr false rr := Nat.mul_pos (pr_pos _ _) (pr_pos _ _)
    have hc : hC (l, rr) = pr true (wo l s) * pr false rr * hw true s := by show pr true l * pr false rr = _; rw [hw0]; ac_rfl
    cases s with
    | no => cases hb
    | lt a => cases hb
    | shown a => cases hb
    | not a =>
      cases e
      simp only [List.map_cons, List.map_nil, List.sum_cons, List.sum_nil, List.length_cons, List.length_nil, Nat.add_zero, Nat.zero_add]
      refine h_one hx (a := hw false a) (Nat.le_trans (hC_mk _ _) (Nat.le_of_eq ?_)) (by rw [hc, hw]; rfl)
      rw [pr1]; ac_rfl
    | bin o a b =>
      cases o with
      | and =>
        cases e
        simp only [List.map_cons, List.map_nil, List.sum_cons, List.sum_nil, List.length_cons, List.length_nil, Nat.add_zero, Nat.zero_add]
        refine h_one hx (a := hw true a * hw true b) (Nat.le_trans (hC_mk _ _) (Nat.le_of_eq ?_)) (by rw [hc, hw])
        rw [pr2]; ac_rfl
      | or =>
        cases e
        simp only [List.map_cons, List.map_nil, List.sum_cons, List.sum_nil, List.length_cons, List.length_nil, Nat.add_zero, Nat.zero_add]
        refine h_two (a := hw true a) (b := hw true b) (Nat.le_trans (hC_mk _ _) (Nat.le_of_eq ?_)) (Nat.le_trans (hC_mk _ _) (Nat.le_of_eq ?_)) (by rw [hc, hw])
        · rw [pr1]; ac_rfl
        · rw [pr1]; ac_rfl
      | iff =>
        cases e
        simp only [List.map_cons, List.map_nil, List.sum_cons, List.sum_nil, List.length_cons, List.length_nil, Nat.add_zero, Nat.zero_add]
        refine h_two (a := hw false a) (b := hw true b) (Nat.le_trans (hC_mk _ _) (Nat.le_of_eq ?_)) (Nat.le_trans (hC_mk _ _) (Nat.le_of_eq ?_)) (by rw [hc, hw])
        · rw [pr1]; ac_rfl
        · rw [pr1]; ac_rfl
  · have h : s ∈ rr := h
    unfold need at e
    dsimp only at e
    rw [if_pos h] at e
    have hw0 : pr false rr = hw false s * pr false (wo rr s) := pr_wo false (rise_ndS W.r2) h
    have hx : 1 ≤ pr true l * pr false (wo rr s) := Nat.mul_pos (pr_pos _ _) (pr_pos _ _)
    have hc : hC (l, rr) = pr true l * pr false (wo rr s) * hw false s := by show pr true l * pr false rr = _; rw [hw0]; ac_rfl
    cases s with
    | no => cases hb
    | lt a => cases hb
    | shown a => cases hb
    | not a =>
      cases e
      simp only [List.map_cons, List.map_nil, List.sum_cons, List.sum_nil, List.length_cons, List.length_nil, Nat.add_zero, Nat.zero_add]
      refine h_one hx (a := hw true a) (Nat.le_trans (hC_mk _ _) (Nat.le_of_eq ?_)) (by rw [hc, hw]; rfl)
      rw [pr1]; ac_rfl
    | bin o a b =>
      cases o with
      | and =>
        cases e
        simp only [List.map_cons, List.map_nil, List.sum_cons, List.sum_nil, List.length_cons, List.length_nil, Nat.add_zero, Nat.zero_add]
        refine h_two (a := hw false a) (b := hw false b) (Nat.le_trans (hC_mk _ _) (Nat.le_of_eq ?_)) (Nat.le_trans (hC_mk _ _) (Nat.le_of_eq ?_)) (by rw [hc, hw])
        · rw [pr1]; ac_rfl
        · rw [pr1]; ac_rfl
      | or =>
        cases e
        simp only [List.map_cons, List.map_nil, List.sum_cons, List.sum_nil, List.length_cons, List.length_nil, Nat.add_zero, Nat.zero_add]
        refine h_one hx (a := hw false a * hw false b) (Nat.le_trans (hC_mk _ _) (Nat.le_of_eq ?_)) (by rw [hc, hw])
        rw [pr2]; ac_rfl
      | iff =>
        cases e
        simp only [List.map_cons, List.map_nil, List.sum_cons, List.sum_nil, List.length_cons, List.length_nil, Nat.add_zero, Nat.zero_add]
        refine h_one hx (a := hw true a * hw false b) (Nat.le_trans (hC_mk _ _) (Nat.le_of_eq ?_)) (by rw [hc, hw])
        rw [pr1, pr1]; ac_rfl
theorem fm_h {f : Cl → List Cl} : ∀ {cs : List Cl}, (∀ d ∈ cs, (f d).length + 1 ≤ 2 * hC d) → (cs.flatMap f).length + cs.length ≤ 2 * (cs.map hC).sum
  | [], _ => by simp
  | d :: cs, h => by
    rw [List.flatMap_cons, List.length_append, List.length_cons, List.map_cons, List.sum_cons]
    have := h d (by simp)
    have := fm_h (cs := cs) fun x hx => h x (by simp [hx])
    omega
theorem lvl_len_h {Q : List Sy} (u : UQ Q) : ∀ (n : Nat) (c : Cl), WF Q c → (lvl n c).length + 1 ≤ 2 * hC c
  | 0, c, _ => by have := hC_pos c; simp [lvl]; omega
  | n + 1, c, W => by
    rw [lvl, List.length_cons]
    have hp := hC_pos c
    cases e : first c with
    | none => simp only [List.length_nil]; omega
    | some p =>
      obtain ⟨r, s⟩ := p
      obtain ⟨cs, h1, h2, _, h3⟩ := brk_kids u W e
      obtain ⟨f1, f2⟩ := first_need e
      have h4 := need_h W f1 f2 h1
      dsimp only
      rw [h1]
      dsimp only
      have := fm_h (f := lvl n) (cs := cs) fun x hx => lvl_len_h u n x (h3 x hx).1
      omega
def prA (a : Sy → Nat) : List Sy → Nat
  | [] => 1
  | x :: l => a x * prA a l
/-- over all parts of a list, and one that is in none: not many -/
theorem sum_add {α : Type} (f g : α → Nat) : ∀ l : List α, (l.map fun x => f x + g x).sum = (l.map f).sum + (l.map g).sum
  | [] => rfl
  | x :: l => by rw [List.map_cons, List.sum_cons, sum_add f g l, List.map_cons, List.sum_cons, List.map_cons, List.sum_cons]; omega
theorem sum_mul {α : Type} (c : Nat) (f : α → Nat) : ∀ l : List α, (l.map fun x => c * f x).sum = c * (l.map f).sum
  | [] => rfl
  | x :: l => by rw [List.map_cons, List.sum_cons, sum_mul c f l, List.map_cons, List.sum_cons, Nat.mul_add]
theorem subl_sum (a : Sy → Nat) : ∀ l : List Sy, ((subl l).map (prA a)).sum = prA (fun x => a x + 1) l
  | [] => rfl
  | x :: l => by
    rw [subl, List.map_append, List.sum_append, List.map_map]
    have e : ((subl l).map (prA a ∘ (x :: ·))).sum = a x * ((subl l).map (prA a)).sum := by
      rw [← sum_mul]; rfl
    rw [e, subl_sum a l, prA, Nat.add_mul, Nat.one_mul]; omega
def restS (a : Sy → Nat) (l T : List Sy) : Nat := ((l.filter fun s => !decide (s ∈ T)).map a).sum
theorem subl_rest (a : Sy → Nat) : ∀ {l : List Sy}, l.Nodup → ((subl l).map fun T => prA a T * restS a l T).sum ≤ l.length * prA (fun x => a x + 1) l
  | [], _ => by simp [subl, prA, restS]
  | x :: l, nd => by
    obtain ⟨n1, n2⟩ := List.nodup_cons.mp nd
    have ih := subl_rest a n2
    rw [subl, List.map_append, List.sum_append, List.map_map]
    have e1 : ((subl l).map fun T => prA a T * restS a (x :: l) T).sum = a x * ((subl l).map (prA a)).sum + ((subl l).map fun T => prA a T * restS a l T).sum := by
      rw [← sum_mul, ← sum_add]
      congr 1
      refine List.map_congr_left fun T hT => ?_
      have hx : x ∉ T := fun z => n1 ((subl_sub hT).subset z)
      unfold restS
      rw [List.filter_cons_of_pos (by simpa using hx), List.map_cons, List.sum_cons, Nat.mul_add, Nat.mul_comm (a x)]
    have e2 : ((subl l).map ((fun T => prA a T * restS a (x :: l) T) ∘ (x :: ·))).sum = a x * ((subl l).map fun T => prA a T * restS a l T).sum := by
      rw [← sum_mul]
      congr 1
      refine List.map_congr_left fun T hT => ?_
      show prA a (x :: T) * restS a (x :: l) (x :: T) = _
      have e : restS a (x :: l) (x :: T) = restS a l T := by
        unfold restS
        rw [List.filter_cons_of_neg (by simp)]
        congr 2
        refine List.filter_congr fun s hs => ?_
        have : s ≠ x := fun z => n1 (z ▸ hs)
        simp [this]
      rw [e, prA, Nat.mul_assoc]
    rw [e1, e2, subl_sum, prA, List.length_cons]
    generalize prA (fun x => a x + 1) l = P at *
    generalize ((subl l).map fun T => prA a T * restS a l T).sum = R at *
    have h1 : a x * R ≤ a x * (l.length * P) := Nat.mul_le_mul_left _ ih
    have h2 : (l.length + 1) * ((a x + 1) * P) = a x * (l.length * P) + l.length * P + a x * P + P := by
      rw [Nat.add_mul, Nat.one_mul, Nat.add_mul (a x) 1 P, Nat.one_mul, Nat.mul_add, ← Nat.mul_assoc, Nat.mul_comm l.length (a x), Nat.mul_assoc]; omega
    omega
theorem fm_sum {α β : Type} (f : α → List β) (g : α → Nat) : ∀ {l : List α}, (∀ x ∈ l, (f x).length ≤ g x) → (l.flatMap f).length ≤ (l.map g).sum
  | [], _ => by simp
  | x :: l, h => by
    rw [List.flatMap_cons, List.length_append, List.map_cons, List.sum_cons]
    have := h x (by simp)
    have := fm_sum f g (l := l) fun y hy => h y (by simp [hy])
    omega
/-- how wide what a shown part tells is -/
def aw (x : Sy) : Nat := max (pr true (known1 x)) (hw false (kidS x))
theorem pr_known : ∀ T : List Sy, pr true (T.flatMap known1) ≤ prA aw T
  | [] => Nat.le_refl _
  | x :: T => by
    rw [List.flatMap_cons, pr_app, prA]
    exact Nat.mul_le_mul (Nat.le_max_left _ _) (pr_known T)
theorem hC_up {T : List Sy} {s : Sy} (hs : isShown s = true) : hC (upc T s) ≤ prA aw T * aw s := by
  unfold upc
  refine Nat.le_trans (hC_mk _ _) ?_
  have e : hw true s = 1 := by cases s <;> first | rfl | cases hs
  rw [pr, e, Nat.one_mul, pr, pr, Nat.mul_one]
  exact Nat.mul_le_mul (pr_known T) (Nat.le_max_right _ _)
theorem RC_len_w {Q : List Sy} (u : UQ Q) (nd : (SL Q).Nodup) {c0 : Cl} (W : WF Q c0) : (RC Q c0).length ≤ 2 * hC c0 + 2 * ((SL Q).length * prA (fun x => aw x + 1) (SL Q)) := by
  unfold RC
  rw [List.length_append]
  have h1 := lvl_len_h u (wC c0) c0 W
  have h2 : ((UC Q).flatMap fun v => lvl (wC v) v).length ≤ ((UC Q).map fun v => 2 * hC v).sum := fm_sum _ _ fun v hv => by
    have := lvl_len_h u (wC v) v (UC_wf u hv).1
    omega
  have h3 : ((UC Q).map fun v => 2 * hC v).sum ≤ 2 * ((subl (SL Q)).map fun T => prA aw T * restS aw (SL Q) T).sum := by
    rw [sum_mul]
    refine Nat.mul_le_mul_left _ ?_
    unfold UC
    have key : ∀ Ts : List (List Sy), ((Ts.flatMap fun T => ((SL Q).filter fun s => !decide (s ∈ T)).map (upc T)).map hC).sum ≤ (Ts.map fun T => prA aw T * restS aw (SL Q) T).sum := by
      intro Ts
      induction Ts with
      | nil => simp
      | cons T Ts ih =>
        rw [List.flatMap_cons, List.map_append, List.sum_append, List.map_cons, List.sum_cons]
        refine Nat.add_le_add ?_ ih
        unfold restS
        rw [← sum_mul, List.map_map]
        exact sum_le fun s hs => hC_up (List.mem_filter.mp (List.mem_filter.mp hs).1).2
    exact key _
  have h4 := subl_rest aw nd
  omega

/-- not and shown ahead of a letter -/
def chn : Sy → Bool
  | .lt _ => true
  | .not a => chn a
  | .shown a => chn a
  | _ => false
theorem chn_hw : ∀ (s : Sy) (b : Bool), chn s = true → hw b s = cn s + 1
  | .no, _, h => by simp [chn] at h
  | .lt _, b, _ => by cases b <;> rfl
  | .not a, b, h => by rw [hw, cn, chn_hw a (!b) h]
  | .shown a, b, _ => by cases b <;> rfl
  | .bin _ _ _, _, h => by simp [chn] at h
theorem chn_parts : ∀ {s x : Sy}, chn s = true → x ∈ partsL s → chn x = true
  | .no, _, h, _ => by simp [chn] at h
  | .lt l, x, _, hx => by simp only [partsL, List.mem_singleton] at hx; subst hx; rfl
  | .not a, x, h, hx => by
    rw [partsL, List.mem_cons] at hx
    rcases hx with rfl | hx
    · exact h
    · exact chn_parts (s := a) h hx
  | .shown a, x, h, hx => by
    rw [partsL, List.mem_cons] at hx
    rcases hx with rfl | hx
    · exact h
    · exact chn_parts (s := a) h hx
  | .bin _ _ _, _, h, _ => by simp [chn] at h
theorem chn_aw {x : Sy} (h : chn x = true) (hs : isShown x = true) : aw x ≤ cn (kidS x) + 1 := by
  cases x with
  | shown a =>
    have h : chn a = true := h
    have e : pr true (known1 (.shown a)) = cn a + 1 := by
      show pr true [.shown a, a] = _
      rw [pr, pr, pr, chn_hw a true h]
      show 1 * ((cn a + 1) * 1) = _
      omega
    unfold aw
    rw [e, show kidS (.shown a) = a from rfl, chn_hw a false h]
    omega
  | _ => simp [isShown] at hs
/-- the tangent -/
theorem tan7 : ∀ n : Nat, n ≤ 45 → (n + 2) * 7 ^ n * 8 ^ 5 ≤ 7 ^ 6 * 8 ^ n := by decide +kernel
theorem prA_mono {a b : Sy → Nat} : ∀ {l : List Sy}, (∀ x ∈ l, a x ≤ b x) → prA a l ≤ prA b l
  | [], _ => Nat.le_refl _
  | x :: l, h => Nat.mul_le_mul (h x (by simp)) (prA_mono fun y hy => h y (by simp [hy]))
theorem prod_tan (n : Sy → Nat) : ∀ l : List Sy, (∀ x ∈ l, n x ≤ 45) → prA (fun x => n x + 2) l * 7 ^ (l.map n).sum * 8 ^ (5 * l.length) ≤ 7 ^ (6 * l.length) * 8 ^ (l.map n).sum
  | [], _ => by simp [prA]
  | x :: l, h => by
    have h1 := tan7 (n x) (h x (by simp))
    have h2 := prod_tan n l fun y hy => h y (by simp [hy])
    have h3 := Nat.mul_le_mul h1 h2
    rw [prA, List.map_cons, List.sum_cons, List.length_cons, Nat.pow_add, Nat.pow_add, show 5 * (l.length + 1) = 5 + 5 * l.length by omega, show 6 * (l.length + 1) = 6 + 6 * l.length by omega, Nat.pow_add, Nat.pow_add]
    calc (n x + 2) * prA (fun x => n x + 2) l * (7 ^ n x * 7 ^ (l.map n).sum) * (8 ^ 5 * 8 ^ (5 * l.length))
        = ((n x + 2) * 7 ^ n x * 8 ^ 5) * (prA (fun x => n x + 2) l * 7 ^ (l.map n).sum * 8 ^ (5 * l.length)) := by ac_rfl
      _ ≤ (7 ^ 6 * 8 ^ n x) * (7 ^ (6 * l.length) * 8 ^ (l.map n).sum) := h3
      _ = 7 ^ 6 * 7 ^ (6 * l.length) * (8 ^ n x * 8 ^ (l.map n).sum) := by ac_rfl
theorem num7 : ∀ k : Nat, k ≤ 6 → ∀ S : Nat, S ≤ 39 → 7 ^ (6 * k) * 8 ^ S < 400000 * 7 ^ S * 8 ^ (5 * k) := by decide +kernel
theorem mem_sum_le {n : Sy → Nat} : ∀ {l : List Sy} {x : Sy}, x ∈ l → n x ≤ (l.map n).sum
  | a :: l, x, h => by
    rw [List.map_cons, List.sum_cons]
    rcases List.mem_cons.mp h with rfl | h
    · omega
    · have := mem_sum_le (n := n) h; omega
theorem prod_small (n : Sy → Nat) {l : List Sy} (hl : l.length ≤ 6) (hs : (l.map n).sum ≤ 39) : prA (fun x => n x + 2) l ≤ 400000 := by
  have h1 := prod_tan n l fun x hx => by have := mem_sum_le (n := n) hx; omega
  have h2 := num7 _ hl _ hs
  refine Nat.le_of_not_lt fun z => ?_
  have h3 : 400000 * 7 ^ (l.map n).sum * 8 ^ (5 * l.length) ≤ prA (fun x => n x + 2) l * 7 ^ (l.map n).sum * 8 ^ (5 * l.length) := Nat.mul_le_mul_right _ (Nat.mul_le_mul_right _ (Nat.le_of_lt z))
  omega
/-- claims of rows: not too many are met -/
theorem rows_RC {Q : List Sy} (u : UQ Q) (nd : (SL Q).Nodup) {c0 : Cl} (W : WF Q c0) (hch : ∀ x ∈ SL Q, chn x = true) (h6 : (SL Q).length ≤ 6) (hsp : SPw Q ≤ 39) (hc : hC c0 ≤ 1000000) : (RC Q c0).length ≤ 9000000 := by
  have h1 := RC_len_w u nd W
  have h2 : prA (fun x => aw x + 1) (SL Q) ≤ prA (fun x => cn (kidS x) + 2) (SL Q) := prA_mono fun x hx => by
    have := chn_aw (hch x hx) (List.mem_filter.mp hx).2
    omega
  have h3 := prod_small (fun x => cn (kidS x)) h6 hsp
  have h4 : (SL Q).length * prA (fun x => aw x + 1) (SL Q) ≤ 6 * 400000 := Nat.mul_le_mul h6 (Nat.le_trans h2 h3)
  omega
/-- .. and the search comes to an end -/
theorem rows_search {k : Nat} {l r : List Sy} (rl : Rise l) (rr : Rise r) (h : ∀ s ∈ l, s.size ≤ 90) (h2 : ∀ s ∈ r, s.size ≤ 90) (hl : l.length ≤ 20) (hl2 : r.length ≤ 20) (hch : ∀ s, s ∈ l ∨ s ∈ r → chn s = true) (n6 : (SL (QC l r)).length ≤ 6) (q40 : (QC l r).length ≤ 40)
    (hsp : SPw (QC l r) ≤ 39) (hc : hC (l, r) ≤ 1000000) (hm : mu (QC l r) (l, r) ≤ 195) : Ok (sh_searched (k + 594) [clU (l, r)]) (Told (l, r) (SL (QC l r)).length) :=
  sh_search195 rl rr h h2 hl hl2 n6 q40 (rows_RC (QC_uq h h2 q40) ((setS_nd _).filter _) (QC_wf rl rr) (fun x hx => by
    obtain ⟨s, h1, h3⟩ := QC_mem.mp (List.mem_filter.mp hx).1
    exact chn_parts (hch s h1) h3) n6 hsp hc) hm
/-- a row's letter, its nots, its shown ones -/
def ltr : Sy → Lt
  | .lt l => l
  | .not a => ltr a
  | .shown a => ltr a
  | _ => .p
def nots : Sy → Nat
  | .not a => nots a + 1
  | .shown a => nots a
  | _ => 0
theorem chn_size : ∀ {s : Sy}, chn s = true → s.size = nots s + nsh s + 1
  | .no, h => by simp [chn] at h
  | .lt _, _ => rfl
  | .not a, h => by have := chn_size (s := a) h; simp only [Sy.size, nots, nsh]; omega
  | .shown a, h => by have := chn_size (s := a) h; simp only [Sy.size, nots, nsh]; omega
  | .bin _ _ _, h => by simp [chn] at h
theorem chn_op : ∀ {s : Sy}, chn s = true → op s = nots s + nsh s
  | .no, h => by simp [chn] at h
  | .lt _, _ => rfl
  | .not a, h => by have := chn_op (s := a) h; simp only [op, nots, nsh]; omega
  | .shown a, h => by have := chn_op (s := a) h; simp only [op, nots, nsh]; omega
  | .bin _ _ _, h => by simp [chn] at h
theorem chn_ltr : ∀ {s x : Sy}, chn s = true → x ∈ partsL s → ltr x = ltr s
  | .no, _, h, _ => by simp [chn] at h
  | .lt l, x, _, hx => by simp only [partsL, List.mem_singleton] at hx; subst hx; rfl
  | .not a, x, h, hx => by
    rw [partsL, List.mem_cons] at hx
    rcases hx with rfl | hx
    · rfl
    · exact chn_ltr (s := a) h hx
  | .shown a, x, h, hx => by
    rw [partsL, List.mem_cons] at hx
    rcases hx with rfl | hx
    · rfl
    · exact chn_ltr (s := a) h hx
  | .bin _ _ _, _, h, _ => by simp [chn] at h
/-- a row's parts are unlike one another -/
theorem chn_nd : ∀ {s : Sy}, chn s = true → (partsL s).Nodup
  | .no, h => by simp [chn] at h
  | .lt _, _ => by simp [partsL]
  | .not a, h => by
    rw [partsL, List.nodup_cons]
    exact ⟨fun z => by have := parts_size z; simp only [Sy.size] at this; omega, chn_nd (s := a) h⟩
  | .shown a, h => by
    rw [partsL, List.nodup_cons]
    exact ⟨fun z => by have := parts_size z; simp only [Sy.size] at this; omega, chn_nd (s := a) h⟩
  | .bin _ _ _, h => by simp [chn] at h
theorem rows_nd : ∀ {ss : List Sy}, (∀ s ∈ ss, chn s = true) → (ss.map ltr).Nodup → (ss.flatMap partsL).Nodup
  | [], _, _ => by simp
  | s :: ss, h, nd => by
    rw [List.map_cons, List.nodup_cons] at nd
    rw [List.flatMap_cons]
    refine List.nodup_append.mpr ⟨chn_nd (h s (by simp)), rows_nd (fun t ht => h t (by simp [ht])) nd.2, fun x hx y hy e => ?_⟩
    subst e
    obtain ⟨t, ht, hxt⟩ := List.mem_flatMap.mp hy
    have e1 := chn_ltr (h s (by simp)) hx
    have e2 := chn_ltr (h t (by simp [ht])) hxt
    exact nd.1 (by rw [← e1, e2]; exact List.mem_map_of_mem ht)
/-- how many parts, shown parts and nots a claim of rows has -/
theorem rows_QC {l r : List Sy} (h : ∀ s ∈ l ++ r, chn s = true) (nd : ((l ++ r).map ltr).Nodup) :
    (QC l r).length = ((l ++ r).map Sy.size).sum ∧ (SL (QC l r)).length = ((l ++ r).map nsh).sum ∧ SPw (QC l r) + ((l ++ r).map cn).sum = ((l ++ r).map nots).sum := by
  have hn := rows_nd h nd
  have hp : (QC l r).Perm ((l ++ r).flatMap partsL) := (List.perm_ext_iff_of_nodup (setS_nd _) hn).mpr fun x => setS_iff
  have hs : (SL (QC l r)).Perm (((l ++ r).flatMap partsL).filter isShown) := hp.filter _
  have h2 : (SL (QC l r)).length = ((l ++ r).map nsh).sum := by rw [hs.length_eq, nsh_fm]
  refine ⟨?_, h2, ?_⟩
  · rw [hp.length_eq, sum_fm]
    simp only [partsL_len]
  · have e1 : SPw (QC l r) = ((((l ++ r).flatMap partsL).filter isShown).map fun s => cn (kidS s)).sum :=
      Nat.le_antisymm (sum_sub _ ((setS_nd _).filter _) fun x hx => hs.mem_iff.mp hx) (sum_sub _ (hn.filter _) fun x hx => hs.mem_iff.mpr hx)
    have e2 := sum_p1 (fun s => cn (kidS s)) (((l ++ r).flatMap partsL).filter isShown)
    have e3 : spn ((l ++ r).flatMap partsL) = ((((l ++ r).flatMap partsL).filter isShown).map fun s => cn (kidS s) + 1).sum := rfl
    have e4 := spn_fm (l ++ r)
    have e5 : ((l ++ r).map fun s => spn (partsL s)).sum + ((l ++ r).map cn).sum = ((l ++ r).map nots).sum + ((l ++ r).map nsh).sum := by
      rw [← sum_add, ← sum_add]
      congr 1
      refine List.map_congr_left fun s hs => ?_
      have a := spn_parts s
      have b := chn_op (h s hs)
      omega
    have e6 : (((l ++ r).flatMap partsL).filter isShown).length = ((l ++ r).map nsh).sum := nsh_fm _
    omega
theorem ups_in {Q : List Sy} (nd : Q.Nodup) {c : Cl} {s : Sy} (h1 : s ∈ c.1) (h2 : isShown s = true) (h3 : s ∈ Q) : ups Q c + 1 ≤ (SL Q).length := by
  unfold ups
  have : (s :: Q.filter fun s => isShown s && !decide (s ∈ c.1)).length ≤ (SL Q).length := by
    refine len_sub (List.nodup_cons.mpr ⟨fun z => ?_, nd.filter _⟩) fun x hx => ?_
    · have := (List.mem_filter.mp z).2
      simp [h1] at this
    · rcases List.mem_cons.mp hx with rfl | hx
      · exact List.mem_filter.mpr ⟨h3, h2⟩
      · obtain ⟨a, b⟩ := List.mem_filter.mp hx
        rw [Bool.and_eq_true] at b
        exact List.mem_filter.mpr ⟨a, b.1⟩
  simpa using this
theorem chn_cn0 {s : Sy} (h : chn s = true) (h1 : 1 ≤ nots s) (h0 : cn s = 0) : isShown s = true := by
  cases s <;> simp_all [chn, nots, cn, isShown]
/-- the measure of a claim of rows -/
theorem rows_mu {l r : List Sy} (h : ∀ s ∈ l ++ r, chn s = true) (nd : ((l ++ r).map ltr).Nodup) (h6 : ((l ++ r).map nsh).sum ≤ 6) (h39 : ((l ++ r).map nsh).sum + ((l ++ r).map nots).sum ≤ 39)
    (hb : ((l ++ r).map nsh).sum ≤ 5 ∨ ((l ++ r).map nots).sum ≤ 31 ∨ (((l ++ r).map nots).sum ≤ 32 ∧ ∃ s ∈ l, 1 ≤ nots s)) : mu (QC l r) (l, r) ≤ 195 := by
  obtain ⟨_, q2, q3⟩ := rows_QC h nd
  have hu := ups_SL (QC l r) (l, r)
  have hw : wC (l, r) = ((l ++ r).map cn).sum := by
    show wl l + wl r = _
    rw [List.map_append, List.sum_append]; rfl
  unfold mu
  rw [hw]
  rw [q2] at hu
  have lim : ∀ U : Nat, ups (QC l r) (l, r) ≤ U → ups (QC l r) (l, r) * (SPw (QC l r) + 1) ≤ U * (SPw (QC l r) + 1) := fun U hU => Nat.mul_le_mul_right _ hU
  by_cases b1 : ((l ++ r).map nsh).sum ≤ 5
  · have h5 : ((l ++ r).map nsh).sum = 0 ∨ ((l ++ r).map nsh).sum = 1 ∨ ((l ++ r).map nsh).sum = 2 ∨ ((l ++ r).map nsh).sum = 3 ∨ ((l ++ r).map nsh).sum = 4 ∨ ((l ++ r).map nsh).sum = 5 := by omega
    rcases h5 with e | e | e | e | e | e
    · have := lim 0 (by omega); omega
    · have := lim 1 (by omega); omega
    · have := lim 2 (by omega); omega
    · have := lim 3 (by omega); omega
    · have := lim 4 (by omega); omega
    · have := lim 5 (by omega); omega
  rcases hb with b | b | ⟨b, s, hs, hs1⟩
  · exact absurd b b1
  · have := lim 6 (by omega); omega
  · by_cases hc : ((l ++ r).map cn).sum = 0
    · have h0 : cn s = 0 := by
        have := mem_sum_le (n := cn) (List.mem_append_left r hs)
        omega
      have hsh := chn_cn0 (h s (List.mem_append_left _ hs)) hs1 h0
      have := ups_in (Q := QC l r) (setS_nd _) (c := (l, r)) hs hsh (QC_mem.mpr ⟨s, .inl hs, parts_self s⟩)
      rw [q2] at this
      have := lim 5 (by omega); omega
    · have := lim 6 (by omega); omega
theorem rows_pr (b : Bool) : ∀ {l : List Sy}, (∀ s ∈ l, chn s = true) → pr b l = prA (fun x => cn x + 1) l
  | [], _ => rfl
  | s :: l, h => by rw [pr, prA, chn_hw s b (h s (by simp)), rows_pr b fun t ht => h t (by simp [ht])]
theorem prA_app (a : Sy → Nat) : ∀ l m : List Sy, prA a (l ++ m) = prA a l * prA a m
  | [], m => by rw [List.nil_append, prA, Nat.one_mul]
  | s :: l, m => by rw [List.cons_append, prA, prA, prA_app a l m, Nat.mul_assoc]
theorem rows_sz : ∀ {l : List Sy}, (∀ s ∈ l, chn s = true) → (l.map Sy.size).sum = (l.map nots).sum + (l.map nsh).sum + l.length
  | [], _ => rfl
  | s :: l, h => by
    have a := chn_size (h s (by simp))
    have b := rows_sz (l := l) fun t ht => h t (by simp [ht])
    simp only [List.map_cons, List.sum_cons, List.length_cons]; omega
theorem rows_hC {l r : List Sy} (h : ∀ s ∈ l ++ r, chn s = true) : hC (l, r) = prA (fun x => cn x + 1) (l ++ r) := by
  show pr true l * pr false r = _
  rw [rows_pr true fun s hs => h s (List.mem_append_left _ hs), rows_pr false fun s hs => h s (List.mem_append_right _ hs), prA_app]
/-- what a claim of rows comes to in a search -/
def Srch (l r : List Sy) : Prop := ∀ k : Nat, if 40 < (QC l r).length ∨ 6 < (SL (QC l r)).length then sh_searched (k + 594) [clU (l, r)] = .err "TooMany" [] else Ok (sh_searched (k + 594) [clU (l, r)]) (Told (l, r) (SL (QC l r)).length)
/-- the search of a claim of rows: told, or refused -/
theorem rows_told {l r : List Sy} (rl : Rise l) (rr : Rise r) (h : ∀ s ∈ l ++ r, chn s = true) (nd : ((l ++ r).map ltr).Nodup) (hz : ∀ s ∈ l ++ r, s.size ≤ 90) (h1 : 1 ≤ (l ++ r).length) (hl : l.length ≤ 3) (hl2 : r.length ≤ 3)
    (hb : ((l ++ r).map Sy.size).sum ≤ 40 → ((l ++ r).map nsh).sum ≤ 6 → ((l ++ r).map nsh).sum ≤ 5 ∨ ((l ++ r).map nots).sum ≤ 31 ∨ (((l ++ r).map nots).sum ≤ 32 ∧ ∃ s ∈ l, 1 ≤ nots s)) : Srch l r := by
  intro k
  obtain ⟨q1, q2, q3⟩ := rows_QC h nd
  have z1 : ∀ s ∈ l, s.size ≤ 90 := fun s hs => hz s (List.mem_append_left _ hs)
  have z2 : ∀ s ∈ r, s.size ≤ 90 := fun s hs => hz s (List.mem_append_right _ hs)
  have hs := rows_sz h
  split
  · rename_i c
    exact sh_searchX rl rr z1 z2 (by omega) (by omega) c
  · rename_i c
    rw [q1, q2] at c
    have c1 : ((l ++ r).map Sy.size).sum ≤ 40 := by omega
    have c2 : ((l ++ r).map nsh).sum ≤ 6 := by omega
    have hb := hb c1 c2
    have h39 : ((l ++ r).map nsh).sum + ((l ++ r).map nots).sum ≤ 39 := by omega
    refine rows_search rl rr z1 z2 (by omega) (by omega) (fun s hs => h s (List.mem_append.mpr hs)) (by omega) (by omega) (by omega) ?_ (rows_mu h nd c2 h39 hb)
    rw [rows_hC h]
    refine Nat.le_trans (prA_mono (b := fun x => cn x + 2) fun x _ => by omega) (Nat.le_trans (prod_small cn (by rw [List.length_append]; omega) (by omega)) (by decide))
/-- .. so with a letter of right at left, too -/
theorem rows_told2 {l r : List Sy} {m : Lt} (hm : .lt m ∈ r) (rm : Rise (.lt m :: l)) (rl : Rise l) (rr : Rise r) (h : ∀ s ∈ l ++ r, chn s = true) (nd : ((l ++ r).map ltr).Nodup) (hz : ∀ s ∈ l ++ r, s.size ≤ 90) (h1 : 1 ≤ (l ++ r).length) (hl : l.length ≤ 3) (hl2 : r.length ≤ 3)
    (hb : ((l ++ r).map Sy.size).sum ≤ 40 → ((l ++ r).map nsh).sum ≤ 6 → ((l ++ r).map nsh).sum ≤ 5 ∨ ((l ++ r).map nots).sum ≤ 31 ∨ (((l ++ r).map nots).sum ≤ 32 ∧ ∃ s ∈ l, 1 ≤ nots s)) : Srch (.lt m :: l) r := by
  intro k
  have eQ : QC (.lt m :: l) r = QC l r := by
    unfold QC
    refine setS_ext fun s => ?_
    simp only [List.mem_flatMap, List.mem_append, List.mem_cons]
    constructor
    · rintro ⟨t, (rfl | h1) | h1, h2⟩
      · exact ⟨_, .inr hm, h2⟩
      · exact ⟨_, .inl h1, h2⟩
      · exact ⟨_, .inr h1, h2⟩
    · rintro ⟨t, h1 | h1, h2⟩
      · exact ⟨_, .inl (.inr h1), h2⟩
      · exact ⟨_, .inr h1, h2⟩
  obtain ⟨q1, q2, q3⟩ := rows_QC h nd
  have z1 : ∀ s ∈ Sy.lt m :: l, s.size ≤ 90 := fun s hs => by
    rcases List.mem_cons.mp hs with rfl | hs
    · simp [Sy.size]
    · exact hz s (List.mem_append_left _ hs)
  have z2 : ∀ s ∈ r, s.size ≤ 90 := fun s hs => hz s (List.mem_append_right _ hs)
  have hs := rows_sz h
  rw [eQ]
  split
  · rename_i c
    exact sh_searchX rm rr z1 z2 (by simp; omega) (by omega) (by rw [eQ]; exact c)
  · rename_i c
    rw [q1, q2] at c
    have c1 : ((l ++ r).map Sy.size).sum ≤ 40 := by omega
    have c2 : ((l ++ r).map nsh).sum ≤ 6 := by omega
    have hb := hb c1 c2
    have h39 : ((l ++ r).map nsh).sum + ((l ++ r).map nots).sum ≤ 39 := by omega
    have emu : mu (QC l r) (.lt m :: l, r) ≤ mu (QC l r) (l, r) := by
      unfold mu
      have e1 : wC (.lt m :: l, r) = wC (l, r) := by
        show wl (.lt m :: l) + wl r = wl l + wl r
        unfold wl; rw [List.map_cons, List.sum_cons]; simp [cn]
      rw [e1]
      exact Nat.add_le_add_right (Nat.mul_le_mul_right _ (ups_le (setS_nd _) fun s _ h => List.mem_cons_of_mem _ h)) _
    have e := rows_search (k := k) rm rr z1 z2 (by simp; omega) (by omega) (fun s hs => by
      rcases hs with hs | hs
      · rcases List.mem_cons.mp hs with rfl | hs
        · rfl
        · exact h s (List.mem_append_left _ hs)
      · exact h s (List.mem_append_right _ hs)) (by rw [eQ]; omega) (by rw [eQ]; omega) (by rw [eQ]; omega) (by
      have e2 : hC (.lt m :: l, r) = hC (l, r) := by
        show pr true (.lt m :: l) * pr false r = pr true l * pr false r
        rw [pr]; simp [hw]
      rw [e2, rows_hC h]
      exact Nat.le_trans (prA_mono (b := fun x => cn x + 2) fun x _ => by omega) (Nat.le_trans (prod_small cn (by rw [List.length_append]; omega) (by omega)) (by decide))) (by rw [eQ]; exact Nat.le_trans emu (rows_mu h nd c2 h39 hb))
    rw [eQ] at e
    exact e

theorem sh_cell {k : Nat} {ns : List Int} {i : Int} (h : 0 ≤ i) (h2 : i < 1000000000) (hn : ns.length ≤ 63) : Ok (sh__law_cell_at (k + 1) [.fzl (ns.map .int), .int i]) fun u => ∃ c : Int, u = .int c ∧ 0 ≤ c := by
  rw [sh__law_cell_at, lenM_fzl, M.bind_ok, eqM_int, M.bind_ok, List.length_map]
  refine Ok.ite (fun _ => ?_) fun hz => ?_
  · rw [mulM_l (by omega) (by omega)]
    walk_at "ms"
    exact ⟨_, rfl, Int.emod_nonneg _ (by decide)⟩
  · have hz := of_decide_eq_false hz
    have hl : (0 : Int) < ns.length := by omega
    rw [M.bind_ok, modM_int hl, M.bind_ok]
    obtain ⟨u, hu, e⟩ := ixM_any (i := i % ns.length) (x := .fzl (ns.map .int)) rfl (Int.emod_nonneg _ (by omega)) (by rw [List.length_map]; exact Int.emod_lt_of_pos _ hl)
    obtain ⟨n, _, rfl⟩ := List.mem_map.mp hu
    rw [e, M.bind_ok, mulM_l (i := i) (j := i) (by omega) (by omega)]
    walk_at "ms"
    exact ⟨_, rfl, Int.emod_nonneg _ (by decide)⟩

theorem sh_unlG {k : Nat} {ss : List Sy} {x : U} (hx : itemsL x = some (ss.map su)) (h : ∀ s ∈ ss, s.ht ≤ 180) (hl : ss.length ≤ 1000000) : sh__law_unlike (k + 1) [x] = .ok ((setS ss).map su) := by
  rw [sh__law_unlike, sortedM_su hx h, M.bind_ok, iterL_lst, M.bind_ok]
  refine (congrArg (fun m => M.bind m _) (forN_fold (fun ts : List Sy => ts.map su) su (fun told one => if told.getLast? = some one then told else told ++ [one]) (fun n ts => ts.length ≤ n ∧ ∀ s ∈ ts, s.ht ≤ 180) (sortS ss) [] ⟨Nat.le_refl _, by simp⟩ fun n ts x hn hI hm => ⟨once_step (by have := (sortS_perm ss).length_eq; omega) x ?_, onceI h hI hm⟩)).trans rfl
  cases ts with
  | nil => rfl
  | cons t ts =>
    rw [eqM_nil (pls_su _) (by simp), M.bind_ok, if_neg (by simp)]
    exact last_ne hI.2 x (by simp)
theorem sh_unl {k : Nat} {ss : List Sy} {x : U} (hx : itemsL x = some (ss.map su)) (h : ∀ s ∈ ss, s.ht ≤ 100) (hl : ss.length ≤ 1000000) : sh__law_unlike (k + 1) [x] = .ok ((setS ss).map su) := sh_unlG hx (fun s hs => by have := h s hs; omega) hl

theorem sh_lparts : ∀ (k : Nat) (s : Sy), s.ht ≤ k → s.size ≤ 1000000 → sh__law_parts k [su s] = .ok ((partsL s).map su)
  | 0, s, h, _ => by have := Sy.ht_pos s; omega
  | k + 1, s, h, hs => by
    rw [sh__law_parts, endM_int, M.bind_ok, sl_su, M.bind_ok, iterT_tup, M.bind_ok]
    have one : ∀ (x : Sy) (acc : List U), x.ht ≤ k → x.size ≤ 1000000 → acc.length + x.size < 10000000 →
        ((isiM (su x) "tuple").bind fun z6 => (boolM z6).bind fun b7 => if b7 = true then (sh__law_parts k [su x]).bind fun z8 => (extM acc (.lst z8)).bind fun l9 => M.ok l9 else M.ok acc) = .ok (acc ++ (partsL x).map su) := by
      intro x acc h1 h2 h3
      rw [isi_su, M.bind_ok, boolM_bl, M.bind_ok, if_pos rfl, sh_lparts k x h1 h2, M.bind_ok, extM_ok (by rw [List.length_map, partsL_len]; omega)]; rfl
    cases s with
    | no => rfl
    | lt l => rfl
    | not a =>
      simp only [Sy.ht, Sy.size] at h hs
      simp only [tl, forN, one a _ (by omega : a.ht ≤ k) (by omega) (show [su (.not a)].length + a.size < 10000000 by simp only [List.length_cons, List.length_nil]; omega), M.bind_ok]
      simp [partsL]
    | shown a =>
      simp only [Sy.ht, Sy.size] at h hs
      simp only [tl, forN, one a _ (by omega : a.ht ≤ k) (by omega) (show [su (.shown a)].length + a.size < 10000000 by simp only [List.length_cons, List.length_nil]; omega), M.bind_ok]
      simp [partsL]
    | bin o a b =>
      simp only [Sy.ht, Sy.size] at h hs
      simp only [tl, forN, one a _ (by omega : a.ht ≤ k) (by omega) (show [su (.bin o a b)].length + a.size < 10000000 by simp only [List.length_cons, List.length_nil]; omega), M.bind_ok, one b _ (by omega : b.ht ≤ k) (by omega) (show ([su (.bin o a b)] ++ (partsL a).map su).length + b.size < 10000000 by simp only [List.length_append, List.length_map, partsL_len, List.length_cons, List.length_nil]; omega)]
      simp [partsL]

section
variable {k : Nat} {ls rs : List Sy}
theorem sh_lcparts (h : ∀ s ∈ ls, s.size ≤ 90) (h2 : ∀ s ∈ rs, s.size ≤ 90) (hl : ls.length ≤ 20) (hl2 : rs.length ≤ 20) : sh__law_claim_parts (k + 101) [.tup [.lst (ls.map su), .lst (rs.map su)]] = .ok ((setS ((ls ++ rs).flatMap partsL)).map su) := by
  have hz : ∀ s ∈ ls ++ rs, s.size ≤ 90 := fun s hs => by rcases List.mem_append.mp hs with z | z; exact h s z; exact h2 s z
  have hf := flat_len partsL 90 (ls ++ rs) fun s hs => by rw [partsL_len]; exact hz s hs
  rw [List.length_append] at hf
  rw [sh__law_claim_parts, ix_t0, M.bind_ok, ix_t1, M.bind_ok, addM_lst (by rw [List.length_map, List.length_map]; omega), M.bind_ok, iterL_lst, M.bind_ok, ← List.map_append, forN_ext partsL (ls ++ rs) [], M.bind_ok]
  · rw [List.nil_append, sh_unl (k := k + 99) rfl (fun s hs => by
      obtain ⟨t, ht, hs⟩ := List.mem_flatMap.mp hs
      have := parts_ht hs; have := pv_ht (hz t ht); omega) (by omega)]; rfl
  · intro acc x hx ha
    have := hz x hx
    rw [sh_lparts (k + 100) x (by have := pv_ht this; omega) (by omega), M.bind_ok, extM_ok (by rw [List.length_map]; exact ha)]; rfl
  · simp only [List.length_nil]; omega
end

/-! what the law's own reckoning tells of a claim's needs -/
theorem sh_lclm {k : Nat} {ls rs : List Sy} (h : ∀ s ∈ ls, s.ht ≤ 150) (hl : ls.length ≤ 1000000) (h2 : ∀ s ∈ rs, s.ht ≤ 150) (hl2 : rs.length ≤ 1000000) : sh__law_claim (k + 2) [.lst (ls.map su), .lst (rs.map su)] = .ok (clU (mkC ls rs)) := by
  rw [sh__law_claim, sh_unlG rfl (fun s hs => by have := h s hs; omega) hl, M.bind_ok, sh_unlG rfl (fun s hs => by have := h2 s hs; omega) hl2]; rfl
theorem inM_lstb {x : Str} {us : List U} {b : Bool} (h : (PyData.plainAll (pyUs us) && (pl (.str x) && decide (min (PyData.depthAll (pyUs us)) (dp (.str x)) ≤ 190))) = true) (h2 : (us.any fun e => PyData.eqv (pyU e) (pyU (.str x))) = b) : inM (.str x) (.lst us) = .ok b := by
  unfold inM seqU
  dsimp only
  rw [if_pos h, h2]
section
variable {k : Nat} {l r : List Sy}
end
/-- a row: letter, nots, shown ones -/
theorem sh_row {k : Nat} {l : Lt} {m n : Nat} {c : Int} (hm : m + n < 1000) : ∃ s : Sy, sh__law_row (k + 1) [.str l.s, .int (m : Nat), .int (n : Nat), .int c] = .ok (su s) ∧ chn s = true ∧ ltr s = l ∧ nots s = m ∧ nsh s = n := by
  rw [sh__law_row, addM_int, M.bind_ok, range1M_int (by omega) (by omega), M.bind_ok]
  suffices q : Ok (forN _ (rangeU 0 ((m : Int) + (n : Int)).toNat) (U.tup [.str "letter", .str l.s], U.int (n : Nat), U.int (m : Nat), U.int c)) fun st => ∃ (s : Sy), st.1 = su s ∧ chn s = true ∧ ltr s = l ∧ nots s = m ∧ nsh s = n by
    obtain ⟨⟨a, b, d, e⟩, e1, s, e2, hs⟩ := q
    exact ⟨s, (congrArg (fun m => M.bind m _) e1).trans (congrArg M.ok e2), hs⟩
  have hlen : (rangeU 0 ((m : Int) + (n : Int)).toNat).length = m + n := by rw [rangeU_len]; omega
  refine Ok.mono (forN_inv (fun i (st : U × U × U × U) => ∃ (s : Sy) (m' n' : Nat) (c' : Int), st = (su s, .int (n' : Nat), .int (m' : Nat), .int c') ∧ chn s = true ∧ ltr s = l ∧ nots s + m' = m ∧ nsh s + n' = n ∧ m' + n' + i = m + n) _ 0 _ ⟨.lt l, m, n, c, rfl, rfl, rfl, by simp [nots], by simp [nsh], by omega⟩ ?_) ?_
  · rintro i x _ _ hx ⟨s, m', n', c', rfl, h1, h2, h3, h4, h5⟩
    have hi : i < m + n := by
      have := (List.getElem?_eq_some_iff.mp hx).1
      omega
    obtain ⟨j, hj, rfl⟩ := rangeU_mem (List.mem_of_getElem? hx)
    dsimp only
    have hb : ∃ b : Bool, ((gtM (.int (n' : Nat)) (.int 0)).bind fun b8 => if b8 = true then ((eqM (.int (m' : Nat)) (.int 0)).bind fun b9 => if b9 = true then M.ok true else (modM (.int c') (.int 3)).bind fun z10 => (eqM z10 (.int 1)).bind fun b11 => .ok b11).bind fun b12 => .ok b12 else .ok false) = .ok b ∧ (b = true → 0 < n') ∧ (b = false → 0 < m') := by
      rw [gtM_int, M.bind_ok]
      by_cases hn : 0 < n'
      · rw [decide_eq_true (by omega), if_pos rfl, eqM_int, M.bind_ok]
        by_cases hm0 : m' = 0
        · rw [decide_eq_true (by omega), if_pos rfl]; exact ⟨true, rfl, fun _ => hn, fun z => absurd z (by decide)⟩
        · rw [decide_eq_false (by omega), if_neg (by simp), modM_int (by decide), M.bind_ok, eqM_int]
          exact ⟨_, rfl, fun _ => hn, fun _ => by omega⟩
      · rw [decide_eq_false (by omega), if_neg (by simp)]
        exact ⟨false, rfl, fun z => absurd z (by decide), fun _ => by omega⟩
    obtain ⟨b, eb, b1, b2⟩ := hb
    rw [eb, M.bind_ok]
    cases b with
    | true =>
      have := b1 rfl
      rw [if_pos rfl, subM_int, M.bind_ok, M.bind_ok]
      dsimp only
      rw [fdivM_int (by decide) (by decide), M.bind_ok, mulM_l (by decide) (by decide), M.bind_ok, addM_int, M.bind_ok]
      exact ⟨_, rfl, .shown s, m', n' - 1, _, by rw [show ((n' : Nat) : Int) - 1 = ((n' - 1 : Nat) : Int) by omega]; rfl, h1, h2, h3, by simp only [nsh]; omega, by omega⟩
    | false =>
      have := b2 rfl
      rw [if_neg (by simp), subM_int, M.bind_ok, M.bind_ok]
      dsimp only
      rw [fdivM_int (by decide) (by decide), M.bind_ok, mulM_l (by decide) (by decide), M.bind_ok, addM_int, M.bind_ok]
      exact ⟨_, rfl, .not s, m' - 1, n', _, by rw [show ((m' : Nat) : Int) - 1 = ((m' - 1 : Nat) : Int) by omega]; rfl, h1, h2, by simp only [nots]; omega, h4, by omega⟩
  · rintro _ ⟨s, m', n', c', rfl, h1, h2, h3, h4, h5⟩
    rw [hlen] at h5
    exact ⟨s, rfl, h1, h2, by omega, by omega⟩
theorem lt_chn {a : Sy} (h : chn a = true) (h1 : 1 ≤ nots a) (l : Lt) : Sy.ltS (.lt l) a = true := by
  cases a with
  | not a => rfl
  | shown a => rfl
  | no => simp [chn] at h
  | lt m => simp [nots] at h1
  | bin o a b => simp [chn] at h
theorem rise2 {a : Sy} (h : chn a = true) (h1 : 1 ≤ nots a) (l : Lt) : Rise [.lt l, a] :=
  List.pairwise_cons.mpr ⟨fun b hb => by rw [List.mem_singleton] at hb; subst hb; exact lt_chn h h1 l, rise1 a⟩
theorem set_one (a : Sy) : setS [a] = [a] := (setS_is (rise1 a) fun _ => Iff.rfl).symm
theorem set_two {a : Sy} (h : chn a = true) (h1 : 1 ≤ nots a) (l : Lt) : setS [a, .lt l] = [.lt l, a] := (setS_is (rise2 h h1 l) fun s => by simp [or_comm]).symm
/-- what is due -/
def dueS (l r : List Sy) : Str := if 40 < (QC l r).length ∨ 6 < (SL (QC l r)).length then "many" else "told"
theorem sh_ldue {k : Nat} {l r : List Sy} (h : ∀ s ∈ l, s.size ≤ 90) (h2 : ∀ s ∈ r, s.size ≤ 90) (hl : l.length ≤ 20) (hl2 : r.length ≤ 20) : sh__law_due (k + 102) [.tup [.lst (l.map su), .lst (r.map su)]] = .ok (.str (dueS l r)) := by
  rw [sh__law_due, sh_lcparts h h2 hl hl2, M.bind_ok, lenM_lst, M.bind_ok, gtM_int, M.bind_ok, List.length_map]
  have hlen := setS_len ((l ++ r).flatMap partsL)
  unfold dueS SL QC
  by_cases c : 40 < (setS ((l ++ r).flatMap partsL)).length
  · rw [decide_eq_true (by omega), if_pos rfl, M.bind_ok, if_pos rfl, if_pos (.inl c)]
  · rw [decide_eq_false (by omega), if_neg (by simp), iterL_lst, M.bind_ok, compF_ok su isShown su (by omega) (fun x _ => by
          rw [ix_su0, M.bind_ok, eqM_str, M.bind_ok]
          congr 1
          cases x with
          | bin o a b => cases o <;> rfl
          | _ => rfl) (fun _ _ _ => rfl), M.bind_ok, lenM_lst, M.bind_ok, gtM_int, M.bind_ok, M.bind_ok, List.length_map]
    by_cases c2 : 6 < ((setS ((l ++ r).flatMap partsL)).filter isShown).length
    · rw [decide_eq_true (by omega), if_pos rfl, if_pos (.inr c2)]
    · rw [decide_eq_false (by omega), if_neg (by simp), if_neg (by rintro (z | z) <;> omega)]
/-- what is asked, and the word told of it -/
def wordsK : List Str := ["showing", "tree", "alike", "unlike"]
theorem toldE {k : Nat} {w c : U} (e : sh__law_asked (k + 1) [w, c] = .err "TooMany" []) : sh__law_told (k + 2) [w, c] = .ok (.str "many") := by
  rw [sh__law_told, e]
  have e2 : sh__law_alone (k + 1) [.exc "TooMany" []] = .ok (.bl true) := by rw [sh__law_alone]; rfl
  rw [M.bind_err, tryK_err, if_pos (by decide), e2]; rfl
theorem toldW {k : Nat} {w c : U} {x : Str} {us : List U} (hx : x ∈ wordsK) (hu : us ≠ []) (e : sh__law_asked (k + 1) [w, c] = .ok (.tup (.str x :: us))) : sh__law_told (k + 2) [w, c] = .ok (.str "told") := by
  rw [sh__law_told, e]
  have hn : decide ((1 : Int) < ((U.str x :: us).length : Nat)) = true := by
    cases us with
    | nil => exact absurd rfl hu
    | cons a as => simp only [List.length_cons]; exact decide_eq_true (by omega)
  have hi : inM (.str x) (.lst [.str "showing", .str "tree", .str "alike", .str "unlike"]) = .ok true := by
    simp only [wordsK, List.mem_cons, List.not_mem_nil, or_false] at hx
    rcases hx with rfl | rfl | rfl | rfl <;> exact inM_lstb (by decide +kernel) (by decide +kernel)
  rw [M.bind_ok, tryK_ok, isi_tup, M.bind_ok, boolM_bl, M.bind_ok, if_pos rfl, show lenM (.tup (.str x :: us)) = .ok (.int ((U.str x :: us).length : Nat)) from rfl, M.bind_ok, gtM_int, M.bind_ok, hn, if_pos rfl, ix_t0, M.bind_ok, hi, M.bind_ok, M.bind_ok, if_pos rfl, M.bind_ok]
theorem wdC_k (c : Cl) : wdC c = "showing" ∨ wdC c = "tree" := by unfold wdC; split <;> simp
theorem bok {α : Type} (m : M α) : (m.bind fun z => M.ok z) = m := by cases m <;> rfl
/-- a search is asked -/
theorem ask_one {k j : Nat} {w c : U} {l r : List Sy} (S : Srch l r) (e : sh__law_asked (k + 1) [w, c] = sh_searched j [clU (l, r)]) (hj : 594 ≤ j) : sh__law_told (k + 2) [w, c] = .ok (.str (dueS l r)) := by
  have S := S (j - 594)
  rw [show j - 594 + 594 = j by omega] at S
  unfold dueS
  split at S
  · rename_i q
    rw [if_pos q]
    exact toldE (e.trans S)
  · rename_i q
    rw [if_neg q]
    obtain ⟨u, e2, T⟩ := S
    obtain ⟨v, rfl⟩ := T.word
    refine toldW (x := wdC (l, r)) (us := [v]) ?_ (by simp) (e.trans e2)
    rcases wdC_k (l, r) with q | q <;> rw [q] <;> simp [wordsK]
theorem QC_comm (l r : List Sy) : QC l r = QC r l := by
  unfold QC
  refine setS_ext fun s => ?_
  simp only [List.mem_flatMap, List.mem_append]
  exact ⟨fun ⟨t, h, h2⟩ => ⟨t, h.symm, h2⟩, fun ⟨t, h, h2⟩ => ⟨t, h.symm, h2⟩⟩
section
variable {a b : Sy} {l : List Sy}
theorem clm_ok {k : Nat} {l : List Sy} (h : ∀ s ∈ l, s.ht ≤ 150) (hl : l.length ≤ 1000000) (rl : Rise l) (hb : b.ht ≤ 150) : sh_claim_of (k + 3) [.lst (l.map su), .lst [su b]] = .ok (clU (l, [b])) := by
  have e := sh_clm (k := k) (ls := l) (rs := [b]) h hl (fun s hs => by rw [List.mem_singleton] at hs; subst hs; exact hb) (by simp)
  unfold mkC at e
  rw [set_one, setS_fix rl] at e
  exact e
theorem ix_lt2 {x y : U} : ixM (.lst [x, y]) (.int (-1)) = .ok y := ix_last (us := [x])
theorem ask0 {k : Nat} {c : U} : sh__law_asked (k + 1) [.int 0, c] = sh_searched k [c] := by
  rw [sh__law_asked, eqM_int, M.bind_ok, if_pos (by decide), bok]
theorem ask1 {k : Nat} {x : U} (hb : b.ht ≤ 150) : sh__law_asked (k + 5) [.int 1, .tup [x, .lst [su (.lt .r), su b]]] = sh_searched (k + 3) [clU ([], [b])] := by
  have e := clm_ok (k := k) (b := b) (l := []) (by simp) (by simp) List.Pairwise.nil hb
  have e : sh_claim_of (k + 3) [.lst [], .lst [su b]] = _ := e
  rw [sh__law_asked, eqM_int, M.bind_ok, if_neg (by decide), eqM_int, M.bind_ok, if_pos (by decide), ix_t1, M.bind_ok, negM_int, M.bind_ok, ix_lt2, M.bind_ok, bok, sh_judged, e, M.bind_ok, bok]
theorem ask2 {k : Nat} (h : ∀ s ∈ l, s.ht ≤ 150) (hl : l.length ≤ 1000000) (rl : Rise l) (hb : b.ht ≤ 150) : sh__law_asked (k + 5) [.int 2, .tup [.lst (l.map su), .lst [su (.lt .r), su b]]] = sh_searched (k + 3) [clU (l, [b])] := by
  rw [sh__law_asked, eqM_int, M.bind_ok, if_neg (by decide), eqM_int, M.bind_ok, if_neg (by decide), eqM_int, M.bind_ok, if_pos (by decide), ix_t0, M.bind_ok, ix_t1, M.bind_ok, negM_int, M.bind_ok, ix_lt2, M.bind_ok, bok, sh_follows, clm_ok h hl rl hb, M.bind_ok, bok]
theorem ask3 {k : Nat} (hx : ∃ us, l.map su = us ++ [su a]) : sh__law_asked (k + 1) [.int 3, .tup [.lst (l.map su), .lst [su (.lt .r), su b]]] = sh_alike k [su a, su b] := by
  obtain ⟨us, hx⟩ := hx
  rw [sh__law_asked, eqM_int, M.bind_ok, if_neg (by decide), eqM_int, M.bind_ok, if_neg (by decide), eqM_int, M.bind_ok, if_neg (by decide), ix_t0, M.bind_ok, negM_int, M.bind_ok, hx, ix_last, M.bind_ok, ix_t1, M.bind_ok, M.bind_ok, ix_lt2, M.bind_ok, bok]
theorem told_alike {k : Nat} {w c : U} (ha : a.ht ≤ 150) (hb : b.ht ≤ 150) (S1 : Srch [a] [b]) (S2 : Srch [b] [a]) (e : sh__law_asked (k + 5 + 594) [w, c] = sh_alike (k + 4 + 594) [su a, su b]) : sh__law_told (k + 6 + 594) [w, c] = .ok (.str (dueS [a] [b])) := by
  have S1 := S1 (k + 3)
  have S2 := S2 (k + 3)
  rw [QC_comm [b] [a]] at S2
  have c1 := clm_ok (k := k + 594) (l := [a]) (b := b) (fun s hs => by rw [List.mem_singleton] at hs; subst hs; exact ha) (by simp) (rise1 a) hb
  have c2 := clm_ok (k := k + 594) (l := [b]) (b := a) (fun s hs => by rw [List.mem_singleton] at hs; subst hs; exact hb) (by simp) (rise1 b) ha
  have c1 : sh_claim_of (k + 3 + 594) [.lst [su a], .lst [su b]] = .ok (clU ([a], [b])) := by rw [show k + 3 + 594 = k + 594 + 3 by omega]; exact c1
  have c2 : sh_claim_of (k + 3 + 594) [.lst [su b], .lst [su a]] = .ok (clU ([b], [a])) := by rw [show k + 3 + 594 = k + 594 + 3 by omega]; exact c2
  rw [show k + 4 + 594 = k + 3 + 594 + 1 by omega, sh_alike, c1, M.bind_ok] at e
  rw [show k + 5 + 594 = k + 4 + 594 + 1 by omega] at e
  rw [show k + 6 + 594 = k + 4 + 594 + 2 by omega]
  unfold dueS
  split at S1
  · rename_i q
    rw [if_pos q]
    exact toldE (by rw [e, S1]; rfl)
  · rename_i q
    rw [if_neg q] at S2 ⊢
    obtain ⟨u, e1, T1⟩ := S1
    obtain ⟨v, rfl⟩ := T1.word
    obtain ⟨u2, e2, T2⟩ := S2
    obtain ⟨v2, rfl⟩ := T2.word
    rw [e1, M.bind_ok, ix_t0, M.bind_ok, eqM_str, M.bind_ok] at e
    rcases wdC_k ([a], [b]) with q1 | q1
    · rw [q1, if_neg (by decide), c2, M.bind_ok, e2, M.bind_ok, ix_t0, M.bind_ok, eqM_str, M.bind_ok] at e
      rcases wdC_k ([b], [a]) with q2 | q2
      · rw [q2, if_neg (by decide), ix_t1, M.bind_ok, ix_t1, M.bind_ok] at e
        exact toldW (x := "alike") (by simp [wordsK]) (by simp) e
      · rw [q2, if_pos (by decide), ix_t1, M.bind_ok] at e
        exact toldW (x := "unlike") (by simp [wordsK]) (by simp) e
    · rw [q1, if_pos (by decide), ix_t1, M.bind_ok] at e
      exact toldW (x := "unlike") (by simp [wordsK]) (by simp) e
end
/-- the four askings -/
theorem asked_all {a b : Sy} {m n s0 s1 : Nat} {f : Bool} (ca : chn a = true) (cb : chn b = true) (la : ltr a = .p) (lb : ltr b = .q) (na : nots a = m) (nb : nots b = n) (ea : nsh a = s0) (eb : nsh b = s1) (h0 : s0 ≤ 3) (h1 : s1 ≤ 4) (hm : 1 ≤ m) (hn : 1 ≤ n) (hx : m + n + s0 + s1 ≤ 42) :
    ∃ l : List Sy, l = (if f = true then [.lt .r, a] else [a]) ∧ Rise l ∧ Rise [.lt .r, b] ∧ Srch l [.lt .r, b] ∧ Srch [] [b] ∧ Srch l [b] ∧ Srch [a] [b] ∧ Srch [b] [a] := by
  have za := chn_size ca
  have zb := chn_size cb
  have ra := rise2 ca (by omega) .r
  have rb := rise2 cb (by omega) .r
  have T : ∀ (l r : List Sy), Rise l → Rise r → (∀ s ∈ l ++ r, s = a ∨ s = b ∨ s = .lt .r) → ((l ++ r).map ltr).Nodup → 1 ≤ (l ++ r).length → l.length ≤ 3 → r.length ≤ 3 → (((l ++ r).map Sy.size).sum ≤ 40 → ((l ++ r).map nsh).sum ≤ 6 → ((l ++ r).map nsh).sum ≤ 5 ∨ ((l ++ r).map nots).sum ≤ 31 ∨ (((l ++ r).map nots).sum ≤ 32 ∧ ∃ s ∈ l, 1 ≤ nots s)) → Srch l r := fun l r rl rr hs nd i1 i2 i3 hb =>
    rows_told rl rr (fun s q => by rcases hs s q with rfl | rfl | rfl; exact ca; exact cb; rfl) nd (fun s q => by rcases hs s q with rfl | rfl | rfl; omega; omega; simp [Sy.size]) i1 i2 i3 hb
  have T2 : ∀ (l r : List Sy), .lt .r ∈ r → Rise (.lt .r :: l) → Rise l → Rise r → (∀ s ∈ l ++ r, s = a ∨ s = b ∨ s = .lt .r) → ((l ++ r).map ltr).Nodup → 1 ≤ (l ++ r).length → l.length ≤ 3 → r.length ≤ 3 → (((l ++ r).map Sy.size).sum ≤ 40 → ((l ++ r).map nsh).sum ≤ 6 → ((l ++ r).map nsh).sum ≤ 5 ∨ ((l ++ r).map nots).sum ≤ 31 ∨ (((l ++ r).map nots).sum ≤ 32 ∧ ∃ s ∈ l, 1 ≤ nots s)) → Srch (.lt .r :: l) r := fun l r q rm rl rr hs nd i1 i2 i3 hb =>
    rows_told2 q rm rl rr (fun s q => by rcases hs s q with rfl | rfl | rfl; exact ca; exact cb; rfl) nd (fun s q => by rcases hs s q with rfl | rfl | rfl; omega; omega; simp [Sy.size]) i1 i2 i3 hb
  have e0 : nots (.lt .r) = 0 := rfl
  have e1 : nsh (.lt .r) = 0 := rfl
  have e2 : Sy.size (.lt .r) = 1 := rfl
  have e3 : ltr (.lt .r) = .r := rfl
  refine ⟨_, rfl, ?_, rb, ?_, ?_, ?_, ?_, ?_⟩
  · split
    · exact ra
    · exact rise1 a
  · split
    · refine T2 [a] [.lt .r, b] (by simp) ra (rise1 a) rb (by simp) (by simp [la, lb, e3]) (by simp) (by simp) (by simp) ?_
      simp only [List.cons_append, List.nil_append, List.map_cons, List.map_nil, List.sum_cons, List.sum_nil, e0, e1, e2, na, nb, ea, eb]
      intro q1 q2; omega
    · refine T [a] [.lt .r, b] (rise1 a) rb (by simp) (by simp [la, lb, e3]) (by simp) (by simp) (by simp) ?_
      simp only [List.cons_append, List.nil_append, List.map_cons, List.map_nil, List.sum_cons, List.sum_nil, e0, e1, e2, na, nb, ea, eb]
      intro q1 q2; omega
  · refine T [] [b] List.Pairwise.nil (rise1 b) (by simp) (by simp) (by simp) (by simp) (by simp) ?_
    simp only [List.cons_append, List.nil_append, List.map_cons, List.map_nil, List.sum_cons, List.sum_nil, nb, eb]
    intro q1 q2; omega
  · split
    · refine T [.lt .r, a] [b] ra (rise1 b) (by simp) (by simp [la, lb, e3]) (by simp) (by simp) (by simp) ?_
      simp only [List.cons_append, List.nil_append, List.map_cons, List.map_nil, List.sum_cons, List.sum_nil, e0, e1, e2, na, nb, ea, eb]
      intro q1 q2; omega
    · refine T [a] [b] (rise1 a) (rise1 b) (by simp) (by simp [la, lb]) (by simp) (by simp) (by simp) ?_
      simp only [List.cons_append, List.nil_append, List.map_cons, List.map_nil, List.sum_cons, List.sum_nil, na, nb, ea, eb]
      intro q1 q2
      by_cases z : s0 + s1 ≤ 5
      · exact .inl (by omega)
      · exact .inr (.inr ⟨by omega, a, by simp, by omega⟩)
  · refine T [a] [b] (rise1 a) (rise1 b) (by simp) (by simp [la, lb]) (by simp) (by simp) (by simp) ?_
    simp only [List.cons_append, List.nil_append, List.map_cons, List.map_nil, List.sum_cons, List.sum_nil, na, nb, ea, eb]
    intro q1 q2
    by_cases z : s0 + s1 ≤ 5
    · exact .inl (by omega)
    · exact .inr (.inr ⟨by omega, a, by simp, by omega⟩)
  · refine T [b] [a] (rise1 b) (rise1 a) (fun s hs => by simp only [List.cons_append, List.nil_append, List.mem_cons, List.not_mem_nil, or_false] at hs; rcases hs with h | h <;> simp [h]) (by simp [la, lb]) (by simp) (by simp) (by simp) ?_
    simp only [List.cons_append, List.nil_append, List.map_cons, List.map_nil, List.sum_cons, List.sum_nil, na, nb, ea, eb]
    intro q1 q2
    by_cases z : s0 + s1 ≤ 5
    · exact .inl (by omega)
    · exact .inr (.inr ⟨by omega, b, by simp, by omega⟩)
theorem toNat_ex {i : Int} (h : 0 ≤ i) : ∃ n : Nat, i = n := ⟨i.toNat, (Int.toNat_of_nonneg h).symm⟩
theorem sl_l2 {x y : U} : slM (.lst [x, y]) (some (-1)) none = .ok (.lst [y]) := rfl
theorem sl_l1 {y : U} : slM (.lst [y]) (some (-1)) none = .ok (.lst [y]) := rfl
theorem pure_law (ns : List Int) (hn : ns.length ≤ 63) : sh_law (600 + 1) [.fzl (ns.map .int)] = .ok (.bl true) := by
  obtain ⟨_, d0, c0, rfl, h0⟩ := sh_cell (k := 599) (ns := ns) (i := 0) (by decide) (by decide) hn
  obtain ⟨_, d1, c1, rfl, h1⟩ := sh_cell (k := 599) (ns := ns) (i := 1) (by decide) (by decide) hn
  obtain ⟨_, d2, c2, rfl, h2⟩ := sh_cell (k := 599) (ns := ns) (i := 2) (by decide) (by decide) hn
  obtain ⟨_, d3, c3, rfl, h3⟩ := sh_cell (k := 599) (ns := ns) (i := 3) (by decide) (by decide) hn
  rw [sh_law, d0, M.bind_ok, d1, M.bind_ok, modM_int (by decide), M.bind_ok, fdivM_int (by decide) (by decide), M.bind_ok, modM_int (by decide), M.bind_ok, fdivM_int (by decide) (by decide), M.bind_ok, modM_int (by decide), M.bind_ok, addM_int, M.bind_ok]
  obtain ⟨s0, e0⟩ := toNat_ex (i := c0 % 4) (by omega)
  obtain ⟨s1, e1⟩ := toNat_ex (i := c0 / 4 % 5) (by omega)
  obtain ⟨x, ex⟩ := toNat_ex (i := c0 / 20 % 9) (by omega)
  have b0 : s0 ≤ 3 := by omega
  have b1 : s1 ≤ 4 := by omega
  have bx : x ≤ 8 := by omega
  rw [e0, e1, ex]
  have sm := sumM_ints (bs := [(s0 : Int), (s1 : Int)])
  simp only [List.map_cons, List.map_nil, List.sum_cons, List.sum_nil] at sm
  obtain ⟨mm, em⟩ : ∃ mm : Nat, (34 + (x : Int) - ((s0 : Int) + ((s1 : Int) + 0))) = mm := ⟨34 + x - (s0 + s1), by omega⟩
  have bm : mm + s0 + s1 ≤ 42 ∧ 27 ≤ mm := by omega
  rw [sm, M.bind_ok, subM_int, M.bind_ok, em, subM_int, M.bind_ok, modM_int (by omega), M.bind_ok, addM_int, M.bind_ok]
  obtain ⟨fi, ef⟩ := toNat_ex (i := 1 + c1 % ((mm : Int) - 1)) (by have := Int.emod_nonneg c1 (b := (mm : Int) - 1) (by omega); omega)
  have bf : 1 ≤ fi ∧ fi + 1 ≤ mm := by
    have := Int.emod_nonneg c1 (b := (mm : Int) - 1) (by omega)
    have := Int.emod_lt_of_pos c1 (b := (mm : Int) - 1) (by omega)
    omega
  rw [ef, ix_l0, M.bind_ok, d2, M.bind_ok]
  obtain ⟨A, ra, ca, la, na, sa⟩ := sh_row (k := 599) (l := .p) (m := fi) (n := s0) (c := c2) (by omega)
  have ra : sh__law_row 600 [.str "p", .int fi, .int s0, .int c2] = .ok (su A) := ra
  obtain ⟨nn, en⟩ : ∃ nn : Nat, ((mm : Int) - (fi : Int)) = nn := ⟨mm - fi, by omega⟩
  obtain ⟨B, rb, cb, lb, nb, sb⟩ := sh_row (k := 599) (l := .q) (m := nn) (n := s1) (c := c3) (by omega)
  have rb : sh__law_row 600 [.str "q", .int nn, .int s1, .int c3] = .ok (su B) := rb
  rw [ra, M.bind_ok, subM_int, M.bind_ok, en, ix_l1, M.bind_ok, d3, M.bind_ok, rb, M.bind_ok, fdivM_int (by decide) (by decide), M.bind_ok, modM_int (by decide), M.bind_ok]
  have za := chn_size ca
  have zb := chn_size cb
  have ha := Sy.ht_size A
  have hb := Sy.ht_size B
  have key : ∃ f : Bool, ∀ kk : U → M U, ((lmulM (.lst [.tup [.str "letter", .str "r"]]) (.int (c1 / 40 % 2))).bind fun z23 => (addM (.lst [su A]) z23).bind fun z24 => (sh__law_claim 600 [z24, .lst [su B, .tup [.str "letter", .str "r"]]]).bind kk) = kk (clU ((if f = true then [.lt .r, A] else [A]), [.lt .r, B])) := by
    rcases (show c1 / 40 % 2 = 0 ∨ c1 / 40 % 2 = 1 by omega) with q | q
    · refine ⟨false, fun kk => ?_⟩
      have e := sh_lclm (k := 598) (ls := [A]) (rs := [B, .lt .r]) (fun s hs => by rw [List.mem_singleton] at hs; subst hs; omega) (by simp) (fun s hs => by simp only [List.mem_cons, List.not_mem_nil, or_false] at hs; rcases hs with rfl | rfl; omega; simp [Sy.ht]) (by simp)
      have e : sh__law_claim 600 [.lst [su A], .lst [su B, .tup [.str "letter", .str "r"]]] = _ := e
      unfold mkC at e
      rw [set_one, set_two cb (by omega)] at e
      rw [q, lmulM_0 (by simp), M.bind_ok, addM_lst (by simp), M.bind_ok, List.append_nil, e, M.bind_ok, if_neg (by simp)]
    · refine ⟨true, fun kk => ?_⟩
      have e := sh_lclm (k := 598) (ls := [A, .lt .r]) (rs := [B, .lt .r]) (fun s hs => by simp only [List.mem_cons, List.not_mem_nil, or_false] at hs; rcases hs with rfl | rfl; omega; simp [Sy.ht]) (by simp) (fun s hs => by simp only [List.mem_cons, List.not_mem_nil, or_false] at hs; rcases hs with rfl | rfl; omega; simp [Sy.ht]) (by simp)
      have e : sh__law_claim 600 [.lst ([su A] ++ [.tup [.str "letter", .str "r"]]), .lst [su B, .tup [.str "letter", .str "r"]]] = _ := e
      unfold mkC at e
      rw [set_two ca (by omega), set_two cb (by omega)] at e
      rw [q, lmulM_1 (by simp), M.bind_ok, addM_lst (by simp), M.bind_ok, e, M.bind_ok, if_pos rfl]
  obtain ⟨f, key⟩ := key
  rw [key]
  obtain ⟨l, hl, rl, rr, S0, S1, S2, S3, S4⟩ := asked_all (f := f) ca cb la lb na nb sa sb b0 b1 (by omega) (by omega) (by omega)
  rw [← hl]
  have hlen : l.length ≤ 2 := by rw [hl]; split <;> simp
  have hel : ∀ s ∈ l, s.size ≤ 90 := by
    intro s hs
    rw [hl] at hs
    split at hs
    · simp only [List.mem_cons, List.not_mem_nil, or_false] at hs
      rcases hs with rfl | rfl
      · simp [Sy.size]
      · omega
    · rw [List.mem_singleton] at hs; subst hs; omega
  have her : ∀ s ∈ [Sy.lt .r, B], s.size ≤ 90 := by
    intro s hs
    simp only [List.mem_cons, List.not_mem_nil, or_false] at hs
    rcases hs with rfl | rfl
    · simp [Sy.size]
    · omega
  have heb : ∀ s ∈ [B], s.size ≤ 90 := fun s hs => her s (List.mem_cons_of_mem _ hs)
  have hea : ∀ s ∈ [A], s.size ≤ 90 := fun s hs => by rw [List.mem_singleton] at hs; subst hs; omega
  have hlast : ∃ us, l.map su = us ++ [su A] := by
    rw [hl]; split
    · exact ⟨[su (.lt .r)], rfl⟩
    · exact ⟨[], rfl⟩
  have hsl : slM (.lst (l.map su)) (some (-1)) none = .ok (.lst [su A]) := by
    rw [hl]; split
    · exact sl_l2
    · exact sl_l1
  have u0 := sh_ldue (k := 498) hel her (by omega) (by simp)
  have u0 : sh__law_due 600 [clU (l, [.lt .r, B])] = .ok (.str (dueS l [.lt .r, B])) := u0
  have u1 := sh_ldue (k := 498) (l := []) (by simp) heb (by simp) (by simp)
  have u1 : sh__law_due 600 [.tup [.lst [], .lst [su B]]] = .ok (.str (dueS [] [B])) := u1
  have u2 := sh_ldue (k := 498) hel heb (by omega) (by simp)
  have u2 : sh__law_due 600 [.tup [.lst (l.map su), .lst [su B]]] = .ok (.str (dueS l [B])) := u2
  have u3 := sh_ldue (k := 498) hea heb (by simp) (by simp)
  have u3 : sh__law_due 600 [.tup [.lst [su A], .lst [su B]]] = .ok (.str (dueS [A] [B])) := u3
  have i0 : ixM (clU (l, [.lt .r, B])) (.int 0) = .ok (.lst (l.map su)) := ix_t0
  have i1 : ixM (clU (l, [.lt .r, B])) (.int 1) = .ok (.lst [su (.lt .r), su B]) := ix_t1
  rw [i0, M.bind_ok, listM_lst, M.bind_ok, i1, M.bind_ok, listM_lst, M.bind_ok, u0, M.bind_ok, M.bind_ok, negM_int, M.bind_ok, endM_int, M.bind_ok, sl_l2, M.bind_ok, u1, M.bind_ok, M.bind_ok, M.bind_ok, M.bind_ok, endM_int, M.bind_ok, sl_l2, M.bind_ok, u2, M.bind_ok, M.bind_ok, M.bind_ok, endM_int, M.bind_ok, hsl, M.bind_ok, M.bind_ok, M.bind_ok, endM_int, M.bind_ok, sl_l2, M.bind_ok, u3, M.bind_ok, appM_ok (by simp), M.bind_ok, range1M_int (by decide) (by decide), M.bind_ok]
  have h150 : ∀ {ss : List Sy}, (∀ s ∈ ss, s.size ≤ 90) → ∀ s ∈ ss, s.ht ≤ 150 := fun h s hs => by have := h s hs; have := Sy.ht_size s; omega
  have t0 := ask_one (k := 598) (j := 598) (w := .int 0) (c := clU (l, [.lt .r, B])) S0 ask0 (by decide)
  have t1 := ask_one (k := 598) (j := 597) (w := .int 1) (c := clU (l, [.lt .r, B])) S1 (ask1 (k := 594) (by omega)) (by decide)
  have t2 := ask_one (k := 598) (j := 597) (w := .int 2) (c := clU (l, [.lt .r, B])) S2 (ask2 (k := 594) (h150 hel) (Nat.le_trans hlen (by decide)) rl (by omega)) (by decide)
  have t3 := told_alike (k := 0) (w := .int 3) (c := clU (l, [.lt .r, B])) (by omega) (by omega) S3 S4 (ask3 hlast)
  have eqc : eqM (clU (l, [.lt .r, B])) (clU (l, [.lt .r, B])) = .ok true := eqM_rfl (pl_tup two_pl) (Nat.le_trans (dp_tup (two_dp (h150 hel) (h150 her))) (by decide))
  rw [forC_unit]
  · rfl
  intro y hy
  obtain ⟨i, hi, rfl⟩ := rangeU_mem hy
  rw [fdivM_int (by decide) (by decide), M.bind_ok, addM_int, M.bind_ok, modM_int (by decide), M.bind_ok]
  have fin : ∀ (w : Int) (d : Str), sh__law_told 600 [.int w, clU (l, [.lt .r, B])] = .ok (.str d) → ixM (.lst ([U.str (dueS l [.lt .r, B]), .str (dueS [] [B]), .str (dueS l [B])] ++ [.str (dueS [A] [B])])) (.int w) = .ok (.str d) →
      (((sh__law_told 600 [.int w, .tup [.lst (l.map su), .lst [su (.lt .r), su B]]]).bind fun z57 => (ixM (.lst ([U.str (dueS l [.lt .r, B]), .str (dueS [] [B]), .str (dueS l [B])] ++ [.str (dueS [A] [B])])) (.int w)).bind fun z58 => ((nB eqM) z57 z58).bind fun b59 => if b59 = true then M.ok true else ((nB eqM) (.tup [.lst (l.map su), .lst [su (.lt .r), su B]]) (clU (l, [.lt .r, B]))).bind fun b60 => M.ok b60).bind fun b61 => if b61 = true then M.ok (Ct.rt (U.bl false)) else M.ok (Ct.nx ())) = .ok (.nx ()) := by
    intro w d q1 q2
    have q1 : sh__law_told 600 [.int w, .tup [.lst (l.map su), .lst [su (.lt .r), su B]]] = .ok (.str d) := q1
    have q3 : eqM (.tup [.lst (l.map su), .lst [su (.lt .r), su B]]) (clU (l, [.lt .r, B])) = .ok true := eqc
    rw [q1, M.bind_ok, q2, M.bind_ok, nB_ok, eqM_str, M.bind_ok, M.bind_ok, decide_eq_true rfl, if_neg (by simp), nB_ok, q3]
    rfl
  rcases (show (c1 / 80 + (0 + (i : Int))) % 4 = 0 ∨ (c1 / 80 + (0 + (i : Int))) % 4 = 1 ∨ (c1 / 80 + (0 + (i : Int))) % 4 = 2 ∨ (c1 / 80 + (0 + (i : Int))) % 4 = 3 by omega) with q | q | q | q <;> rw [q]
  · exact fin 0 _ t0 rfl
  · exact fin 1 _ t1 rfl
  · exact fin 2 _ t2 rfl
  · exact fin 3 _ t3 rfl
--#end 600

def topS (i : Nat) : Stmt := PySem.Challenge.pw_selfsay_k40_search_refused.main.body.getD i (.Pass ⟨0, 0, 0, 0⟩)
/-- what the text told -/
structure Tp (G : Gl) (κ : Kl) : Prop where
  z_len : G.mg "len" = none
  z_list : G.mg "list" = none
  z_tuple : G.mg "tuple" = none
  z_sum : G.mg "sum" = none
  z_int : G.mg "int" = none
  z_isinstance : G.mg "isinstance" = none
  z_range : G.mg "range" = none
  z_sorted : G.mg "sorted" = none
  z_repr : G.mg "repr" = none
  z_ValueError : G.mg "ValueError" = none
  d_inner_of : DefAt G.K G.mg "inner_of" (topS 11) ["saying"]
  d_gather : DefAt G.K G.mg "gather" (topS 12) ["saying", "found"]
  d_each_once : DefAt G.K G.mg "each_once" (topS 13) ["some"]
  d_parts_of : DefAt G.K G.mg "parts_of" (topS 14) ["saying"]
  d_shown_parts : DefAt G.K G.mg "shown_parts" (topS 15) ["saying"]
  d_unlike : DefAt G.K G.mg "unlike" (topS 18) ["sayings"]
  d_claim_of : DefAt G.K G.mg "claim_of" (topS 19) ["left", "right"]
  d_claim_parts : DefAt G.K G.mg "claim_parts" (topS 20) ["claim"]
  d_claim_shown : DefAt G.K G.mg "claim_shown" (topS 21) ["claim"]
  d_without : DefAt G.K G.mg "without" (topS 22) ["sayings", "saying"]
  d_from_left : DefAt G.K G.mg "from_left" (topS 23) ["left", "right", "saying"]
  d_from_right : DefAt G.K G.mg "from_right" (topS 24) ["left", "right", "saying"]
  d_further_up : DefAt G.K G.mg "further_up" (topS 25) ["left", "saying"]
  d_needed : DefAt G.K G.mg "needed" (topS 26) ["claim", "rule", "saying"]
  d_rooms_of : DefAt G.K G.mg "rooms_of" (topS 32) ["tree"]
  d_searched : DefAt G.K G.mg "searched" (topS 33) ["claim"]
  d_judged : DefAt G.K G.mg "judged" (topS 35) ["saying"]
  d_follows : DefAt G.K G.mg "follows" (topS 36) ["givens", "saying"]
  d_alike : DefAt G.K G.mg "alike" (topS 37) ["one", "other"]
  d__law_unlike : DefAt G.K G.mg "_law_unlike" (topS 39) ["_law_some"]
  d__law_cell_at : DefAt G.K G.mg "_law_cell_at" (topS 40) ["_law_script", "_law_k"]
  d__law_claim : DefAt G.K G.mg "_law_claim" (topS 41) ["_law_left", "_law_right"]
  d__law_parts : DefAt G.K G.mg "_law_parts" (topS 42) ["_law_saying"]
  d__law_claim_parts : DefAt G.K G.mg "_law_claim_parts" (topS 43) ["_law_claim_here"]
  d__law_row : DefAt G.K G.mg "_law_row" (topS 44) ["_law_letter", "_law_many", "_law_shown", "_law_cell"]
  d__law_alone : DefAt G.K G.mg "_law_alone" (topS 45) ["_law_e"]
  d__law_asked : DefAt G.K G.mg "_law_asked" (topS 46) ["_law_which", "_law_claim_here"]
  d__law_told : DefAt G.K G.mg "_law_told" (topS 47) ["_law_which", "_law_claim_here"]
  d__law_due : DefAt G.K G.mg "_law_due" (topS 48) ["_law_claim_here"]
  d_law : DefAt G.K G.mg "law" (topS 49) ["_law_script"]
  g_NoRule : G.mg "NoRule" = some (.ref (κ.ad "NoRule"))
  g_TooMany : G.mg "TooMany" = some (.ref (κ.ad "TooMany"))
  g_SayError : G.mg "SayError" = some (.ref (κ.ad "SayError"))
  g_NoSaying : G.mg "NoSaying" = some (.ref (κ.ad "NoSaying"))
  g_NoTree : G.mg "NoTree" = some (.ref (κ.ad "NoTree"))
  g_HasLetter : G.mg "HasLetter" = some (.ref (κ.ad "HasLetter"))
  g_Outside : G.mg "Outside" = some (.ref (κ.ad "Outside"))
  g_NoLine : G.mg "NoLine" = some (.ref (κ.ad "NoLine"))
  g_Nothing : G.mg "Nothing" = some (.ref (κ.ad "Nothing"))
  x_NoRule : ExcK G.K G.mg κ "NoRule"
  x_TooMany : ExcK G.K G.mg κ "TooMany"
  xc_NoRule : ExcC G.K (κ.ad "NoRule")
  xc_TooMany : ExcC G.K (κ.ad "TooMany")
  xi_NoRule : ∀ q ∈ ([("NoRule", true), ("TooMany", false)] : List (Str × Bool)), ExcC G.K (κ.ad q.1) ∧ PySem.W.kitOne G.K (.ref (κ.ad q.1)) (.ref (κ.ad "NoRule")) = some q.2
  xi_NoSaying : ∀ q ∈ ([("NoRule", false), ("TooMany", false)] : List (Str × Bool)), ExcC G.K (κ.ad q.1) ∧ PySem.W.kitOne G.K (.ref (κ.ad q.1)) (.ref (κ.ad "NoSaying")) = some q.2
  xi_NoTree : ∀ q ∈ ([("NoRule", false), ("TooMany", false)] : List (Str × Bool)), ExcC G.K (κ.ad q.1) ∧ PySem.W.kitOne G.K (.ref (κ.ad q.1)) (.ref (κ.ad "NoTree")) = some q.2
  xi_HasLetter : ∀ q ∈ ([("NoRule", false), ("TooMany", false)] : List (Str × Bool)), ExcC G.K (κ.ad q.1) ∧ PySem.W.kitOne G.K (.ref (κ.ad q.1)) (.ref (κ.ad "HasLetter")) = some q.2
  xi_TooMany : ∀ q ∈ ([("NoRule", false), ("TooMany", true)] : List (Str × Bool)), ExcC G.K (κ.ad q.1) ∧ PySem.W.kitOne G.K (.ref (κ.ad q.1)) (.ref (κ.ad "TooMany")) = some q.2
  xi_Outside : ∀ q ∈ ([("NoRule", false), ("TooMany", false)] : List (Str × Bool)), ExcC G.K (κ.ad q.1) ∧ PySem.W.kitOne G.K (.ref (κ.ad q.1)) (.ref (κ.ad "Outside")) = some q.2
  xi_NoLine : ∀ q ∈ ([("NoRule", false), ("TooMany", false)] : List (Str × Bool)), ExcC G.K (κ.ad q.1) ∧ PySem.W.kitOne G.K (.ref (κ.ad q.1)) (.ref (κ.ad "NoLine")) = some q.2
  xi_Nothing : ∀ q ∈ ([("NoRule", false), ("TooMany", false)] : List (Str × Bool)), ExcC G.K (κ.ad q.1) ∧ PySem.W.kitOne G.K (.ref (κ.ad q.1)) (.ref (κ.ad "Nothing")) = some q.2
  xi_ValueError : ∀ q ∈ ([("NoRule", true), ("TooMany", true)] : List (Str × Bool)), ExcC G.K (κ.ad q.1) ∧ PySem.W.kitOne G.K (.ref (κ.ad q.1)) (.type "ValueError") = some q.2
  xt_SayError : ∀ c ∈ ([("NoRule", 0), ("TooMany", 0)] : List (Str × Nat)), PySem.W.exmOne G.K (.ref (κ.ad c.1)) (.ref (κ.ad "SayError")) = some true ∧ (κ.fs c.1).length = c.2
  g_Search : G.mg "Search" = some (.ref (κ.ad "Search"))
  kls_Search : Cls G.K (κ.ad "Search") ∧ NoAttr G.K (κ.ad "Search") "steps" ∧ NoAttr G.K (κ.ad "Search") "met"
  d_Search_init : InitAt G.K (κ.ad "Search") "Search.__init__" (inClass (topS 31) 0) ["self"]
  d_Search_found_for : MethAt G.K (κ.ad "Search") "found_for" "Search.found_for" (inClass (topS 31) 1) ["self", "claim"]
  d_Search_told : MethAt G.K (κ.ad "Search") "told" "Search.told" (inClass (topS 31) 2) ["self", "claim", "rule", "saying", "uses"]
  d_Search_looked : MethAt G.K (κ.ad "Search") "looked" "Search.looked" (inClass (topS 31) 3) ["self", "claim"]
  d_Search_broken : MethAt G.K (κ.ad "Search") "broken" "Search.broken" (inClass (topS 31) 4) ["self", "claim", "rule", "saying"]
  d_Search_gone_up : MethAt G.K (κ.ad "Search") "gone_up" "Search.gone_up" (inClass (topS 31) 5) ["self", "claim"]
  c_BROKEN : TupsAt G.K G.mg "BROKEN" ["not", "and", "or", "if"]
  c_MOST_PARTS : IntAt G.mg "MOST_PARTS" 40
  c_MOST_SHOWN : IntAt G.mg "MOST_SHOWN" 6
  c_NEVER : TupAt G.K G.mg "NEVER" "no"
variable {G : Gl} {κ : Kl}
abbrev st__law_cell_at : Stmt := topS 40
abbrev N__law_cell_at : List Str := ["_law_script", "_law_k", "_law_cell", "_law_mixed"]
abbrev vs__law_cell_at : List Bool := [true, true, true, true]
abbrev gl__law_cell_at : List Str := ["len"]
theorem sc__law_cell_at : FnScope N__law_cell_at ["_law_script", "_law_k"] (defScope st__law_cell_at) := ⟨rfl, rfl, rfl, by decide +kernel, rfl, by decide +kernel, by decide +kernel⟩
theorem gd__law_cell_at : goodC N__law_cell_at (defScope st__law_cell_at) vs__law_cell_at vs__law_cell_at gl__law_cell_at = true := by decide +kernel
@[reducible] def cx__law_cell_at (G : Gl) (k : Nat) : Pl.Ctx := G.cx N__law_cell_at (defScope st__law_cell_at) vs__law_cell_at vs__law_cell_at gl__law_cell_at k

theorem ok__law_cell_at (T : Tp G κ) : ∀ k, G.fn k "_law_cell_at" 2 (spV κ 2 (sh__law_cell_at k))
  | 0 => fn_none T.d__law_cell_at (spV_none fun us => rfl)
  | kk + 1 => by
    refine def_V T.d__law_cell_at sc__law_cell_at gd__law_cell_at fun us hl Q Eh h => ?_
    have hE : EI κ Eh (erM κ Eh) := EI.erM
    obtain ⟨v_script, v_k, rfl⟩ := len2 hl
    change WSs _ [some (em κ v_script), some (em κ v_k), none, none] _ (_ :: _) _
    refine wss_cons ?_
    refine ws_if ?_
    refine wt_eqM (κ := κ) ?_
    refine we_lenM (κ := κ) ⟨0, rfl⟩ T.z_len ?_
    refine we_name (i := 0) rfl rfl rfl ?_
    refine fin1 (f := lenM) v_script (vE (u := v_script)) ‹_› fun z1 h => ?_
    refine we_int ?_
    refine fin2 (f := eqM) z1 (.int 0) (vE (u := z1)) (vE (u := .int 0)) ‹_› fun b2 h => ?_
    refine ite_m ‹_› (fun h => ?_) (fun h => ?_)
    · refine wss_cons ?_
      refine ws_ret ?_
      refine we_modM (κ := κ) ?_
      refine we_mulM (κ := κ) ?_
      refine we_mulM (κ := κ) ?_
      refine we_name (i := 1) rfl rfl rfl ?_
      refine we_name (i := 1) rfl rfl rfl ?_
      refine fin2 (f := mulM) v_k v_k (vE (u := v_k)) (vE (u := v_k)) ‹_› fun z3 h => ?_
      refine we_int ?_
      refine fin2 (f := mulM) z3 (.int 7919) (vE (u := z3)) (vE (u := .int 7919)) ‹_› fun z4 h => ?_
      refine we_int ?_
      refine fin2 (f := modM) z4 (.int 1000003) (vE (u := z4)) (vE (u := .int 1000003)) ‹_› fun z5 h => ?_
      exact rtV_v (u := z5) h
    · refine wss_nil ?_
      refine wss_cons ?_
      refine ws_set (i := 2) rfl rfl ?_ rfl
      refine we_ixM (κ := κ) ?_
      refine we_name (i := 0) rfl rfl rfl ?_
      refine we_modM (κ := κ) ?_
      refine we_name (i := 1) rfl rfl rfl ?_
      refine we_lenM (κ := κ) ⟨0, rfl⟩ T.z_len ?_
      refine we_name (i := 0) rfl rfl rfl ?_
      refine fin1 (f := lenM) v_script (vE (u := v_script)) ‹_› fun z6 h => ?_
      refine fin2 (f := modM) v_k z6 (vE (u := v_k)) (vE (u := z6)) ‹_› fun z7 h => ?_
      refine fin2 (f := ixM) v_script z7 (vE (u := v_script)) (vE (u := z7)) ‹_› fun z8 h => ?_
      refine wss_cons ?_
      refine ws_set (i := 3) rfl rfl ?_ rfl
      refine we_addM (κ := κ) ?_
      refine we_mulM (κ := κ) ?_
      refine we_modM (κ := κ) ?_
      refine we_name (i := 2) rfl rfl rfl ?_
      refine we_int ?_
      refine fin2 (f := modM) z8 (.int 1000003) (vE (u := z8)) (vE (u := .int 1000003)) ‹_› fun z9 h => ?_
      refine we_int ?_
      refine fin2 (f := mulM) z9 (.int 48271) (vE (u := z9)) (vE (u := .int 48271)) ‹_› fun z10 h => ?_
      refine we_modM (κ := κ) ?_
      refine we_fdivM (κ := κ) ?_
      refine we_name (i := 2) rfl rfl rfl ?_
      refine we_int ?_
      refine fin2 (f := fdivM) z8 (.int 1000003) (vE (u := z8)) (vE (u := .int 1000003)) ‹_› fun z11 h => ?_
      refine we_int ?_
      refine fin2 (f := modM) z11 (.int 999983) (vE (u := z11)) (vE (u := .int 999983)) ‹_› fun z12 h => ?_
      refine fin2 (f := addM) z10 z12 (vE (u := z10)) (vE (u := z12)) ‹_› fun z13 h => ?_
      refine wss_cons ?_
      refine ws_ret ?_
      refine we_modM (κ := κ) ?_
      refine we_mulM (κ := κ) ?_
      refine we_modM (κ := κ) ?_
      refine we_addM (κ := κ) ?_
      refine we_addM (κ := κ) ?_
      refine we_name (i := 3) rfl rfl rfl ?_
      refine we_mulM (κ := κ) ?_
      refine we_mulM (κ := κ) ?_
      refine we_name (i := 1) rfl rfl rfl ?_
      refine we_name (i := 1) rfl rfl rfl ?_
      refine fin2 (f := mulM) v_k v_k (vE (u := v_k)) (vE (u := v_k)) ‹_› fun z14 h => ?_
      refine we_int ?_
      refine fin2 (f := mulM) z14 (.int 7919) (vE (u := z14)) (vE (u := .int 7919)) ‹_› fun z15 h => ?_
      refine fin2 (f := addM) z13 z15 (vE (u := z13)) (vE (u := z15)) ‹_› fun z16 h => ?_
      refine we_mulM (κ := κ) ?_
      refine we_name (i := 1) rfl rfl rfl ?_
      refine we_int ?_
      refine fin2 (f := mulM) v_k (.int 104729) (vE (u := v_k)) (vE (u := .int 104729)) ‹_› fun z17 h => ?_
      refine fin2 (f := addM) z16 z17 (vE (u := z16)) (vE (u := z17)) ‹_› fun z18 h => ?_
      refine we_int ?_
      refine fin2 (f := modM) z18 (.int 1000003) (vE (u := z18)) (vE (u := .int 1000003)) ‹_› fun z19 h => ?_
      refine we_int ?_
      refine fin2 (f := mulM) z19 (.int 69621) (vE (u := z19)) (vE (u := .int 69621)) ‹_› fun z20 h => ?_
      refine we_int ?_
      refine fin2 (f := modM) z20 (.int 999983) (vE (u := z20)) (vE (u := .int 999983)) ‹_› fun z21 h => ?_
      exact rtV_v (u := z21) h

abbrev st__law_row : Stmt := topS 44
abbrev N__law_row : List Str := ["_law_letter", "_law_many", "_law_shown", "_law_cell", "_law_saying", "_law_k"]
abbrev vs__law_row : List Bool := [true, true, true, true, true, true]
abbrev gl__law_row : List Str := ["range"]
theorem sc__law_row : FnScope N__law_row ["_law_letter", "_law_many", "_law_shown", "_law_cell"] (defScope st__law_row) := ⟨rfl, rfl, rfl, by decide +kernel, rfl, by decide +kernel, by decide +kernel⟩
theorem gd__law_row : goodC N__law_row (defScope st__law_row) vs__law_row vs__law_row gl__law_row = true := by decide +kernel
@[reducible] def cx__law_row (G : Gl) (k : Nat) : Pl.Ctx := G.cx N__law_row (defScope st__law_row) vs__law_row vs__law_row gl__law_row k

theorem ok__law_row (T : Tp G κ) : ∀ k, G.fn k "_law_row" 4 (spV κ 4 (sh__law_row k))
  | 0 => fn_none T.d__law_row (spV_none fun us => rfl)
  | kk + 1 => by
    refine def_V T.d__law_row sc__law_row gd__law_row fun us hl Q Eh h => ?_
    have hE : EI κ Eh (erM κ Eh) := EI.erM
    obtain ⟨v_letter, v_many, v_shown, v_cell, rfl⟩ := len4 hl
    change WSs _ [some (em κ v_letter), some (em κ v_many), some (em κ v_shown), some (em κ v_cell), none, none] _ (_ :: _) _
    refine wss_cons ?_
    refine ws_set (i := 4) rfl rfl ?_ rfl
    refine we_tup ?_
    refine wa_cons ?_ rfl
    refine we_str ?_
    refine wa_cons ?_ rfl
    refine we_name (i := 0) rfl rfl rfl ?_
    refine wa_nil ?_
    refine ⟨szd (by decide : 2 < 10000000), ?_⟩
    refine wss_cons ?_
    refine ws_for [5] ?_
    refine wi_range1M (κ := κ) ⟨0, rfl⟩ T.z_range ?_
    refine we_addM (κ := κ) ?_
    refine we_name (i := 1) rfl rfl rfl ?_
    refine we_name (i := 2) rfl rfl rfl ?_
    refine fin2 (f := addM) v_many v_shown (vE (u := v_many)) (vE (u := v_shown)) ‹_› fun z2 h => ?_
    refine fin1 (f := range1M) z2 (vE (u := z2)) ‹_› fun it1 h => ?_
    refine loopN_m (fun (st : U × U × U × U) (Γ : Pl.Env) (Λ : Cells) => ∃ (y0 : Option D), Γ = [some (em κ v_letter), some (em κ st.2.2.1), some (em κ st.2.1), some (em κ st.2.2.2), some (em κ st.1), y0] ∧ Λ = []) h ⟨_, rfl, rfl⟩ (fun st x7 Γ Λ Q1 hs h => ?_) (fun st Γ Λ hs h => ?_)
    · obtain ⟨v_saying_3, v_shown_4, v_many_5, v_cell_6⟩ := st
      obtain ⟨y0, rfl, rfl⟩ := hs
      refine wg_name (i := 5) rfl rfl ?_
      refine wss_cons ?_
      refine ws_cutM (fun (st : U × U × U) (Γ : Pl.Env) (Λ : Cells) => Γ = [some (em κ v_letter), some (em κ st.2.2), some (em κ st.2.1), some (em κ v_cell_6), some (em κ st.1), some (em κ x7)] ∧ Λ = []) h (fun Q1 h => ?_) (fun st Γ Λ hs h => ?_)
      · refine ws_if ?_
        refine wt_cutM ‹_› (fun Q1 h => ?_) (fun b13 h => ?_)
        · refine wt_ww (ww_and ?_)
          refine wt_gtM (κ := κ) ?_
          refine we_name (i := 2) rfl rfl rfl ?_
          refine we_int ?_
          refine fin2 (f := gtM) v_shown_4 (.int 0) (vE (u := v_shown_4)) (vE (u := .int 0)) ‹_› fun b8 h => ?_
          refine ite_m ‹_› (fun h => ?_) (fun h => ?_)
          · refine ww_and1 ?_
            refine wt_cutM ‹_› (fun Q1 h => ?_) (fun b12 h => ?_)
            · refine wt_ww (ww_or ?_)
              refine wt_eqM (κ := κ) ?_
              refine we_name (i := 1) rfl rfl rfl ?_
              refine we_int ?_
              refine fin2 (f := eqM) v_many_5 (.int 0) (vE (u := v_many_5)) (vE (u := .int 0)) ‹_› fun b9 h => ?_
              refine ite_m ‹_› (fun h => ?_) (fun h => ?_)
              · exact ⟨rfl, h⟩
              · refine ww_or1 ?_
                refine wt_eqM (κ := κ) ?_
                refine we_modM (κ := κ) ?_
                refine we_name (i := 3) rfl rfl rfl ?_
                refine we_int ?_
                refine fin2 (f := modM) v_cell_6 (.int 3) (vE (u := v_cell_6)) (vE (u := .int 3)) ‹_› fun z10 h => ?_
                refine we_int ?_
                refine fin2 (f := eqM) z10 (.int 1) (vE (u := z10)) (vE (u := .int 1)) ‹_› fun b11 h => ?_
                exact ⟨rfl, h⟩
            exact ⟨rfl, h⟩
          · exact ⟨rfl, h⟩
        refine ite_m ‹_› (fun h => ?_) (fun h => ?_)
        · refine wss_cons ?_
          refine ws_set (i := 4) rfl rfl ?_ rfl
          refine we_tup ?_
          refine wa_cons ?_ rfl
          refine we_str ?_
          refine wa_cons ?_ rfl
          refine we_name (i := 4) rfl rfl rfl ?_
          refine wa_nil ?_
          refine ⟨szd (by decide : 2 < 10000000), ?_⟩
          refine wss_cons ?_
          refine ws_set (i := 2) rfl rfl ?_ rfl
          refine we_subM (κ := κ) ?_
          refine we_name (i := 2) rfl rfl rfl ?_
          refine we_int ?_
          refine fin2 (f := subM) v_shown_4 (.int 1) (vE (u := v_shown_4)) (vE (u := .int 1)) ‹_› fun z14 h => ?_
          refine wss_nil ?_
          exact ⟨(.tup [.str "shown", v_saying_3], z14, v_many_5), ⟨rfl, rfl⟩, h⟩
        · refine wss_cons ?_
          refine ws_set (i := 4) rfl rfl ?_ rfl
          refine we_tup ?_
          refine wa_cons ?_ rfl
          refine we_str ?_
          refine wa_cons ?_ rfl
          refine we_name (i := 4) rfl rfl rfl ?_
          refine wa_nil ?_
          refine ⟨szd (by decide : 2 < 10000000), ?_⟩
          refine wss_cons ?_
          refine ws_set (i := 1) rfl rfl ?_ rfl
          refine we_subM (κ := κ) ?_
          refine we_name (i := 1) rfl rfl rfl ?_
          refine we_int ?_
          refine fin2 (f := subM) v_many_5 (.int 1) (vE (u := v_many_5)) (vE (u := .int 1)) ‹_› fun z15 h => ?_
          refine wss_nil ?_
          exact ⟨(.tup [.str "not", v_saying_3], v_shown_4, z15), ⟨rfl, rfl⟩, h⟩
      · obtain ⟨v_saying_16, v_shown_17, v_many_18⟩ := st
        obtain ⟨rfl, rfl⟩ := hs
        refine wss_cons ?_
        refine ws_set (i := 3) rfl rfl ?_ rfl
        refine we_addM (κ := κ) ?_
        refine we_fdivM (κ := κ) ?_
        refine we_name (i := 3) rfl rfl rfl ?_
        refine we_int ?_
        refine fin2 (f := fdivM) v_cell_6 (.int 3) (vE (u := v_cell_6)) (vE (u := .int 3)) ‹_› fun z19 h => ?_
        refine we_mulM (κ := κ) ?_
        refine we_int ?_
        refine we_name (i := 5) rfl rfl rfl ?_
        refine fin2 (f := mulM) (.int 7) x7 (vE (u := .int 7)) (vE (u := x7)) ‹_› fun z20 h => ?_
        refine fin2 (f := addM) z19 z20 (vE (u := z19)) (vE (u := z20)) ‹_› fun z21 h => ?_
        refine wss_nil ?_
        exact ⟨(v_saying_16, v_shown_17, v_many_18, z21), ⟨_, rfl, rfl⟩, h⟩
    · obtain ⟨v_saying_22, v_shown_23, v_many_24, v_cell_25⟩ := st
      obtain ⟨y0, rfl, rfl⟩ := hs
      refine wss_cons ?_
      refine ws_ret ?_
      refine we_name (i := 4) rfl rfl rfl ?_
      exact rtV_v (u := v_saying_22) h

abbrev st__law_unlike : Stmt := topS 39
abbrev N__law_unlike : List Str := ["_law_some", "_law_told_here", "_law_one"]
abbrev vs__law_unlike : List Bool := [true, true, true]
abbrev gl__law_unlike : List Str := ["sorted"]
theorem sc__law_unlike : FnScope N__law_unlike ["_law_some"] (defScope st__law_unlike) := ⟨rfl, rfl, rfl, by decide +kernel, rfl, by decide +kernel, by decide +kernel⟩
theorem gd__law_unlike : goodC N__law_unlike (defScope st__law_unlike) vs__law_unlike vs__law_unlike gl__law_unlike = true := by decide +kernel
@[reducible] def cx__law_unlike (G : Gl) (k : Nat) : Pl.Ctx := G.cx N__law_unlike (defScope st__law_unlike) vs__law_unlike vs__law_unlike gl__law_unlike k

theorem ok__law_unlike (T : Tp G κ) : ∀ k, G.fn k "_law_unlike" 1 (spN κ 1 (sh__law_unlike k))
  | 0 => fn_none T.d__law_unlike (spN_none fun us => rfl)
  | kk + 1 => by
    refine def_N T.d__law_unlike sc__law_unlike gd__law_unlike fun us hl Q Eh h => ?_
    have hE : EI κ Eh (erM κ Eh) := EI.erM
    obtain ⟨v_some, rfl⟩ := len1 hl
    change WSs _ [some (em κ v_some), none, none] _ (_ :: _) _
    refine wss_cons ?_
    refine ws_set (i := 1) rfl rfl (we_o ?_) rfl
    refine wn_lst ?_
    refine wa_nil ?_
    refine ⟨szd (by decide : 0 < 10000000), ?_⟩
    refine wss_cons ?_
    refine ws_for [2] ?_
    refine wi_LM (κ := κ) ?_
    refine we_f ?_
    refine wn_sortedM (κ := κ) ⟨0, rfl⟩ T.z_sorted ?_
    refine we_name (i := 0) rfl rfl rfl ?_
    refine fin1 (f := sortedM) v_some (vE (u := v_some)) ‹_› fun z1 h => ?_
    refine finI (f := iterL) (.lst z1) ‹_› fun it2 h => ?_
    refine loopN_m (fun (st : List U) (Γ : Pl.Env) (Λ : Cells) => ∃ (y0 : Option D), Γ = [some (em κ v_some), some (.loc 0), y0] ∧ Λ = [.lst (ems κ st)]) h ⟨_, rfl, rfl⟩ (fun v_told_here_3 x4 Γ Λ Q1 hs h => ?_) (fun v_told_here_12 Γ Λ hs h => ?_)
    · obtain ⟨y0, rfl, rfl⟩ := hs
      refine wg_name (i := 2) rfl rfl ?_
      refine wss_cons ?_
      refine ws_cutM (fun (st : List U) (Γ : Pl.Env) (Λ : Cells) => Γ = [some (em κ v_some), some (.loc 0), some (em κ x4)] ∧ Λ = [.lst (ems κ st)]) h (fun Q1 h => ?_) (fun v_told_here_11 Γ Λ hs h => ?_)
      · refine ws_if ?_
        refine wt_cutM ‹_› (fun Q1 h => ?_) (fun b9 h => ?_)
        · refine wt_ww (ww_or ?_)
          refine wt_eqM (κ := κ) ?_
          refine we_name (i := 1) rfl rfl rfl ?_
          refine we_f ?_
          refine wn_lst ?_
          refine wa_nil ?_
          refine ⟨szd (by decide : 0 < 10000000), ?_⟩
          refine fin2 (f := eqM) (.lst v_told_here_3) (.lst []) (vL rfl) (vE (u := .lst [])) ‹_› fun b5 h => ?_
          refine ite_m ‹_› (fun h => ?_) (fun h => ?_)
          · exact ⟨rfl, h⟩
          · refine ww_or1 ?_
            refine wt_neM (κ := κ) ?_
            refine we_ixM (κ := κ) ?_
            refine we_name (i := 1) rfl rfl rfl ?_
            refine we_negM (κ := κ) ?_
            refine we_int ?_
            refine fin1 (f := negM) (.int 1) (vE (u := .int 1)) ‹_› fun z6 h => ?_
            refine fin2 (f := ixM) (.lst v_told_here_3) z6 (vL rfl) (vE (u := z6)) ‹_› fun z7 h => ?_
            refine we_name (i := 2) rfl rfl rfl ?_
            refine fin2 (f := (nB eqM)) z7 x4 (vE (u := z7)) (vE (u := x4)) ‹_› fun b8 h => ?_
            exact ⟨rfl, h⟩
        refine ite_m ‹_› (fun h => ?_) (fun h => ?_)
        · refine wss_cons ?_
          refine ws_expr ?_
          refine we_appM (κ := κ) 0 ?_
          refine we_name (i := 1) rfl rfl rfl ?_
          refine ⟨rfl, ⟨v_told_here_3, rfl⟩, ?_⟩
          refine we_name (i := 2) rfl rfl rfl ?_
          refine finA (f := appM) v_told_here_3 x4 rfl ‹_› fun l10 h => ?_
          refine wss_nil ?_
          exact ⟨l10, ⟨rfl, rfl⟩, h⟩
        · refine wss_nil ?_
          exact ⟨v_told_here_3, ⟨rfl, rfl⟩, h⟩
      · obtain ⟨rfl, rfl⟩ := hs
        refine wss_nil ?_
        exact ⟨v_told_here_11, ⟨_, rfl, rfl⟩, h⟩
    · obtain ⟨y0, rfl, rfl⟩ := hs
      refine wss_cons ?_
      refine ws_ret ?_
      refine we_name (i := 1) rfl rfl rfl ?_
      exact rtL_o (us := v_told_here_12) rfl h

abbrev st__law_claim : Stmt := topS 41
abbrev N__law_claim : List Str := ["_law_left", "_law_right"]
abbrev vs__law_claim : List Bool := [true, true]
abbrev gl__law_claim : List Str := ["_law_unlike"]
theorem sc__law_claim : FnScope N__law_claim ["_law_left", "_law_right"] (defScope st__law_claim) := ⟨rfl, rfl, rfl, by decide +kernel, rfl, by decide +kernel, by decide +kernel⟩
theorem gd__law_claim : goodC N__law_claim (defScope st__law_claim) vs__law_claim vs__law_claim gl__law_claim = true := by decide +kernel
@[reducible] def cx__law_claim (G : Gl) (k : Nat) : Pl.Ctx := G.cx N__law_claim (defScope st__law_claim) vs__law_claim vs__law_claim gl__law_claim k

theorem ok__law_claim (T : Tp G κ) : ∀ k, G.fn k "_law_claim" 2 (spV κ 2 (sh__law_claim k))
  | 0 => fn_none T.d__law_claim (spV_none fun us => rfl)
  | kk + 1 => by
    have h__law_unlike := ok__law_unlike T kk
    refine def_V T.d__law_claim sc__law_claim gd__law_claim fun us hl Q Eh h => ?_
    have hE : EI κ Eh (erM κ Eh) := EI.erM
    obtain ⟨v_left, v_right, rfl⟩ := len2 hl
    change WSs _ [some (em κ v_left), some (em κ v_right)] _ (_ :: _) _
    refine wss_cons ?_
    refine ws_ret ?_
    refine we_tup ?_
    refine wa_cons ?_ rfl
    refine we_f ?_
    refine wn_callN (κ := κ) h__law_unlike (Nat.le_refl _) ⟨0, rfl⟩ ?_
    refine wa_cons ?_ rfl
    refine we_name (i := 0) rfl rfl rfl ?_
    refine wa_nil ?_
    refine finF (Γ := _) [v_left] rfl rfl hE ‹_› fun z1 h => ?_
    refine wa_cons ?_ rfl
    refine we_f ?_
    refine wn_callN (κ := κ) h__law_unlike (Nat.le_refl _) ⟨0, rfl⟩ ?_
    refine wa_cons ?_ rfl
    refine we_name (i := 1) rfl rfl rfl ?_
    refine wa_nil ?_
    refine finF (Γ := _) [v_right] rfl rfl hE ‹_› fun z2 h => ?_
    refine wa_nil ?_
    refine ⟨szd (by decide : 2 < 10000000), ?_⟩
    exact rtV_v (u := (.tup [.lst z1, .lst z2])) h

abbrev st__law_parts : Stmt := topS 42
abbrev N__law_parts : List Str := ["_law_saying", "_law_found", "_law_each"]
abbrev vs__law_parts : List Bool := [true, true, true]
abbrev gl__law_parts : List Str := ["isinstance", "tuple", "_law_parts"]
theorem sc__law_parts : FnScope N__law_parts ["_law_saying"] (defScope st__law_parts) := ⟨rfl, rfl, rfl, by decide +kernel, rfl, by decide +kernel, by decide +kernel⟩
theorem gd__law_parts : goodC N__law_parts (defScope st__law_parts) vs__law_parts vs__law_parts gl__law_parts = true := by decide +kernel
@[reducible] def cx__law_parts (G : Gl) (k : Nat) : Pl.Ctx := G.cx N__law_parts (defScope st__law_parts) vs__law_parts vs__law_parts gl__law_parts k

theorem ok__law_parts (T : Tp G κ) : ∀ k, G.fn k "_law_parts" 1 (spN κ 1 (sh__law_parts k))
  | 0 => fn_none T.d__law_parts (spN_none fun us => rfl)
  | kk + 1 => by
    have h__law_parts := ok__law_parts T kk
    refine def_N T.d__law_parts sc__law_parts gd__law_parts fun us hl Q Eh h => ?_
    have hE : EI κ Eh (erM κ Eh) := EI.erM
    obtain ⟨v_saying, rfl⟩ := len1 hl
    change WSs _ [some (em κ v_saying), none, none] _ (_ :: _) _
    rw [sh__law_parts] at h
    refine wss_cons ?_
    refine ws_set (i := 1) rfl rfl (we_o ?_) rfl
    refine wn_lst ?_
    refine wa_cons ?_ rfl
    refine we_name (i := 0) rfl rfl rfl ?_
    refine wa_nil ?_
    refine ⟨szd (by decide : 1 < 10000000), ?_⟩
    refine wss_cons ?_
    refine ws_for [2] ?_
    refine wi_TM (κ := κ) ?_
    refine we_slM (κ := κ) ?_
    refine we_name (i := 0) rfl rfl rfl ?_
    refine we_int ?_
    refine fin1 (f := endM) (.int 1) (vE (u := .int 1)) ‹_› fun z1 h => ?_
    refine fin1 (f := fun u => slM u z1 none) v_saying (vE (u := v_saying)) ‹_› fun z2 h => ?_
    refine finI (f := iterT) z2 ‹_› fun it3 h => ?_
    refine loopN_m (fun (st : List U) (Γ : Pl.Env) (Λ : Cells) => ∃ (y0 : Option D), Γ = [some (em κ v_saying), some (.loc 0), y0] ∧ Λ = [.lst (ems κ st)]) h ⟨_, rfl, rfl⟩ (fun v_found_4 x5 Γ Λ Q1 hs h => ?_) (fun v_found_11 Γ Λ hs h => ?_)
    · obtain ⟨y0, rfl, rfl⟩ := hs
      refine wg_name (i := 2) rfl rfl ?_
      refine wss_cons ?_
      refine ws_cutM (fun (st : List U) (Γ : Pl.Env) (Λ : Cells) => Γ = [some (em κ v_saying), some (.loc 0), some (em κ x5)] ∧ Λ = [.lst (ems κ st)]) h (fun Q1 h => ?_) (fun v_found_10 Γ Λ hs h => ?_)
      · refine ws_if ?_
        refine wt_valM (κ := κ) ?_
        refine we_isiM (κ := κ) ⟨0, rfl⟩ T.z_isinstance ⟨1, rfl⟩ T.z_tuple boot_tuple' ?_
        refine we_name (i := 2) rfl rfl rfl ?_
        refine fin1 (f := fun u => isiM u "tuple") x5 (vE (u := x5)) ‹_› fun z6 h => ?_
        refine fin1 (f := boolM) z6 (vE (u := z6)) ‹_› fun b7 h => ?_
        refine ite_m ‹_› (fun h => ?_) (fun h => ?_)
        · refine wss_cons ?_
          refine ws_expr ?_
          refine we_extM (κ := κ) 0 ?_
          refine we_name (i := 1) rfl rfl rfl ?_
          refine ⟨rfl, ⟨v_found_4, rfl⟩, ?_⟩
          refine we_f ?_
          refine wn_callN (κ := κ) h__law_parts (Nat.le_refl _) ⟨2, rfl⟩ ?_
          refine wa_cons ?_ rfl
          refine we_name (i := 2) rfl rfl rfl ?_
          refine wa_nil ?_
          refine finF (Γ := _) [x5] rfl rfl hE ‹_› fun z8 h => ?_
          refine finV (f := extM) v_found_4 (.lst z8) (vE (u := .lst z8)) rfl ‹_› fun l9 h => ?_
          refine wss_nil ?_
          exact ⟨l9, ⟨rfl, rfl⟩, h⟩
        · refine wss_nil ?_
          exact ⟨v_found_4, ⟨rfl, rfl⟩, h⟩
      · obtain ⟨rfl, rfl⟩ := hs
        refine wss_nil ?_
        exact ⟨v_found_10, ⟨_, rfl, rfl⟩, h⟩
    · obtain ⟨y0, rfl, rfl⟩ := hs
      refine wss_cons ?_
      refine ws_ret ?_
      refine we_name (i := 1) rfl rfl rfl ?_
      exact rtL_o (us := v_found_11) rfl h

abbrev st__law_claim_parts : Stmt := topS 43
abbrev N__law_claim_parts : List Str := ["_law_claim_here", "_law_found", "_law_saying"]
abbrev vs__law_claim_parts : List Bool := [true, true, true]
abbrev gl__law_claim_parts : List Str := ["_law_parts", "_law_unlike"]
theorem sc__law_claim_parts : FnScope N__law_claim_parts ["_law_claim_here"] (defScope st__law_claim_parts) := ⟨rfl, rfl, rfl, by decide +kernel, rfl, by decide +kernel, by decide +kernel⟩
theorem gd__law_claim_parts : goodC N__law_claim_parts (defScope st__law_claim_parts) vs__law_claim_parts vs__law_claim_parts gl__law_claim_parts = true := by decide +kernel
@[reducible] def cx__law_claim_parts (G : Gl) (k : Nat) : Pl.Ctx := G.cx N__law_claim_parts (defScope st__law_claim_parts) vs__law_claim_parts vs__law_claim_parts gl__law_claim_parts k

theorem ok__law_claim_parts (T : Tp G κ) : ∀ k, G.fn k "_law_claim_parts" 1 (spN κ 1 (sh__law_claim_parts k))
  | 0 => fn_none T.d__law_claim_parts (spN_none fun us => rfl)
  | kk + 1 => by
    have h__law_parts := ok__law_parts T kk
    have h__law_unlike := ok__law_unlike T kk
    refine def_N T.d__law_claim_parts sc__law_claim_parts gd__law_claim_parts fun us hl Q Eh h => ?_
    have hE : EI κ Eh (erM κ Eh) := EI.erM
    obtain ⟨v_claim_here, rfl⟩ := len1 hl
    change WSs _ [some (em κ v_claim_here), none, none] _ (_ :: _) _
    refine wss_cons ?_
    refine ws_set (i := 1) rfl rfl (we_o ?_) rfl
    refine wn_lst ?_
    refine wa_nil ?_
    refine ⟨szd (by decide : 0 < 10000000), ?_⟩
    refine wss_cons ?_
    refine ws_for [2] ?_
    refine wi_LM (κ := κ) ?_
    refine we_addM (κ := κ) ?_
    refine we_ixM (κ := κ) ?_
    refine we_name (i := 0) rfl rfl rfl ?_
    refine we_int ?_
    refine fin2 (f := ixM) v_claim_here (.int 0) (vE (u := v_claim_here)) (vE (u := .int 0)) ‹_› fun z1 h => ?_
    refine we_ixM (κ := κ) ?_
    refine we_name (i := 0) rfl rfl rfl ?_
    refine we_int ?_
    refine fin2 (f := ixM) v_claim_here (.int 1) (vE (u := v_claim_here)) (vE (u := .int 1)) ‹_› fun z2 h => ?_
    refine fin2 (f := addM) z1 z2 (vE (u := z1)) (vE (u := z2)) ‹_› fun z3 h => ?_
    refine finI (f := iterL) z3 ‹_› fun it4 h => ?_
    refine loopN_m (fun (st : List U) (Γ : Pl.Env) (Λ : Cells) => ∃ (y0 : Option D), Γ = [some (em κ v_claim_here), some (.loc 0), y0] ∧ Λ = [.lst (ems κ st)]) h ⟨_, rfl, rfl⟩ (fun v_found_5 x6 Γ Λ Q1 hs h => ?_) (fun v_found_9 Γ Λ hs h => ?_)
    · obtain ⟨y0, rfl, rfl⟩ := hs
      refine wg_name (i := 2) rfl rfl ?_
      refine wss_cons ?_
      refine ws_expr ?_
      refine we_extM (κ := κ) 0 ?_
      refine we_name (i := 1) rfl rfl rfl ?_
      refine ⟨rfl, ⟨v_found_5, rfl⟩, ?_⟩
      refine we_f ?_
      refine wn_callN (κ := κ) h__law_parts (Nat.le_refl _) ⟨0, rfl⟩ ?_
      refine wa_cons ?_ rfl
      refine we_name (i := 2) rfl rfl rfl ?_
      refine wa_nil ?_
      refine finF (Γ := _) [x6] rfl rfl hE ‹_› fun z7 h => ?_
      refine finV (f := extM) v_found_5 (.lst z7) (vE (u := .lst z7)) rfl ‹_› fun l8 h => ?_
      refine wss_nil ?_
      exact ⟨l8, ⟨_, rfl, rfl⟩, h⟩
    · obtain ⟨y0, rfl, rfl⟩ := hs
      refine freezeM 0 1 v_found_9 (Nat.le_of_ble_eq_true rfl) rfl rfl ?_
      refine wss_cons ?_
      refine ws_retn ?_
      refine wn_callN (κ := κ) h__law_unlike (Nat.le_refl _) ⟨1, rfl⟩ ?_
      refine wa_cons ?_ rfl
      refine we_name (i := 1) rfl rfl rfl ?_
      refine wa_nil ?_
      refine finF (Γ := _) [.lst v_found_9] rfl rfl hE ‹_› fun z10 h => ?_
      exact rtL_v (us := z10) h

abbrev st__law_due : Stmt := topS 48
abbrev N__law_due : List Str := ["_law_claim_here", "_law_parts_here", "_law_part"]
abbrev vs__law_due : List Bool := [true, true, false]
abbrev gl__law_due : List Str := ["_law_claim_parts", "len"]
theorem sc__law_due : FnScope N__law_due ["_law_claim_here"] (defScope st__law_due) := ⟨rfl, rfl, rfl, by decide +kernel, rfl, by decide +kernel, by decide +kernel⟩
theorem gd__law_due : goodC N__law_due (defScope st__law_due) vs__law_due vs__law_due gl__law_due = true := by decide +kernel
@[reducible] def cx__law_due (G : Gl) (k : Nat) : Pl.Ctx := G.cx N__law_due (defScope st__law_due) vs__law_due vs__law_due gl__law_due k

theorem ok__law_due (T : Tp G κ) : ∀ k, G.fn k "_law_due" 1 (spV κ 1 (sh__law_due k))
  | 0 => fn_none T.d__law_due (spV_none fun us => rfl)
  | kk + 1 => by
    have h__law_claim_parts := ok__law_claim_parts T kk
    refine def_V T.d__law_due sc__law_due gd__law_due fun us hl Q Eh h => ?_
    have hE : EI κ Eh (erM κ Eh) := EI.erM
    obtain ⟨v_claim_here, rfl⟩ := len1 hl
    change WSs _ [some (em κ v_claim_here), none, none] _ (_ :: _) _
    refine wss_cons ?_
    refine ws_set (i := 1) rfl rfl ?_ rfl
    refine we_f ?_
    refine wn_callN (κ := κ) h__law_claim_parts (Nat.le_refl _) ⟨0, rfl⟩ ?_
    refine wa_cons ?_ rfl
    refine we_name (i := 0) rfl rfl rfl ?_
    refine wa_nil ?_
    refine finF (Γ := _) [v_claim_here] rfl rfl hE ‹_› fun z1 h => ?_
    refine wss_cons ?_
    refine ws_if ?_
    refine wt_cutM ‹_› (fun Q1 h => ?_) (fun b11 h => ?_)
    · refine wt_ww (ww_or ?_)
      refine wt_gtM (κ := κ) ?_
      refine we_lenM (κ := κ) ⟨1, rfl⟩ T.z_len ?_
      refine we_name (i := 1) rfl rfl rfl ?_
      refine fin1 (f := lenM) (.lst z1) (vE (u := .lst z1)) ‹_› fun z2 h => ?_
      refine we_int ?_
      refine fin2 (f := gtM) z2 (.int 40) (vE (u := z2)) (vE (u := .int 40)) ‹_› fun b3 h => ?_
      refine ite_m ‹_› (fun h => ?_) (fun h => ?_)
      · exact ⟨rfl, h⟩
      · refine ww_or1 ?_
        refine wt_gtM (κ := κ) ?_
        refine we_lenM (κ := κ) ⟨1, rfl⟩ T.z_len ?_
        refine we_f ?_
        refine wn_lc [("_law_part", 2)] [false, false, true] [false, false, true] [] [2] (blkOk_by (by decide +kernel : blkC N__law_due (defScope st__law_due) _ [("_law_part", 2)] = true)) (good_blk (by decide +kernel : goodC N__law_due (relS _ (defScope st__law_due)) [false, false, true] [false, false, true] [] = true)) (sto_by (by decide +kernel : stoC N__law_due _ [false, false, true] = true)) (by decide) ?_
        refine wi_LM (κ := κ) ?_
        refine we_name (i := 1) rfl rfl rfl ?_
        refine finI (f := iterL) (.lst z1) ‹_› fun it4 h => ?_
        refine compF_m h (fun x5 Qb Q1 h h2 => ?_) (fun zs6 h => ?_)
        · have hE : EI κ no ER.none := EI.no
          refine wg_name (i := 2) rfl rfl ?_
          refine wt_eqM (κ := κ) ?_
          refine we_ixM (κ := κ) ?_
          refine we_name (i := 2) rfl rfl rfl ?_
          refine we_int ?_
          refine fin2 (f := ixM) x5 (.int 0) (vE (u := x5)) (vE (u := .int 0)) ‹_› fun z7 h => ?_
          refine we_str ?_
          refine fin2 (f := eqM) z7 (.str "shown") (vE (u := z7)) (vE (u := .str "shown")) ‹_› fun b8 h => ?_
          refine ⟨rfl, h, fun hb => ?_⟩
          replace h := h2 (by cases hb; exact h)
          refine we_name (i := 2) rfl rfl rfl ?_
          exact ⟨rfl, x5, rfl, h⟩
        refine fin1 (f := lenM) (.lst zs6) (vE (u := .lst zs6)) ‹_› fun z9 h => ?_
        refine we_int ?_
        refine fin2 (f := gtM) z9 (.int 6) (vE (u := z9)) (vE (u := .int 6)) ‹_› fun b10 h => ?_
        exact ⟨rfl, h⟩
    refine ite_m ‹_› (fun h => ?_) (fun h => ?_)
    · refine wss_cons ?_
      refine ws_ret ?_
      refine we_str ?_
      exact rtV_v (u := (.str "many")) h
    · refine wss_nil ?_
      refine wss_cons ?_
      refine ws_ret ?_
      refine we_str ?_
      exact rtV_v (u := (.str "told")) h

abbrev st_inner_of : Stmt := topS 11
abbrev N_inner_of : List Str := ["saying"]
abbrev vs_inner_of : List Bool := [true]
abbrev gl_inner_of : List Str := ["list"]
theorem sc_inner_of : FnScope N_inner_of ["saying"] (defScope st_inner_of) := ⟨rfl, rfl, rfl, by decide +kernel, rfl, by decide +kernel, by decide +kernel⟩
theorem gd_inner_of : goodC N_inner_of (defScope st_inner_of) vs_inner_of vs_inner_of gl_inner_of = true := by decide +kernel
@[reducible] def cx_inner_of (G : Gl) (k : Nat) : Pl.Ctx := G.cx N_inner_of (defScope st_inner_of) vs_inner_of vs_inner_of gl_inner_of k

theorem ok_inner_of (T : Tp G κ) : ∀ k, G.fn k "inner_of" 1 (spN κ 1 (sh_inner_of k))
  | 0 => fn_none T.d_inner_of (spN_none fun us => rfl)
  | kk + 1 => by
    refine def_N T.d_inner_of sc_inner_of gd_inner_of fun us hl Q Eh h => ?_
    have hE : EI κ Eh (erM κ Eh) := EI.erM
    obtain ⟨v_saying, rfl⟩ := len1 hl
    change WSs _ [some (em κ v_saying)] _ (_ :: _) _
    rw [sh_inner_of] at h
    refine wss_cons ?_
    refine ws_if ?_
    refine wt_cutM ‹_› (fun Q1 h => ?_) (fun b5 h => ?_)
    · refine wt_ww (ww_or ?_)
      refine wt_eqM (κ := κ) ?_
      refine we_ixM (κ := κ) ?_
      refine we_name (i := 0) rfl rfl rfl ?_
      refine we_int ?_
      refine fin2 (f := ixM) v_saying (.int 0) (vE (u := v_saying)) (vE (u := .int 0)) ‹_› fun z1 h => ?_
      refine we_str ?_
      refine fin2 (f := eqM) z1 (.str "no") (vE (u := z1)) (vE (u := .str "no")) ‹_› fun b2 h => ?_
      refine ite_m ‹_› (fun h => ?_) (fun h => ?_)
      · exact ⟨rfl, h⟩
      · refine ww_or1 ?_
        refine wt_eqM (κ := κ) ?_
        refine we_ixM (κ := κ) ?_
        refine we_name (i := 0) rfl rfl rfl ?_
        refine we_int ?_
        refine fin2 (f := ixM) v_saying (.int 0) (vE (u := v_saying)) (vE (u := .int 0)) ‹_› fun z3 h => ?_
        refine we_str ?_
        refine fin2 (f := eqM) z3 (.str "letter") (vE (u := z3)) (vE (u := .str "letter")) ‹_› fun b4 h => ?_
        exact ⟨rfl, h⟩
    refine ite_m ‹_› (fun h => ?_) (fun h => ?_)
    · refine wss_cons ?_
      refine ws_retn ?_
      refine wn_lst ?_
      refine wa_nil ?_
      refine ⟨szd (by decide : 0 < 10000000), ?_⟩
      exact rtL_v (us := []) h
    · refine wss_nil ?_
      refine wss_cons ?_
      refine ws_retn ?_
      refine wn_listM (κ := κ) ⟨0, rfl⟩ T.z_list ?_
      refine we_slM (κ := κ) ?_
      refine we_name (i := 0) rfl rfl rfl ?_
      refine we_int ?_
      refine fin1 (f := endM) (.int 1) (vE (u := .int 1)) ‹_› fun z6 h => ?_
      refine fin1 (f := fun u => slM u z6 none) v_saying (vE (u := v_saying)) ‹_› fun z7 h => ?_
      refine fin1 (f := listM) z7 (vE (u := z7)) ‹_› fun z8 h => ?_
      exact rtL_v (us := z8) h

abbrev st_gather : Stmt := topS 12
abbrev N_gather : List Str := ["saying", "found", "part"]
abbrev vs_gather : List Bool := [true, true, true]
abbrev gl_gather : List Str := ["inner_of", "gather"]
theorem sc_gather : FnScope N_gather ["saying", "found"] (defScope st_gather) := ⟨rfl, rfl, rfl, by decide +kernel, rfl, by decide +kernel, by decide +kernel⟩
theorem gd_gather : goodC N_gather (defScope st_gather) vs_gather vs_gather gl_gather = true := by decide +kernel
@[reducible] def cx_gather (G : Gl) (k : Nat) : Pl.Ctx := G.cx N_gather (defScope st_gather) vs_gather vs_gather gl_gather k

abbrev sp_gather (κ : Kl) (k : Nat) : Pl.Spec := spK κ (α := U × List U) (γ := U × List U) (β := U × List U) (fun a => [em κ a.1, .loc 0]) (fun a => [.lst (ems κ a.2)]) (fun a => sh_gather k [a.1, .lst a.2]) .ok (fun w => Res.val (em κ w.1)) (fun a w => [.lst (ems κ w.2)])
theorem ok_gather (T : Tp G κ) : ∀ k, G.fn k "gather" 2 (sp_gather κ k)
  | 0 => fn_none T.d_gather (spK_none fun us => rfl)
  | kk + 1 => by
    have h_inner_of := ok_inner_of T kk
    have h_gather := ok_gather T kk
    refine def_K T.d_gather 1 sc_gather gd_gather (fun a => Nat.le_of_ble_eq_true rfl) fun a Q h => ?_
    have hE : EI κ no ER.none := EI.no
    obtain ⟨v_saying, v_found⟩ := a
    try dsimp only at h
    change WSs _ [some (em κ v_saying), some (.loc 0), none] [.lst (ems κ v_found)] (_ :: _) _
    refine wss_cons ?_
    refine ws_expr ?_
    refine we_appM (κ := κ) 0 ?_
    refine we_name (i := 1) rfl rfl rfl ?_
    refine ⟨rfl, ⟨v_found, rfl⟩, ?_⟩
    refine we_name (i := 0) rfl rfl rfl ?_
    refine finA (f := appM) v_found v_saying rfl ‹_› fun l1 h => ?_
    refine wss_cons ?_
    refine ws_for [2] ?_
    refine wi_LM (κ := κ) ?_
    refine we_f ?_
    refine wn_callN (κ := κ) h_inner_of (Nat.le_refl _) ⟨0, rfl⟩ ?_
    refine wa_cons ?_ rfl
    refine we_name (i := 0) rfl rfl rfl ?_
    refine wa_nil ?_
    refine finF (Γ := _) [v_saying] rfl rfl hE ‹_› fun z2 h => ?_
    refine finI (f := iterL) (.lst z2) ‹_› fun it3 h => ?_
    refine loopN_m (fun (st : List U) (Γ : Pl.Env) (Λ : Cells) => ∃ (y0 : Option D), Γ = [some (em κ v_saying), some (.loc 0), y0] ∧ Λ = [.lst (ems κ st)]) h ⟨_, rfl, rfl⟩ (fun v_found_4 x5 Γ Λ Q1 hs h => ?_) (fun v_found_8 Γ Λ hs h => ?_)
    · obtain ⟨y0, rfl, rfl⟩ := hs
      refine wg_name (i := 2) rfl rfl ?_
      refine wss_cons ?_
      refine ws_expr ?_
      refine we_callc h_gather (Nat.le_refl _) ⟨1, rfl⟩ spK_mono ?_
      refine wa_cons ?_ rfl
      refine we_name (i := 2) rfl rfl rfl ?_
      refine wa_cons ?_ rfl
      refine we_name (i := 1) rfl rfl rfl ?_
      refine wa_nil ?_
      refine kc [0] ⟨x5, v_found_4⟩ (fun w => .val (em κ w.1)) (fun w => [.lst (ems κ w.2)]) ⟨by decide, fun n hn => by simp only [List.mem_cons, List.not_mem_nil, or_false] at hn; rcases hn with rfl <;> exact Nat.le_of_ble_eq_true rfl, by show List.all [.lst (ems κ v_found_4)] nlC = true; walk_at "nlc"⟩ (by show [em κ x5, .loc 0] = rens _ [em κ x5, .loc 0]; simp only [rens, ren, ren_em]; try rfl) (by show ltDs _ [em κ x5, .loc 0] = true; simp only [ltDs, ltD, ltD_em, List.length, Bool.true_and, Bool.and_true]; try decide) rfl rfl (fun w => by walk_at "nlc") (fun w => congrArg Res.val (ren_em _).symm) (fun w => rfl) (finK1 h fun ⟨z6, l7⟩ h => ⟨_, rfl, ?_⟩)
      refine wss_nil ?_
      exact ⟨l7, ⟨_, rfl, rfl⟩, h⟩
    · obtain ⟨y0, rfl, rfl⟩ := hs
      refine wss_nil ?_
      exact rtK_v (.non, v_found_8) 1 (d := em κ .non) (by exact h) rfl (Nat.le_of_ble_eq_true rfl) (ltD_em _) rfl (by walk_at "nlc")

abbrev st_each_once : Stmt := topS 13
abbrev N_each_once : List Str := ["some", "told", "one"]
abbrev vs_each_once : List Bool := [true, true, true]
abbrev gl_each_once : List Str := ["sorted", "len"]
theorem sc_each_once : FnScope N_each_once ["some"] (defScope st_each_once) := ⟨rfl, rfl, rfl, by decide +kernel, rfl, by decide +kernel, by decide +kernel⟩
theorem gd_each_once : goodC N_each_once (defScope st_each_once) vs_each_once vs_each_once gl_each_once = true := by decide +kernel
@[reducible] def cx_each_once (G : Gl) (k : Nat) : Pl.Ctx := G.cx N_each_once (defScope st_each_once) vs_each_once vs_each_once gl_each_once k

theorem ok_each_once (T : Tp G κ) : ∀ k, G.fn k "each_once" 1 (spN κ 1 (sh_each_once k))
  | 0 => fn_none T.d_each_once (spN_none fun us => rfl)
  | kk + 1 => by
    refine def_N T.d_each_once sc_each_once gd_each_once fun us hl Q Eh h => ?_
    have hE : EI κ Eh (erM κ Eh) := EI.erM
    obtain ⟨v_some, rfl⟩ := len1 hl
    change WSs _ [some (em κ v_some), none, none] _ (_ :: _) _
    refine wss_cons ?_
    refine ws_set (i := 1) rfl rfl (we_o ?_) rfl
    refine wn_lst ?_
    refine wa_nil ?_
    refine ⟨szd (by decide : 0 < 10000000), ?_⟩
    refine wss_cons ?_
    refine ws_for [2] ?_
    refine wi_LM (κ := κ) ?_
    refine we_f ?_
    refine wn_sortedM (κ := κ) ⟨0, rfl⟩ T.z_sorted ?_
    refine we_name (i := 0) rfl rfl rfl ?_
    refine fin1 (f := sortedM) v_some (vE (u := v_some)) ‹_› fun z1 h => ?_
    refine finI (f := iterL) (.lst z1) ‹_› fun it2 h => ?_
    refine loopN_m (fun (st : List U) (Γ : Pl.Env) (Λ : Cells) => ∃ (y0 : Option D), Γ = [some (em κ v_some), some (.loc 0), y0] ∧ Λ = [.lst (ems κ st)]) h ⟨_, rfl, rfl⟩ (fun v_told_3 x4 Γ Λ Q1 hs h => ?_) (fun v_told_13 Γ Λ hs h => ?_)
    · obtain ⟨y0, rfl, rfl⟩ := hs
      refine wg_name (i := 2) rfl rfl ?_
      refine wss_cons ?_
      refine ws_cutM (fun (st : List U) (Γ : Pl.Env) (Λ : Cells) => Γ = [some (em κ v_some), some (.loc 0), some (em κ x4)] ∧ Λ = [.lst (ems κ st)]) h (fun Q1 h => ?_) (fun v_told_12 Γ Λ hs h => ?_)
      · refine ws_if ?_
        refine wt_cutM ‹_› (fun Q1 h => ?_) (fun b10 h => ?_)
        · refine wt_ww (ww_or ?_)
          refine wt_eqM (κ := κ) ?_
          refine we_lenM (κ := κ) ⟨1, rfl⟩ T.z_len ?_
          refine we_name (i := 1) rfl rfl rfl ?_
          refine fin1 (f := lenM) (.lst v_told_3) (vL rfl) ‹_› fun z5 h => ?_
          refine we_int ?_
          refine fin2 (f := eqM) z5 (.int 0) (vE (u := z5)) (vE (u := .int 0)) ‹_› fun b6 h => ?_
          refine ite_m ‹_› (fun h => ?_) (fun h => ?_)
          · exact ⟨rfl, h⟩
          · refine ww_or1 ?_
            refine wt_neM (κ := κ) ?_
            refine we_ixM (κ := κ) ?_
            refine we_name (i := 1) rfl rfl rfl ?_
            refine we_negM (κ := κ) ?_
            refine we_int ?_
            refine fin1 (f := negM) (.int 1) (vE (u := .int 1)) ‹_› fun z7 h => ?_
            refine fin2 (f := ixM) (.lst v_told_3) z7 (vL rfl) (vE (u := z7)) ‹_› fun z8 h => ?_
            refine we_name (i := 2) rfl rfl rfl ?_
            refine fin2 (f := (nB eqM)) z8 x4 (vE (u := z8)) (vE (u := x4)) ‹_› fun b9 h => ?_
            exact ⟨rfl, h⟩
        refine ite_m ‹_› (fun h => ?_) (fun h => ?_)
        · refine wss_cons ?_
          refine ws_expr ?_
          refine we_appM (κ := κ) 0 ?_
          refine we_name (i := 1) rfl rfl rfl ?_
          refine ⟨rfl, ⟨v_told_3, rfl⟩, ?_⟩
          refine we_name (i := 2) rfl rfl rfl ?_
          refine finA (f := appM) v_told_3 x4 rfl ‹_› fun l11 h => ?_
          refine wss_nil ?_
          exact ⟨l11, ⟨rfl, rfl⟩, h⟩
        · refine wss_nil ?_
          exact ⟨v_told_3, ⟨rfl, rfl⟩, h⟩
      · obtain ⟨rfl, rfl⟩ := hs
        refine wss_nil ?_
        exact ⟨v_told_12, ⟨_, rfl, rfl⟩, h⟩
    · obtain ⟨y0, rfl, rfl⟩ := hs
      refine wss_cons ?_
      refine ws_ret ?_
      refine we_name (i := 1) rfl rfl rfl ?_
      exact rtL_o (us := v_told_13) rfl h

abbrev st_parts_of : Stmt := topS 14
abbrev N_parts_of : List Str := ["saying", "found"]
abbrev vs_parts_of : List Bool := [true, true]
abbrev gl_parts_of : List Str := ["gather", "each_once"]
theorem sc_parts_of : FnScope N_parts_of ["saying"] (defScope st_parts_of) := ⟨rfl, rfl, rfl, by decide +kernel, rfl, by decide +kernel, by decide +kernel⟩
theorem gd_parts_of : goodC N_parts_of (defScope st_parts_of) vs_parts_of vs_parts_of gl_parts_of = true := by decide +kernel
@[reducible] def cx_parts_of (G : Gl) (k : Nat) : Pl.Ctx := G.cx N_parts_of (defScope st_parts_of) vs_parts_of vs_parts_of gl_parts_of k

theorem ok_parts_of (T : Tp G κ) : ∀ k, G.fn k "parts_of" 1 (spN κ 1 (sh_parts_of k))
  | 0 => fn_none T.d_parts_of (spN_none fun us => rfl)
  | kk + 1 => by
    have h_gather := ok_gather T kk
    have h_each_once := ok_each_once T kk
    refine def_N T.d_parts_of sc_parts_of gd_parts_of fun us hl Q Eh h => ?_
    have hE : EI κ Eh (erM κ Eh) := EI.erM
    obtain ⟨v_saying, rfl⟩ := len1 hl
    change WSs _ [some (em κ v_saying), none] _ (_ :: _) _
    refine wss_cons ?_
    refine ws_set (i := 1) rfl rfl (we_o ?_) rfl
    refine wn_lst ?_
    refine wa_nil ?_
    refine ⟨szd (by decide : 0 < 10000000), ?_⟩
    refine wss_cons ?_
    refine ws_expr ?_
    refine we_callc h_gather (Nat.le_refl _) ⟨0, rfl⟩ spK_mono ?_
    refine wa_cons ?_ rfl
    refine we_name (i := 0) rfl rfl rfl ?_
    refine wa_cons ?_ rfl
    refine we_name (i := 1) rfl rfl rfl ?_
    refine wa_nil ?_
    refine kc [0] ⟨v_saying, []⟩ (fun w => .val (em κ w.1)) (fun w => [.lst (ems κ w.2)]) ⟨by decide, fun n hn => by simp only [List.mem_cons, List.not_mem_nil, or_false] at hn; rcases hn with rfl <;> exact Nat.le_of_ble_eq_true rfl, by show List.all [.lst (ems κ [])] nlC = true; walk_at "nlc"⟩ (by show [em κ v_saying, .loc 0] = rens _ [em κ v_saying, .loc 0]; simp only [rens, ren, ren_em]; try rfl) (by show ltDs _ [em κ v_saying, .loc 0] = true; simp only [ltDs, ltD, ltD_em, List.length, Bool.true_and, Bool.and_true]; try decide) rfl rfl (fun w => by walk_at "nlc") (fun w => congrArg Res.val (ren_em _).symm) (fun w => rfl) (finK1 h fun ⟨z1, l2⟩ h => ⟨_, rfl, ?_⟩)
    refine freezeM 0 1 l2 (Nat.le_of_ble_eq_true rfl) rfl rfl ?_
    refine wss_cons ?_
    refine ws_retn ?_
    refine wn_callN (κ := κ) h_each_once (Nat.le_refl _) ⟨1, rfl⟩ ?_
    refine wa_cons ?_ rfl
    refine we_name (i := 1) rfl rfl rfl ?_
    refine wa_nil ?_
    refine finF (Γ := _) [.lst l2] rfl rfl hE ‹_› fun z3 h => ?_
    exact rtL_v (us := z3) h

abbrev st_unlike : Stmt := topS 18
abbrev N_unlike : List Str := ["sayings"]
abbrev vs_unlike : List Bool := [true]
abbrev gl_unlike : List Str := ["each_once"]
theorem sc_unlike : FnScope N_unlike ["sayings"] (defScope st_unlike) := ⟨rfl, rfl, rfl, by decide +kernel, rfl, by decide +kernel, by decide +kernel⟩
theorem gd_unlike : goodC N_unlike (defScope st_unlike) vs_unlike vs_unlike gl_unlike = true := by decide +kernel
@[reducible] def cx_unlike (G : Gl) (k : Nat) : Pl.Ctx := G.cx N_unlike (defScope st_unlike) vs_unlike vs_unlike gl_unlike k

theorem ok_unlike (T : Tp G κ) : ∀ k, G.fn k "unlike" 1 (spN κ 1 (sh_unlike k))
  | 0 => fn_none T.d_unlike (spN_none fun us => rfl)
  | kk + 1 => by
    have h_each_once := ok_each_once T kk
    refine def_N T.d_unlike sc_unlike gd_unlike fun us hl Q Eh h => ?_
    have hE : EI κ Eh (erM κ Eh) := EI.erM
    obtain ⟨v_sayings, rfl⟩ := len1 hl
    change WSs _ [some (em κ v_sayings)] _ (_ :: _) _
    refine wss_cons ?_
    refine ws_retn ?_
    refine wn_callN (κ := κ) h_each_once (Nat.le_refl _) ⟨0, rfl⟩ ?_
    refine wa_cons ?_ rfl
    refine we_name (i := 0) rfl rfl rfl ?_
    refine wa_nil ?_
    refine finF (Γ := _) [v_sayings] rfl rfl hE ‹_› fun z1 h => ?_
    exact rtL_v (us := z1) h

abbrev st_claim_parts : Stmt := topS 20
abbrev N_claim_parts : List Str := ["claim", "found", "saying"]
abbrev vs_claim_parts : List Bool := [true, true, true]
abbrev gl_claim_parts : List Str := ["parts_of", "unlike"]
theorem sc_claim_parts : FnScope N_claim_parts ["claim"] (defScope st_claim_parts) := ⟨rfl, rfl, rfl, by decide +kernel, rfl, by decide +kernel, by decide +kernel⟩
theorem gd_claim_parts : goodC N_claim_parts (defScope st_claim_parts) vs_claim_parts vs_claim_parts gl_claim_parts = true := by decide +kernel
@[reducible] def cx_claim_parts (G : Gl) (k : Nat) : Pl.Ctx := G.cx N_claim_parts (defScope st_claim_parts) vs_claim_parts vs_claim_parts gl_claim_parts k

theorem ok_claim_parts (T : Tp G κ) : ∀ k, G.fn k "claim_parts" 1 (spN κ 1 (sh_claim_parts k))
  | 0 => fn_none T.d_claim_parts (spN_none fun us => rfl)
  | kk + 1 => by
    have h_parts_of := ok_parts_of T kk
    have h_unlike := ok_unlike T kk
    refine def_N T.d_claim_parts sc_claim_parts gd_claim_parts fun us hl Q Eh h => ?_
    have hE : EI κ Eh (erM κ Eh) := EI.erM
    obtain ⟨v_claim, rfl⟩ := len1 hl
    change WSs _ [some (em κ v_claim), none, none] _ (_ :: _) _
    refine wss_cons ?_
    refine ws_set (i := 1) rfl rfl (we_o ?_) rfl
    refine wn_lst ?_
    refine wa_nil ?_
    refine ⟨szd (by decide : 0 < 10000000), ?_⟩
    refine wss_cons ?_
    refine ws_for [2] ?_
    refine wi_LM (κ := κ) ?_
    refine we_addM (κ := κ) ?_
    refine we_ixM (κ := κ) ?_
    refine we_name (i := 0) rfl rfl rfl ?_
    refine we_int ?_
    refine fin2 (f := ixM) v_claim (.int 0) (vE (u := v_claim)) (vE (u := .int 0)) ‹_› fun z1 h => ?_
    refine we_ixM (κ := κ) ?_
    refine we_name (i := 0) rfl rfl rfl ?_
    refine we_int ?_
    refine fin2 (f := ixM) v_claim (.int 1) (vE (u := v_claim)) (vE (u := .int 1)) ‹_› fun z2 h => ?_
    refine fin2 (f := addM) z1 z2 (vE (u := z1)) (vE (u := z2)) ‹_› fun z3 h => ?_
    refine finI (f := iterL) z3 ‹_› fun it4 h => ?_
    refine loopN_m (fun (st : List U) (Γ : Pl.Env) (Λ : Cells) => ∃ (y0 : Option D), Γ = [some (em κ v_claim), some (.loc 0), y0] ∧ Λ = [.lst (ems κ st)]) h ⟨_, rfl, rfl⟩ (fun v_found_5 x6 Γ Λ Q1 hs h => ?_) (fun v_found_9 Γ Λ hs h => ?_)
    · obtain ⟨y0, rfl, rfl⟩ := hs
      refine wg_name (i := 2) rfl rfl ?_
      refine wss_cons ?_
      refine ws_expr ?_
      refine we_extM (κ := κ) 0 ?_
      refine we_name (i := 1) rfl rfl rfl ?_
      refine ⟨rfl, ⟨v_found_5, rfl⟩, ?_⟩
      refine we_f ?_
      refine wn_callN (κ := κ) h_parts_of (Nat.le_refl _) ⟨0, rfl⟩ ?_
      refine wa_cons ?_ rfl
      refine we_name (i := 2) rfl rfl rfl ?_
      refine wa_nil ?_
      refine finF (Γ := _) [x6] rfl rfl hE ‹_› fun z7 h => ?_
      refine finV (f := extM) v_found_5 (.lst z7) (vE (u := .lst z7)) rfl ‹_› fun l8 h => ?_
      refine wss_nil ?_
      exact ⟨l8, ⟨_, rfl, rfl⟩, h⟩
    · obtain ⟨y0, rfl, rfl⟩ := hs
      refine freezeM 0 1 v_found_9 (Nat.le_of_ble_eq_true rfl) rfl rfl ?_
      refine wss_cons ?_
      refine ws_retn ?_
      refine wn_callN (κ := κ) h_unlike (Nat.le_refl _) ⟨1, rfl⟩ ?_
      refine wa_cons ?_ rfl
      refine we_name (i := 1) rfl rfl rfl ?_
      refine wa_nil ?_
      refine finF (Γ := _) [.lst v_found_9] rfl rfl hE ‹_› fun z10 h => ?_
      exact rtL_v (us := z10) h

abbrev st_shown_parts : Stmt := topS 15
abbrev N_shown_parts : List Str := ["saying", "part"]
abbrev vs_shown_parts : List Bool := [true, false]
abbrev gl_shown_parts : List Str := ["parts_of"]
theorem sc_shown_parts : FnScope N_shown_parts ["saying"] (defScope st_shown_parts) := ⟨rfl, rfl, rfl, by decide +kernel, rfl, by decide +kernel, by decide +kernel⟩
theorem gd_shown_parts : goodC N_shown_parts (defScope st_shown_parts) vs_shown_parts vs_shown_parts gl_shown_parts = true := by decide +kernel
@[reducible] def cx_shown_parts (G : Gl) (k : Nat) : Pl.Ctx := G.cx N_shown_parts (defScope st_shown_parts) vs_shown_parts vs_shown_parts gl_shown_parts k

theorem ok_shown_parts (T : Tp G κ) : ∀ k, G.fn k "shown_parts" 1 (spN κ 1 (sh_shown_parts k))
  | 0 => fn_none T.d_shown_parts (spN_none fun us => rfl)
  | kk + 1 => by
    have h_parts_of := ok_parts_of T kk
    refine def_N T.d_shown_parts sc_shown_parts gd_shown_parts fun us hl Q Eh h => ?_
    have hE : EI κ Eh (erM κ Eh) := EI.erM
    obtain ⟨v_saying, rfl⟩ := len1 hl
    change WSs _ [some (em κ v_saying), none] _ (_ :: _) _
    refine wss_cons ?_
    refine ws_retn ?_
    refine wn_lc [("part", 1)] [false, true] [false, true] [] [1] (blkOk_by (by decide +kernel : blkC N_shown_parts (defScope st_shown_parts) _ [("part", 1)] = true)) (good_blk (by decide +kernel : goodC N_shown_parts (relS _ (defScope st_shown_parts)) [false, true] [false, true] [] = true)) (sto_by (by decide +kernel : stoC N_shown_parts _ [false, true] = true)) (by decide) ?_
    refine wi_LM (κ := κ) ?_
    refine we_f ?_
    refine wn_callN (κ := κ) h_parts_of (Nat.le_refl _) ⟨0, rfl⟩ ?_
    refine wa_cons ?_ rfl
    refine we_name (i := 0) rfl rfl rfl ?_
    refine wa_nil ?_
    refine finF (Γ := _) [v_saying] rfl rfl hE ‹_› fun z1 h => ?_
    refine finI (f := iterL) (.lst z1) ‹_› fun it2 h => ?_
    refine compF_m h (fun x3 Qb Q1 h h2 => ?_) (fun zs4 h => ?_)
    · have hE : EI κ no ER.none := EI.no
      refine wg_name (i := 1) rfl rfl ?_
      refine wt_eqM (κ := κ) ?_
      refine we_ixM (κ := κ) ?_
      refine we_name (i := 1) rfl rfl rfl ?_
      refine we_int ?_
      refine fin2 (f := ixM) x3 (.int 0) (vE (u := x3)) (vE (u := .int 0)) ‹_› fun z5 h => ?_
      refine we_str ?_
      refine fin2 (f := eqM) z5 (.str "shown") (vE (u := z5)) (vE (u := .str "shown")) ‹_› fun b6 h => ?_
      refine ⟨rfl, h, fun hb => ?_⟩
      replace h := h2 (by cases hb; exact h)
      refine we_name (i := 1) rfl rfl rfl ?_
      exact ⟨rfl, x3, rfl, h⟩
    exact rtL_v (us := zs4) h

abbrev st_claim_shown : Stmt := topS 21
abbrev N_claim_shown : List Str := ["claim", "found", "saying"]
abbrev vs_claim_shown : List Bool := [true, true, true]
abbrev gl_claim_shown : List Str := ["shown_parts", "unlike"]
theorem sc_claim_shown : FnScope N_claim_shown ["claim"] (defScope st_claim_shown) := ⟨rfl, rfl, rfl, by decide +kernel, rfl, by decide +kernel, by decide +kernel⟩
theorem gd_claim_shown : goodC N_claim_shown (defScope st_claim_shown) vs_claim_shown vs_claim_shown gl_claim_shown = true := by decide +kernel
@[reducible] def cx_claim_shown (G : Gl) (k : Nat) : Pl.Ctx := G.cx N_claim_shown (defScope st_claim_shown) vs_claim_shown vs_claim_shown gl_claim_shown k

theorem ok_claim_shown (T : Tp G κ) : ∀ k, G.fn k "claim_shown" 1 (spN κ 1 (sh_claim_shown k))
  | 0 => fn_none T.d_claim_shown (spN_none fun us => rfl)
  | kk + 1 => by
    have h_shown_parts := ok_shown_parts T kk
    have h_unlike := ok_unlike T kk
    refine def_N T.d_claim_shown sc_claim_shown gd_claim_shown fun us hl Q Eh h => ?_
    have hE : EI κ Eh (erM κ Eh) := EI.erM
    obtain ⟨v_claim, rfl⟩ := len1 hl
    change WSs _ [some (em κ v_claim), none, none] _ (_ :: _) _
    refine wss_cons ?_
    refine ws_set (i := 1) rfl rfl (we_o ?_) rfl
    refine wn_lst ?_
    refine wa_nil ?_
    refine ⟨szd (by decide : 0 < 10000000), ?_⟩
    refine wss_cons ?_
    refine ws_for [2] ?_
    refine wi_LM (κ := κ) ?_
    refine we_addM (κ := κ) ?_
    refine we_ixM (κ := κ) ?_
    refine we_name (i := 0) rfl rfl rfl ?_
    refine we_int ?_
    refine fin2 (f := ixM) v_claim (.int 0) (vE (u := v_claim)) (vE (u := .int 0)) ‹_› fun z1 h => ?_
    refine we_ixM (κ := κ) ?_
    refine we_name (i := 0) rfl rfl rfl ?_
    refine we_int ?_
    refine fin2 (f := ixM) v_claim (.int 1) (vE (u := v_claim)) (vE (u := .int 1)) ‹_› fun z2 h => ?_
    refine fin2 (f := addM) z1 z2 (vE (u := z1)) (vE (u := z2)) ‹_› fun z3 h => ?_
    refine finI (f := iterL) z3 ‹_› fun it4 h => ?_
    refine loopN_m (fun (st : List U) (Γ : Pl.Env) (Λ : Cells) => ∃ (y0 : Option D), Γ = [some (em κ v_claim), some (.loc 0), y0] ∧ Λ = [.lst (ems κ st)]) h ⟨_, rfl, rfl⟩ (fun v_found_5 x6 Γ Λ Q1 hs h => ?_) (fun v_found_9 Γ Λ hs h => ?_)
    · obtain ⟨y0, rfl, rfl⟩ := hs
      refine wg_name (i := 2) rfl rfl ?_
      refine wss_cons ?_
      refine ws_expr ?_
      refine we_extM (κ := κ) 0 ?_
      refine we_name (i := 1) rfl rfl rfl ?_
      refine ⟨rfl, ⟨v_found_5, rfl⟩, ?_⟩
      refine we_f ?_
      refine wn_callN (κ := κ) h_shown_parts (Nat.le_refl _) ⟨0, rfl⟩ ?_
      refine wa_cons ?_ rfl
      refine we_name (i := 2) rfl rfl rfl ?_
      refine wa_nil ?_
      refine finF (Γ := _) [x6] rfl rfl hE ‹_› fun z7 h => ?_
      refine finV (f := extM) v_found_5 (.lst z7) (vE (u := .lst z7)) rfl ‹_› fun l8 h => ?_
      refine wss_nil ?_
      exact ⟨l8, ⟨_, rfl, rfl⟩, h⟩
    · obtain ⟨y0, rfl, rfl⟩ := hs
      refine freezeM 0 1 v_found_9 (Nat.le_of_ble_eq_true rfl) rfl rfl ?_
      refine wss_cons ?_
      refine ws_retn ?_
      refine wn_callN (κ := κ) h_unlike (Nat.le_refl _) ⟨1, rfl⟩ ?_
      refine wa_cons ?_ rfl
      refine we_name (i := 1) rfl rfl rfl ?_
      refine wa_nil ?_
      refine finF (Γ := _) [.lst v_found_9] rfl rfl hE ‹_› fun z10 h => ?_
      exact rtL_v (us := z10) h

abbrev st_Search_init : Stmt := inClass (topS 31) 0
abbrev N_Search_init : List Str := ["self"]
abbrev vs_Search_init : List Bool := [true]
abbrev gl_Search_init : List Str := []
theorem sc_Search_init : FnScope N_Search_init ["self"] (defScope st_Search_init) := ⟨rfl, rfl, rfl, by decide +kernel, rfl, by decide +kernel, by decide +kernel⟩
theorem gd_Search_init : goodC N_Search_init (defScope st_Search_init) vs_Search_init vs_Search_init gl_Search_init = true := by decide +kernel
@[reducible] def cx_Search_init (G : Gl) (k : Nat) : Pl.Ctx := G.cx N_Search_init (defScope st_Search_init) vs_Search_init vs_Search_init gl_Search_init k

theorem ok_Search_init (T : Tp G κ) : ∀ k, Glit G (k + 1) (κ.ad "Search") 1 (spSI κ "Search")
  | kk => by
    refine init_S T.d_Search_init sc_Search_init gd_Search_init rfl ?_
    have hE : EI κ no ER.none := EI.no
    change WSs _ [some (.loc 0)] [.ins (κ.ad "Search") [] []] (_ :: _) _
    refine wss_cons ?_
    refine ws_fld (f := "steps") T.kls_Search.1 T.kls_Search.2.1 ?_
    refine we_o ?_
    refine wn_lst ?_
    refine wa_nil ?_
    refine ⟨szd (by decide : 0 < 10000000), ?_⟩
    refine we_name (i := 0) rfl rfl rfl ?_
    refine ⟨0, rfl, rfl, ?_⟩
    refine wss_cons ?_
    refine ws_fldB (f0 := "steps") (d0 := .loc 1) (f := "met") T.kls_Search.1 T.kls_Search.2.2 (by decide) ?_
    refine we_dnewO ?_
    refine we_name (i := 0) rfl rfl rfl ?_
    refine ⟨0, rfl, rfl, ?_⟩
    refine wss_nil ?_
    rfl

abbrev st_Search_told : Stmt := inClass (topS 31) 2
abbrev N_Search_told : List Str := ["self", "claim", "rule", "saying", "uses"]
abbrev vs_Search_told : List Bool := [true, true, true, true, true]
abbrev gl_Search_told : List Str := ["list", "len"]
theorem sc_Search_told : FnScope N_Search_told ["self", "claim", "rule", "saying", "uses"] (defScope st_Search_told) := ⟨rfl, rfl, rfl, by decide +kernel, rfl, by decide +kernel, by decide +kernel⟩
theorem gd_Search_told : goodC N_Search_told (defScope st_Search_told) vs_Search_told vs_Search_told gl_Search_told = true := by decide +kernel
@[reducible] def cx_Search_told (G : Gl) (k : Nat) : Pl.Ctx := G.cx N_Search_told (defScope st_Search_told) vs_Search_told vs_Search_told gl_Search_told k

theorem sx_Search_told (T : Tp G κ) {kk : Nat} : Glmt G (kk + 1) (κ.ad "Search") "told" 5 (spS κ "Search" 5 (sh_Search_told (kk + 1))) := by
  refine meth_S T.d_Search_told sc_Search_told gd_Search_told fun us v_S v_M Q hl h => ?_
  have hE : EI κ no ER.none := EI.no
  obtain ⟨v_claim, v_rule, v_saying, v_uses, rfl⟩ := len4 (Nat.succ.inj hl)
  change WSs _ [some (.loc 0), some (em κ v_claim), some (em κ v_rule), some (em κ v_saying), some (em κ v_uses)] [.ins (κ.ad "Search") ["steps", "met"] [.loc 1, .loc 2], .lst (ems κ v_S), .dic v_M.1 (ems κ v_M.2)] (_ :: _) _
  refine wss_cons ?_
  refine ws_expr ?_
  refine we_appM (κ := κ) 1 ?_
  refine we_fldC (f := "steps") (ns := ["steps", "met"]) (ds := [.loc 1, .loc 2]) (d := .loc 1) 0 T.kls_Search.1 T.kls_Search.2.1 ?_
  refine we_name (i := 0) rfl rfl rfl ?_
  refine ⟨rfl, rfl, rfl, ?_⟩
  refine ⟨rfl, ⟨v_S, rfl⟩, ?_⟩
  refine we_tup ?_
  refine wa_cons ?_ rfl
  refine we_f ?_
  refine wn_listM (κ := κ) ⟨0, rfl⟩ T.z_list ?_
  refine we_ixM (κ := κ) ?_
  refine we_name (i := 1) rfl rfl rfl ?_
  refine we_int ?_
  refine fin2 (f := ixM) v_claim (.int 0) (vE (u := v_claim)) (vE (u := .int 0)) ‹_› fun z1 h => ?_
  refine fin1 (f := listM) z1 (vE (u := z1)) ‹_› fun z2 h => ?_
  refine wa_cons ?_ rfl
  refine we_f ?_
  refine wn_listM (κ := κ) ⟨0, rfl⟩ T.z_list ?_
  refine we_ixM (κ := κ) ?_
  refine we_name (i := 1) rfl rfl rfl ?_
  refine we_int ?_
  refine fin2 (f := ixM) v_claim (.int 1) (vE (u := v_claim)) (vE (u := .int 1)) ‹_› fun z3 h => ?_
  refine fin1 (f := listM) z3 (vE (u := z3)) ‹_› fun z4 h => ?_
  refine wa_cons ?_ rfl
  refine we_name (i := 2) rfl rfl rfl ?_
  refine wa_cons ?_ rfl
  refine we_name (i := 3) rfl rfl rfl ?_
  refine wa_cons ?_ rfl
  refine we_name (i := 4) rfl rfl rfl ?_
  refine wa_nil ?_
  refine ⟨szd (by decide : 5 < 10000000), ?_⟩
  refine finA (f := appM) v_S (.tup [.lst z2, .lst z4, v_rule, v_saying, v_uses]) rfl ‹_› fun l5 h => ?_
  refine wss_cons ?_
  refine ws_ret ?_
  refine we_tup ?_
  refine wa_cons ?_ rfl
  refine we_subM (κ := κ) ?_
  refine we_lenM (κ := κ) ⟨1, rfl⟩ T.z_len ?_
  refine we_fldC (f := "steps") (ns := ["steps", "met"]) (ds := [.loc 1, .loc 2]) (d := .loc 1) 0 T.kls_Search.1 T.kls_Search.2.1 ?_
  refine we_name (i := 0) rfl rfl rfl ?_
  refine ⟨rfl, rfl, rfl, ?_⟩
  refine fin1 (f := lenM) (.lst l5) (vL rfl) ‹_› fun z6 h => ?_
  refine we_int ?_
  refine fin2 (f := subM) z6 (.int 1) (vE (u := z6)) (vE (u := .int 1)) ‹_› fun z7 h => ?_
  refine wa_cons ?_ rfl
  refine we_non ?_
  refine wa_nil ?_
  refine ⟨szd (by decide : 2 < 10000000), ?_⟩
  exact ⟨(.tup [z7, .non], l5, v_M), rfl, ⟨[], rfl⟩, (by exact h)⟩

abbrev st_claim_of : Stmt := topS 19
abbrev N_claim_of : List Str := ["left", "right"]
abbrev vs_claim_of : List Bool := [true, true]
abbrev gl_claim_of : List Str := ["unlike"]
theorem sc_claim_of : FnScope N_claim_of ["left", "right"] (defScope st_claim_of) := ⟨rfl, rfl, rfl, by decide +kernel, rfl, by decide +kernel, by decide +kernel⟩
theorem gd_claim_of : goodC N_claim_of (defScope st_claim_of) vs_claim_of vs_claim_of gl_claim_of = true := by decide +kernel
@[reducible] def cx_claim_of (G : Gl) (k : Nat) : Pl.Ctx := G.cx N_claim_of (defScope st_claim_of) vs_claim_of vs_claim_of gl_claim_of k

theorem ok_claim_of (T : Tp G κ) : ∀ k, G.fn k "claim_of" 2 (spV κ 2 (sh_claim_of k))
  | 0 => fn_none T.d_claim_of (spV_none fun us => rfl)
  | kk + 1 => by
    have h_unlike := ok_unlike T kk
    refine def_V T.d_claim_of sc_claim_of gd_claim_of fun us hl Q Eh h => ?_
    have hE : EI κ Eh (erM κ Eh) := EI.erM
    obtain ⟨v_left, v_right, rfl⟩ := len2 hl
    change WSs _ [some (em κ v_left), some (em κ v_right)] _ (_ :: _) _
    refine wss_cons ?_
    refine ws_ret ?_
    refine we_tup ?_
    refine wa_cons ?_ rfl
    refine we_f ?_
    refine wn_callN (κ := κ) h_unlike (Nat.le_refl _) ⟨0, rfl⟩ ?_
    refine wa_cons ?_ rfl
    refine we_name (i := 0) rfl rfl rfl ?_
    refine wa_nil ?_
    refine finF (Γ := _) [v_left] rfl rfl hE ‹_› fun z1 h => ?_
    refine wa_cons ?_ rfl
    refine we_f ?_
    refine wn_callN (κ := κ) h_unlike (Nat.le_refl _) ⟨0, rfl⟩ ?_
    refine wa_cons ?_ rfl
    refine we_name (i := 1) rfl rfl rfl ?_
    refine wa_nil ?_
    refine finF (Γ := _) [v_right] rfl rfl hE ‹_› fun z2 h => ?_
    refine wa_nil ?_
    refine ⟨szd (by decide : 2 < 10000000), ?_⟩
    exact rtV_v (u := (.tup [.lst z1, .lst z2])) h

abbrev st_from_left : Stmt := topS 23
abbrev N_from_left : List Str := ["left", "right", "saying"]
abbrev vs_from_left : List Bool := [true, true, true]
abbrev gl_from_left : List Str := ["claim_of", "NoRule"]
theorem sc_from_left : FnScope N_from_left ["left", "right", "saying"] (defScope st_from_left) := ⟨rfl, rfl, rfl, by decide +kernel, rfl, by decide +kernel, by decide +kernel⟩
theorem gd_from_left : goodC N_from_left (defScope st_from_left) vs_from_left vs_from_left gl_from_left = true := by decide +kernel
@[reducible] def cx_from_left (G : Gl) (k : Nat) : Pl.Ctx := G.cx N_from_left (defScope st_from_left) vs_from_left vs_from_left gl_from_left k

theorem ok_from_left (T : Tp G κ) : ∀ k, G.fn k "from_left" 3 (spN κ 3 (sh_from_left k))
  | 0 => fn_none T.d_from_left (spN_none fun us => rfl)
  | kk + 1 => by
    have h_claim_of := ok_claim_of T kk
    refine def_N T.d_from_left sc_from_left gd_from_left fun us hl Q Eh h => ?_
    have hE : EI κ Eh (erM κ Eh) := EI.erM
    obtain ⟨v_left, v_right, v_saying, rfl⟩ := len3 hl
    change WSs _ [some (em κ v_left), some (em κ v_right), some (em κ v_saying)] _ (_ :: _) _
    refine wss_cons ?_
    refine ws_if ?_
    refine wt_eqM (κ := κ) ?_
    refine we_ixM (κ := κ) ?_
    refine we_name (i := 2) rfl rfl rfl ?_
    refine we_int ?_
    refine fin2 (f := ixM) v_saying (.int 0) (vE (u := v_saying)) (vE (u := .int 0)) ‹_› fun z1 h => ?_
    refine we_str ?_
    refine fin2 (f := eqM) z1 (.str "not") (vE (u := z1)) (vE (u := .str "not")) ‹_› fun b2 h => ?_
    refine ite_m ‹_› (fun h => ?_) (fun h => ?_)
    · refine wss_cons ?_
      refine ws_retn ?_
      refine wn_lst ?_
      refine wa_cons ?_ rfl
      refine we_callV (κ := κ) h_claim_of (Nat.le_refl _) ⟨0, rfl⟩ ?_
      refine wa_cons ?_ rfl
      refine we_name (i := 0) rfl rfl rfl ?_
      refine wa_cons ?_ rfl
      refine we_addM (κ := κ) ?_
      refine we_name (i := 1) rfl rfl rfl ?_
      refine we_f ?_
      refine wn_lst ?_
      refine wa_cons ?_ rfl
      refine we_ixM (κ := κ) ?_
      refine we_name (i := 2) rfl rfl rfl ?_
      refine we_int ?_
      refine fin2 (f := ixM) v_saying (.int 1) (vE (u := v_saying)) (vE (u := .int 1)) ‹_› fun z3 h => ?_
      refine wa_nil ?_
      refine ⟨szd (by decide : 1 < 10000000), ?_⟩
      refine fin2 (f := addM) v_right (.lst [z3]) (vE (u := v_right)) (vE (u := .lst [z3])) ‹_› fun z4 h => ?_
      refine wa_nil ?_
      refine finF (Γ := _) [v_left, z4] rfl rfl hE ‹_› fun z5 h => ?_
      refine wa_nil ?_
      refine ⟨szd (by decide : 1 < 10000000), ?_⟩
      exact rtL_v (us := [z5]) h
    · refine wss_nil ?_
      refine wss_cons ?_
      refine ws_if ?_
      refine wt_eqM (κ := κ) ?_
      refine we_ixM (κ := κ) ?_
      refine we_name (i := 2) rfl rfl rfl ?_
      refine we_int ?_
      refine fin2 (f := ixM) v_saying (.int 0) (vE (u := v_saying)) (vE (u := .int 0)) ‹_› fun z6 h => ?_
      refine we_str ?_
      refine fin2 (f := eqM) z6 (.str "and") (vE (u := z6)) (vE (u := .str "and")) ‹_› fun b7 h => ?_
      refine ite_m ‹_› (fun h => ?_) (fun h => ?_)
      · refine wss_cons ?_
        refine ws_retn ?_
        refine wn_lst ?_
        refine wa_cons ?_ rfl
        refine we_callV (κ := κ) h_claim_of (Nat.le_refl _) ⟨0, rfl⟩ ?_
        refine wa_cons ?_ rfl
        refine we_addM (κ := κ) ?_
        refine we_name (i := 0) rfl rfl rfl ?_
        refine we_f ?_
        refine wn_lst ?_
        refine wa_cons ?_ rfl
        refine we_ixM (κ := κ) ?_
        refine we_name (i := 2) rfl rfl rfl ?_
        refine we_int ?_
        refine fin2 (f := ixM) v_saying (.int 1) (vE (u := v_saying)) (vE (u := .int 1)) ‹_› fun z8 h => ?_
        refine wa_cons ?_ rfl
        refine we_ixM (κ := κ) ?_
        refine we_name (i := 2) rfl rfl rfl ?_
        refine we_int ?_
        refine fin2 (f := ixM) v_saying (.int 2) (vE (u := v_saying)) (vE (u := .int 2)) ‹_› fun z9 h => ?_
        refine wa_nil ?_
        refine ⟨szd (by decide : 2 < 10000000), ?_⟩
        refine fin2 (f := addM) v_left (.lst [z8, z9]) (vE (u := v_left)) (vE (u := .lst [z8, z9])) ‹_› fun z10 h => ?_
        refine wa_cons ?_ rfl
        refine we_name (i := 1) rfl rfl rfl ?_
        refine wa_nil ?_
        refine finF (Γ := _) [z10, v_right] rfl rfl hE ‹_› fun z11 h => ?_
        refine wa_nil ?_
        refine ⟨szd (by decide : 1 < 10000000), ?_⟩
        exact rtL_v (us := [z11]) h
      · refine wss_nil ?_
        refine wss_cons ?_
        refine ws_if ?_
        refine wt_eqM (κ := κ) ?_
        refine we_ixM (κ := κ) ?_
        refine we_name (i := 2) rfl rfl rfl ?_
        refine we_int ?_
        refine fin2 (f := ixM) v_saying (.int 0) (vE (u := v_saying)) (vE (u := .int 0)) ‹_› fun z12 h => ?_
        refine we_str ?_
        refine fin2 (f := eqM) z12 (.str "or") (vE (u := z12)) (vE (u := .str "or")) ‹_› fun b13 h => ?_
        refine ite_m ‹_› (fun h => ?_) (fun h => ?_)
        · refine wss_cons ?_
          refine ws_retn ?_
          refine wn_lst ?_
          refine wa_cons ?_ rfl
          refine we_callV (κ := κ) h_claim_of (Nat.le_refl _) ⟨0, rfl⟩ ?_
          refine wa_cons ?_ rfl
          refine we_addM (κ := κ) ?_
          refine we_name (i := 0) rfl rfl rfl ?_
          refine we_f ?_
          refine wn_lst ?_
          refine wa_cons ?_ rfl
          refine we_ixM (κ := κ) ?_
          refine we_name (i := 2) rfl rfl rfl ?_
          refine we_int ?_
          refine fin2 (f := ixM) v_saying (.int 1) (vE (u := v_saying)) (vE (u := .int 1)) ‹_› fun z14 h => ?_
          refine wa_nil ?_
          refine ⟨szd (by decide : 1 < 10000000), ?_⟩
          refine fin2 (f := addM) v_left (.lst [z14]) (vE (u := v_left)) (vE (u := .lst [z14])) ‹_› fun z15 h => ?_
          refine wa_cons ?_ rfl
          refine we_name (i := 1) rfl rfl rfl ?_
          refine wa_nil ?_
          refine finF (Γ := _) [z15, v_right] rfl rfl hE ‹_› fun z16 h => ?_
          refine wa_cons ?_ rfl
          refine we_callV (κ := κ) h_claim_of (Nat.le_refl _) ⟨0, rfl⟩ ?_
          refine wa_cons ?_ rfl
          refine we_addM (κ := κ) ?_
          refine we_name (i := 0) rfl rfl rfl ?_
          refine we_f ?_
          refine wn_lst ?_
          refine wa_cons ?_ rfl
          refine we_ixM (κ := κ) ?_
          refine we_name (i := 2) rfl rfl rfl ?_
          refine we_int ?_
          refine fin2 (f := ixM) v_saying (.int 2) (vE (u := v_saying)) (vE (u := .int 2)) ‹_› fun z17 h => ?_
          refine wa_nil ?_
          refine ⟨szd (by decide : 1 < 10000000), ?_⟩
          refine fin2 (f := addM) v_left (.lst [z17]) (vE (u := v_left)) (vE (u := .lst [z17])) ‹_› fun z18 h => ?_
          refine wa_cons ?_ rfl
          refine we_name (i := 1) rfl rfl rfl ?_
          refine wa_nil ?_
          refine finF (Γ := _) [z18, v_right] rfl rfl hE ‹_› fun z19 h => ?_
          refine wa_nil ?_
          refine ⟨szd (by decide : 2 < 10000000), ?_⟩
          exact rtL_v (us := [z16, z19]) h
        · refine wss_nil ?_
          refine wss_cons ?_
          refine ws_if ?_
          refine wt_eqM (κ := κ) ?_
          refine we_ixM (κ := κ) ?_
          refine we_name (i := 2) rfl rfl rfl ?_
          refine we_int ?_
          refine fin2 (f := ixM) v_saying (.int 0) (vE (u := v_saying)) (vE (u := .int 0)) ‹_› fun z20 h => ?_
          refine we_str ?_
          refine fin2 (f := eqM) z20 (.str "if") (vE (u := z20)) (vE (u := .str "if")) ‹_› fun b21 h => ?_
          refine ite_m ‹_› (fun h => ?_) (fun h => ?_)
          · refine wss_cons ?_
            refine ws_retn ?_
            refine wn_lst ?_
            refine wa_cons ?_ rfl
            refine we_callV (κ := κ) h_claim_of (Nat.le_refl _) ⟨0, rfl⟩ ?_
            refine wa_cons ?_ rfl
            refine we_name (i := 0) rfl rfl rfl ?_
            refine wa_cons ?_ rfl
            refine we_addM (κ := κ) ?_
            refine we_name (i := 1) rfl rfl rfl ?_
            refine we_f ?_
            refine wn_lst ?_
            refine wa_cons ?_ rfl
            refine we_ixM (κ := κ) ?_
            refine we_name (i := 2) rfl rfl rfl ?_
            refine we_int ?_
            refine fin2 (f := ixM) v_saying (.int 1) (vE (u := v_saying)) (vE (u := .int 1)) ‹_› fun z22 h => ?_
            refine wa_nil ?_
            refine ⟨szd (by decide : 1 < 10000000), ?_⟩
            refine fin2 (f := addM) v_right (.lst [z22]) (vE (u := v_right)) (vE (u := .lst [z22])) ‹_› fun z23 h => ?_
            refine wa_nil ?_
            refine finF (Γ := _) [v_left, z23] rfl rfl hE ‹_› fun z24 h => ?_
            refine wa_cons ?_ rfl
            refine we_callV (κ := κ) h_claim_of (Nat.le_refl _) ⟨0, rfl⟩ ?_
            refine wa_cons ?_ rfl
            refine we_addM (κ := κ) ?_
            refine we_name (i := 0) rfl rfl rfl ?_
            refine we_f ?_
            refine wn_lst ?_
            refine wa_cons ?_ rfl
            refine we_ixM (κ := κ) ?_
            refine we_name (i := 2) rfl rfl rfl ?_
            refine we_int ?_
            refine fin2 (f := ixM) v_saying (.int 2) (vE (u := v_saying)) (vE (u := .int 2)) ‹_› fun z25 h => ?_
            refine wa_nil ?_
            refine ⟨szd (by decide : 1 < 10000000), ?_⟩
            refine fin2 (f := addM) v_left (.lst [z25]) (vE (u := v_left)) (vE (u := .lst [z25])) ‹_› fun z26 h => ?_
            refine wa_cons ?_ rfl
            refine we_name (i := 1) rfl rfl rfl ?_
            refine wa_nil ?_
            refine finF (Γ := _) [z26, v_right] rfl rfl hE ‹_› fun z27 h => ?_
            refine wa_nil ?_
            refine ⟨szd (by decide : 2 < 10000000), ?_⟩
            exact rtL_v (us := [z24, z27]) h
          · refine wss_nil ?_
            refine wss_cons ?_
            exact ws_raiseM ⟨1, rfl⟩ T.x_NoRule (EI.at hE) h

abbrev st_without : Stmt := topS 22
abbrev N_without : List Str := ["sayings", "saying", "other"]
abbrev vs_without : List Bool := [true, true, false]
abbrev gl_without : List Str := []
theorem sc_without : FnScope N_without ["sayings", "saying"] (defScope st_without) := ⟨rfl, rfl, rfl, by decide +kernel, rfl, by decide +kernel, by decide +kernel⟩
theorem gd_without : goodC N_without (defScope st_without) vs_without vs_without gl_without = true := by decide +kernel
@[reducible] def cx_without (G : Gl) (k : Nat) : Pl.Ctx := G.cx N_without (defScope st_without) vs_without vs_without gl_without k

theorem ok_without (T : Tp G κ) : ∀ k, G.fn k "without" 2 (spN κ 2 (sh_without k))
  | 0 => fn_none T.d_without (spN_none fun us => rfl)
  | kk + 1 => by
    refine def_N T.d_without sc_without gd_without fun us hl Q Eh h => ?_
    have hE : EI κ Eh (erM κ Eh) := EI.erM
    obtain ⟨v_sayings, v_saying, rfl⟩ := len2 hl
    change WSs _ [some (em κ v_sayings), some (em κ v_saying), none] _ (_ :: _) _
    refine wss_cons ?_
    refine ws_retn ?_
    refine wn_lc [("other", 2)] [false, true, true] [false, false, true] [] [2] (blkOk_by (by decide +kernel : blkC N_without (defScope st_without) _ [("other", 2)] = true)) (good_blk (by decide +kernel : goodC N_without (relS _ (defScope st_without)) [false, true, true] [false, false, true] [] = true)) (sto_by (by decide +kernel : stoC N_without _ [false, false, true] = true)) (by decide) ?_
    refine wi_LM (κ := κ) ?_
    refine we_name (i := 0) rfl rfl rfl ?_
    refine finI (f := iterL) v_sayings ‹_› fun it1 h => ?_
    refine compF_m h (fun x2 Qb Q1 h h2 => ?_) (fun zs3 h => ?_)
    · have hE : EI κ no ER.none := EI.no
      refine wg_name (i := 2) rfl rfl ?_
      refine wt_neM (κ := κ) ?_
      refine we_name (i := 2) rfl rfl rfl ?_
      refine we_name (i := 1) rfl rfl rfl ?_
      refine fin2 (f := (nB eqM)) x2 v_saying (vE (u := x2)) (vE (u := v_saying)) ‹_› fun b4 h => ?_
      refine ⟨rfl, h, fun hb => ?_⟩
      replace h := h2 (by cases hb; exact h)
      refine we_name (i := 2) rfl rfl rfl ?_
      exact ⟨rfl, x2, rfl, h⟩
    exact rtL_v (us := zs3) h

abbrev st_from_right : Stmt := topS 24
abbrev N_from_right : List Str := ["left", "right", "saying"]
abbrev vs_from_right : List Bool := [true, true, true]
abbrev gl_from_right : List Str := ["claim_of", "NoRule"]
theorem sc_from_right : FnScope N_from_right ["left", "right", "saying"] (defScope st_from_right) := ⟨rfl, rfl, rfl, by decide +kernel, rfl, by decide +kernel, by decide +kernel⟩
theorem gd_from_right : goodC N_from_right (defScope st_from_right) vs_from_right vs_from_right gl_from_right = true := by decide +kernel
@[reducible] def cx_from_right (G : Gl) (k : Nat) : Pl.Ctx := G.cx N_from_right (defScope st_from_right) vs_from_right vs_from_right gl_from_right k

theorem ok_from_right (T : Tp G κ) : ∀ k, G.fn k "from_right" 3 (spN κ 3 (sh_from_right k))
  | 0 => fn_none T.d_from_right (spN_none fun us => rfl)
  | kk + 1 => by
    have h_claim_of := ok_claim_of T kk
    refine def_N T.d_from_right sc_from_right gd_from_right fun us hl Q Eh h => ?_
    have hE : EI κ Eh (erM κ Eh) := EI.erM
    obtain ⟨v_left, v_right, v_saying, rfl⟩ := len3 hl
    change WSs _ [some (em κ v_left), some (em κ v_right), some (em κ v_saying)] _ (_ :: _) _
    refine wss_cons ?_
    refine ws_if ?_
    refine wt_eqM (κ := κ) ?_
    refine we_ixM (κ := κ) ?_
    refine we_name (i := 2) rfl rfl rfl ?_
    refine we_int ?_
    refine fin2 (f := ixM) v_saying (.int 0) (vE (u := v_saying)) (vE (u := .int 0)) ‹_› fun z1 h => ?_
    refine we_str ?_
    refine fin2 (f := eqM) z1 (.str "not") (vE (u := z1)) (vE (u := .str "not")) ‹_› fun b2 h => ?_
    refine ite_m ‹_› (fun h => ?_) (fun h => ?_)
    · refine wss_cons ?_
      refine ws_retn ?_
      refine wn_lst ?_
      refine wa_cons ?_ rfl
      refine we_callV (κ := κ) h_claim_of (Nat.le_refl _) ⟨0, rfl⟩ ?_
      refine wa_cons ?_ rfl
      refine we_addM (κ := κ) ?_
      refine we_name (i := 0) rfl rfl rfl ?_
      refine we_f ?_
      refine wn_lst ?_
      refine wa_cons ?_ rfl
      refine we_ixM (κ := κ) ?_
      refine we_name (i := 2) rfl rfl rfl ?_
      refine we_int ?_
      refine fin2 (f := ixM) v_saying (.int 1) (vE (u := v_saying)) (vE (u := .int 1)) ‹_› fun z3 h => ?_
      refine wa_nil ?_
      refine ⟨szd (by decide : 1 < 10000000), ?_⟩
      refine fin2 (f := addM) v_left (.lst [z3]) (vE (u := v_left)) (vE (u := .lst [z3])) ‹_› fun z4 h => ?_
      refine wa_cons ?_ rfl
      refine we_name (i := 1) rfl rfl rfl ?_
      refine wa_nil ?_
      refine finF (Γ := _) [z4, v_right] rfl rfl hE ‹_› fun z5 h => ?_
      refine wa_nil ?_
      refine ⟨szd (by decide : 1 < 10000000), ?_⟩
      exact rtL_v (us := [z5]) h
    · refine wss_nil ?_
      refine wss_cons ?_
      refine ws_if ?_
      refine wt_eqM (κ := κ) ?_
      refine we_ixM (κ := κ) ?_
      refine we_name (i := 2) rfl rfl rfl ?_
      refine we_int ?_
      refine fin2 (f := ixM) v_saying (.int 0) (vE (u := v_saying)) (vE (u := .int 0)) ‹_› fun z6 h => ?_
      refine we_str ?_
      refine fin2 (f := eqM) z6 (.str "and") (vE (u := z6)) (vE (u := .str "and")) ‹_› fun b7 h => ?_
      refine ite_m ‹_› (fun h => ?_) (fun h => ?_)
      · refine wss_cons ?_
        refine ws_retn ?_
        refine wn_lst ?_
        refine wa_cons ?_ rfl
        refine we_callV (κ := κ) h_claim_of (Nat.le_refl _) ⟨0, rfl⟩ ?_
        refine wa_cons ?_ rfl
        refine we_name (i := 0) rfl rfl rfl ?_
        refine wa_cons ?_ rfl
        refine we_addM (κ := κ) ?_
        refine we_name (i := 1) rfl rfl rfl ?_
        refine we_f ?_
        refine wn_lst ?_
        refine wa_cons ?_ rfl
        refine we_ixM (κ := κ) ?_
        refine we_name (i := 2) rfl rfl rfl ?_
        refine we_int ?_
        refine fin2 (f := ixM) v_saying (.int 1) (vE (u := v_saying)) (vE (u := .int 1)) ‹_› fun z8 h => ?_
        refine wa_nil ?_
        refine ⟨szd (by decide : 1 < 10000000), ?_⟩
        refine fin2 (f := addM) v_right (.lst [z8]) (vE (u := v_right)) (vE (u := .lst [z8])) ‹_› fun z9 h => ?_
        refine wa_nil ?_
        refine finF (Γ := _) [v_left, z9] rfl rfl hE ‹_› fun z10 h => ?_
        refine wa_cons ?_ rfl
        refine we_callV (κ := κ) h_claim_of (Nat.le_refl _) ⟨0, rfl⟩ ?_
        refine wa_cons ?_ rfl
        refine we_name (i := 0) rfl rfl rfl ?_
        refine wa_cons ?_ rfl
        refine we_addM (κ := κ) ?_
        refine we_name (i := 1) rfl rfl rfl ?_
        refine we_f ?_
        refine wn_lst ?_
        refine wa_cons ?_ rfl
        refine we_ixM (κ := κ) ?_
        refine we_name (i := 2) rfl rfl rfl ?_
        refine we_int ?_
        refine fin2 (f := ixM) v_saying (.int 2) (vE (u := v_saying)) (vE (u := .int 2)) ‹_› fun z11 h => ?_
        refine wa_nil ?_
        refine ⟨szd (by decide : 1 < 10000000), ?_⟩
        refine fin2 (f := addM) v_right (.lst [z11]) (vE (u := v_right)) (vE (u := .lst [z11])) ‹_› fun z12 h => ?_
        refine wa_nil ?_
        refine finF (Γ := _) [v_left, z12] rfl rfl hE ‹_› fun z13 h => ?_
        refine wa_nil ?_
        refine ⟨szd (by decide : 2 < 10000000), ?_⟩
        exact rtL_v (us := [z10, z13]) h
      · refine wss_nil ?_
        refine wss_cons ?_
        refine ws_if ?_
        refine wt_eqM (κ := κ) ?_
        refine we_ixM (κ := κ) ?_
        refine we_name (i := 2) rfl rfl rfl ?_
        refine we_int ?_
        refine fin2 (f := ixM) v_saying (.int 0) (vE (u := v_saying)) (vE (u := .int 0)) ‹_› fun z14 h => ?_
        refine we_str ?_
        refine fin2 (f := eqM) z14 (.str "or") (vE (u := z14)) (vE (u := .str "or")) ‹_› fun b15 h => ?_
        refine ite_m ‹_› (fun h => ?_) (fun h => ?_)
        · refine wss_cons ?_
          refine ws_retn ?_
          refine wn_lst ?_
          refine wa_cons ?_ rfl
          refine we_callV (κ := κ) h_claim_of (Nat.le_refl _) ⟨0, rfl⟩ ?_
          refine wa_cons ?_ rfl
          refine we_name (i := 0) rfl rfl rfl ?_
          refine wa_cons ?_ rfl
          refine we_addM (κ := κ) ?_
          refine we_name (i := 1) rfl rfl rfl ?_
          refine we_f ?_
          refine wn_lst ?_
          refine wa_cons ?_ rfl
          refine we_ixM (κ := κ) ?_
          refine we_name (i := 2) rfl rfl rfl ?_
          refine we_int ?_
          refine fin2 (f := ixM) v_saying (.int 1) (vE (u := v_saying)) (vE (u := .int 1)) ‹_› fun z16 h => ?_
          refine wa_cons ?_ rfl
          refine we_ixM (κ := κ) ?_
          refine we_name (i := 2) rfl rfl rfl ?_
          refine we_int ?_
          refine fin2 (f := ixM) v_saying (.int 2) (vE (u := v_saying)) (vE (u := .int 2)) ‹_› fun z17 h => ?_
          refine wa_nil ?_
          refine ⟨szd (by decide : 2 < 10000000), ?_⟩
          refine fin2 (f := addM) v_right (.lst [z16, z17]) (vE (u := v_right)) (vE (u := .lst [z16, z17])) ‹_› fun z18 h => ?_
          refine wa_nil ?_
          refine finF (Γ := _) [v_left, z18] rfl rfl hE ‹_› fun z19 h => ?_
          refine wa_nil ?_
          refine ⟨szd (by decide : 1 < 10000000), ?_⟩
          exact rtL_v (us := [z19]) h
        · refine wss_nil ?_
          refine wss_cons ?_
          refine ws_if ?_
          refine wt_eqM (κ := κ) ?_
          refine we_ixM (κ := κ) ?_
          refine we_name (i := 2) rfl rfl rfl ?_
          refine we_int ?_
          refine fin2 (f := ixM) v_saying (.int 0) (vE (u := v_saying)) (vE (u := .int 0)) ‹_› fun z20 h => ?_
          refine we_str ?_
          refine fin2 (f := eqM) z20 (.str "if") (vE (u := z20)) (vE (u := .str "if")) ‹_› fun b21 h => ?_
          refine ite_m ‹_› (fun h => ?_) (fun h => ?_)
          · refine wss_cons ?_
            refine ws_retn ?_
            refine wn_lst ?_
            refine wa_cons ?_ rfl
            refine we_callV (κ := κ) h_claim_of (Nat.le_refl _) ⟨0, rfl⟩ ?_
            refine wa_cons ?_ rfl
            refine we_addM (κ := κ) ?_
            refine we_name (i := 0) rfl rfl rfl ?_
            refine we_f ?_
            refine wn_lst ?_
            refine wa_cons ?_ rfl
            refine we_ixM (κ := κ) ?_
            refine we_name (i := 2) rfl rfl rfl ?_
            refine we_int ?_
            refine fin2 (f := ixM) v_saying (.int 1) (vE (u := v_saying)) (vE (u := .int 1)) ‹_› fun z22 h => ?_
            refine wa_nil ?_
            refine ⟨szd (by decide : 1 < 10000000), ?_⟩
            refine fin2 (f := addM) v_left (.lst [z22]) (vE (u := v_left)) (vE (u := .lst [z22])) ‹_› fun z23 h => ?_
            refine wa_cons ?_ rfl
            refine we_addM (κ := κ) ?_
            refine we_name (i := 1) rfl rfl rfl ?_
            refine we_f ?_
            refine wn_lst ?_
            refine wa_cons ?_ rfl
            refine we_ixM (κ := κ) ?_
            refine we_name (i := 2) rfl rfl rfl ?_
            refine we_int ?_
            refine fin2 (f := ixM) v_saying (.int 2) (vE (u := v_saying)) (vE (u := .int 2)) ‹_› fun z24 h => ?_
            refine wa_nil ?_
            refine ⟨szd (by decide : 1 < 10000000), ?_⟩
            refine fin2 (f := addM) v_right (.lst [z24]) (vE (u := v_right)) (vE (u := .lst [z24])) ‹_› fun z25 h => ?_
            refine wa_nil ?_
            refine finF (Γ := _) [z23, z25] rfl rfl hE ‹_› fun z26 h => ?_
            refine wa_nil ?_
            refine ⟨szd (by decide : 1 < 10000000), ?_⟩
            exact rtL_v (us := [z26]) h
          · refine wss_nil ?_
            refine wss_cons ?_
            exact ws_raiseM ⟨1, rfl⟩ T.x_NoRule (EI.at hE) h

abbrev st_further_up : Stmt := topS 25
abbrev N_further_up : List Str := ["left", "saying", "known", "other"]
abbrev vs_further_up : List Bool := [true, true, true, true]
abbrev gl_further_up : List Str := ["claim_of"]
theorem sc_further_up : FnScope N_further_up ["left", "saying"] (defScope st_further_up) := ⟨rfl, rfl, rfl, by decide +kernel, rfl, by decide +kernel, by decide +kernel⟩
theorem gd_further_up : goodC N_further_up (defScope st_further_up) vs_further_up vs_further_up gl_further_up = true := by decide +kernel
@[reducible] def cx_further_up (G : Gl) (k : Nat) : Pl.Ctx := G.cx N_further_up (defScope st_further_up) vs_further_up vs_further_up gl_further_up k

theorem ok_further_up (T : Tp G κ) : ∀ k, G.fn k "further_up" 2 (spN κ 2 (sh_further_up k))
  | 0 => fn_none T.d_further_up (spN_none fun us => rfl)
  | kk + 1 => by
    have h_claim_of := ok_claim_of T kk
    refine def_N T.d_further_up sc_further_up gd_further_up fun us hl Q Eh h => ?_
    have hE : EI κ Eh (erM κ Eh) := EI.erM
    obtain ⟨v_left, v_saying, rfl⟩ := len2 hl
    change WSs _ [some (em κ v_left), some (em κ v_saying), none, none] _ (_ :: _) _
    refine wss_cons ?_
    refine ws_set (i := 2) rfl rfl (we_o ?_) rfl
    refine wn_lst ?_
    refine wa_cons ?_ rfl
    refine we_name (i := 1) rfl rfl rfl ?_
    refine wa_nil ?_
    refine ⟨szd (by decide : 1 < 10000000), ?_⟩
    refine wss_cons ?_
    refine ws_for [3] ?_
    refine wi_LM (κ := κ) ?_
    refine we_name (i := 0) rfl rfl rfl ?_
    refine finI (f := iterL) v_left ‹_› fun it1 h => ?_
    refine loopN_m (fun (st : List U) (Γ : Pl.Env) (Λ : Cells) => ∃ (y0 : Option D), Γ = [some (em κ v_left), some (em κ v_saying), some (.loc 0), y0] ∧ Λ = [.lst (ems κ st)]) h ⟨_, rfl, rfl⟩ (fun v_known_2 x3 Γ Λ Q1 hs h => ?_) (fun v_known_9 Γ Λ hs h => ?_)
    · obtain ⟨y0, rfl, rfl⟩ := hs
      refine wg_name (i := 3) rfl rfl ?_
      refine wss_cons ?_
      refine ws_cutM (fun (st : List U) (Γ : Pl.Env) (Λ : Cells) => Γ = [some (em κ v_left), some (em κ v_saying), some (.loc 0), some (em κ x3)] ∧ Λ = [.lst (ems κ st)]) h (fun Q1 h => ?_) (fun v_known_8 Γ Λ hs h => ?_)
      · refine ws_if ?_
        refine wt_eqM (κ := κ) ?_
        refine we_ixM (κ := κ) ?_
        refine we_name (i := 3) rfl rfl rfl ?_
        refine we_int ?_
        refine fin2 (f := ixM) x3 (.int 0) (vE (u := x3)) (vE (u := .int 0)) ‹_› fun z4 h => ?_
        refine we_str ?_
        refine fin2 (f := eqM) z4 (.str "shown") (vE (u := z4)) (vE (u := .str "shown")) ‹_› fun b5 h => ?_
        refine ite_m ‹_› (fun h => ?_) (fun h => ?_)
        · refine wss_cons ?_
          refine ws_expr ?_
          refine we_extM (κ := κ) 0 ?_
          refine we_name (i := 2) rfl rfl rfl ?_
          refine ⟨rfl, ⟨v_known_2, rfl⟩, ?_⟩
          refine we_f ?_
          refine wn_lst ?_
          refine wa_cons ?_ rfl
          refine we_name (i := 3) rfl rfl rfl ?_
          refine wa_cons ?_ rfl
          refine we_ixM (κ := κ) ?_
          refine we_name (i := 3) rfl rfl rfl ?_
          refine we_int ?_
          refine fin2 (f := ixM) x3 (.int 1) (vE (u := x3)) (vE (u := .int 1)) ‹_› fun z6 h => ?_
          refine wa_nil ?_
          refine ⟨szd (by decide : 2 < 10000000), ?_⟩
          refine finV (f := extM) v_known_2 (.lst [x3, z6]) (vE (u := .lst [x3, z6])) rfl ‹_› fun l7 h => ?_
          refine wss_nil ?_
          exact ⟨l7, ⟨rfl, rfl⟩, h⟩
        · refine wss_nil ?_
          exact ⟨v_known_2, ⟨rfl, rfl⟩, h⟩
      · obtain ⟨rfl, rfl⟩ := hs
        refine wss_nil ?_
        exact ⟨v_known_8, ⟨_, rfl, rfl⟩, h⟩
    · obtain ⟨y0, rfl, rfl⟩ := hs
      refine freezeM 0 2 v_known_9 (Nat.le_of_ble_eq_true rfl) rfl rfl ?_
      refine wss_cons ?_
      refine ws_retn ?_
      refine wn_lst ?_
      refine wa_cons ?_ rfl
      refine we_callV (κ := κ) h_claim_of (Nat.le_refl _) ⟨0, rfl⟩ ?_
      refine wa_cons ?_ rfl
      refine we_name (i := 2) rfl rfl rfl ?_
      refine wa_cons ?_ rfl
      refine we_f ?_
      refine wn_lst ?_
      refine wa_cons ?_ rfl
      refine we_ixM (κ := κ) ?_
      refine we_name (i := 1) rfl rfl rfl ?_
      refine we_int ?_
      refine fin2 (f := ixM) v_saying (.int 1) (vE (u := v_saying)) (vE (u := .int 1)) ‹_› fun z10 h => ?_
      refine wa_nil ?_
      refine ⟨szd (by decide : 1 < 10000000), ?_⟩
      refine wa_nil ?_
      refine finF (Γ := _) [.lst v_known_9, .lst [z10]] rfl rfl hE ‹_› fun z11 h => ?_
      refine wa_nil ?_
      refine ⟨szd (by decide : 1 < 10000000), ?_⟩
      exact rtL_v (us := [z11]) h

abbrev st_needed : Stmt := topS 26
abbrev N_needed : List Str := ["claim", "rule", "saying", "left", "right"]
abbrev vs_needed : List Bool := [true, true, true, true, true]
abbrev gl_needed : List Str := ["NEVER", "from_left", "without", "from_right", "further_up", "NoRule"]
theorem sc_needed : FnScope N_needed ["claim", "rule", "saying"] (defScope st_needed) := ⟨rfl, rfl, rfl, by decide +kernel, rfl, by decide +kernel, by decide +kernel⟩
theorem gd_needed : goodC N_needed (defScope st_needed) vs_needed vs_needed gl_needed = true := by decide +kernel
@[reducible] def cx_needed (G : Gl) (k : Nat) : Pl.Ctx := G.cx N_needed (defScope st_needed) vs_needed vs_needed gl_needed k

theorem ok_needed (T : Tp G κ) : ∀ k, G.fn k "needed" 3 (spN κ 3 (sh_needed k))
  | 0 => fn_none T.d_needed (spN_none fun us => rfl)
  | kk + 1 => by
    have h_from_left := ok_from_left T kk
    have h_without := ok_without T kk
    have h_from_right := ok_from_right T kk
    have h_further_up := ok_further_up T kk
    refine def_N T.d_needed sc_needed gd_needed fun us hl Q Eh h => ?_
    have hE : EI κ Eh (erM κ Eh) := EI.erM
    obtain ⟨v_claim, v_rule, v_saying, rfl⟩ := len3 hl
    change WSs _ [some (em κ v_claim), some (em κ v_rule), some (em κ v_saying), none, none] _ (_ :: _) _
    refine wss_cons ?_
    refine ws_sett [3, 4] ?_ rfl rfl
    refine we_name (i := 0) rfl rfl rfl ?_
    refine tg2 v_claim ‹_› fun v_left_1 v_right_2 h => ?_
    refine wg_tup ?_ rfl
    refine wgs_cons1 ?_ rfl
    refine wg_name (i := 3) rfl rfl ?_
    refine wgs_cons1 ?_ rfl
    refine wg_name (i := 4) rfl rfl ?_
    refine wgs_nil ?_
    refine wss_cons ?_
    refine ws_if ?_
    refine wt_cutM ‹_› (fun Q1 h => ?_) (fun b6 h => ?_)
    · refine wt_ww (ww_and ?_)
      refine wt_eqM (κ := κ) ?_
      refine we_name (i := 1) rfl rfl rfl ?_
      refine we_str ?_
      refine fin2 (f := eqM) v_rule (.str "same") (vE (u := v_rule)) (vE (u := .str "same")) ‹_› fun b3 h => ?_
      refine ite_m ‹_› (fun h => ?_) (fun h => ?_)
      · refine ww_and ?_
        refine wt_inM (κ := κ) ?_
        refine we_name (i := 2) rfl rfl rfl ?_
        refine we_name (i := 3) rfl rfl rfl ?_
        refine fin2 (f := inM) v_saying v_left_1 (vE (u := v_saying)) (vE (u := v_left_1)) ‹_› fun b4 h => ?_
        refine ite_m ‹_› (fun h => ?_) (fun h => ?_)
        · refine ww_and1 ?_
          refine wt_inM (κ := κ) ?_
          refine we_name (i := 2) rfl rfl rfl ?_
          refine we_name (i := 4) rfl rfl rfl ?_
          refine fin2 (f := inM) v_saying v_right_2 (vE (u := v_saying)) (vE (u := v_right_2)) ‹_› fun b5 h => ?_
          exact ⟨rfl, h⟩
        · exact ⟨rfl, h⟩
      · exact ⟨rfl, h⟩
    refine ite_m ‹_› (fun h => ?_) (fun h => ?_)
    · refine wss_cons ?_
      refine ws_retn ?_
      refine wn_lst ?_
      refine wa_nil ?_
      refine ⟨szd (by decide : 0 < 10000000), ?_⟩
      exact rtL_v (us := []) h
    · refine wss_nil ?_
      refine wss_cons ?_
      refine ws_if ?_
      refine wt_cutM ‹_› (fun Q1 h => ?_) (fun b10 h => ?_)
      · refine wt_ww (ww_and ?_)
        refine wt_eqM (κ := κ) ?_
        refine we_name (i := 1) rfl rfl rfl ?_
        refine we_str ?_
        refine fin2 (f := eqM) v_rule (.str "never") (vE (u := v_rule)) (vE (u := .str "never")) ‹_› fun b7 h => ?_
        refine ite_m ‹_› (fun h => ?_) (fun h => ?_)
        · refine ww_and ?_
          refine wt_eqM (κ := κ) ?_
          refine we_name (i := 2) rfl rfl rfl ?_
          refine we_gtup ⟨0, rfl⟩ T.c_NEVER ?_
          refine fin2 (f := eqM) v_saying (.tup [.str "no"]) (vE (u := v_saying)) (vE (u := .tup [.str "no"])) ‹_› fun b8 h => ?_
          refine ite_m ‹_› (fun h => ?_) (fun h => ?_)
          · refine ww_and1 ?_
            refine wt_inM (κ := κ) ?_
            refine we_name (i := 2) rfl rfl rfl ?_
            refine we_name (i := 3) rfl rfl rfl ?_
            refine fin2 (f := inM) v_saying v_left_1 (vE (u := v_saying)) (vE (u := v_left_1)) ‹_› fun b9 h => ?_
            exact ⟨rfl, h⟩
          · exact ⟨rfl, h⟩
        · exact ⟨rfl, h⟩
      refine ite_m ‹_› (fun h => ?_) (fun h => ?_)
      · refine wss_cons ?_
        refine ws_retn ?_
        refine wn_lst ?_
        refine wa_nil ?_
        refine ⟨szd (by decide : 0 < 10000000), ?_⟩
        exact rtL_v (us := []) h
      · refine wss_nil ?_
        refine wss_cons ?_
        refine ws_if ?_
        refine wt_cutM ‹_› (fun Q1 h => ?_) (fun b13 h => ?_)
        · refine wt_ww (ww_and ?_)
          refine wt_eqM (κ := κ) ?_
          refine we_name (i := 1) rfl rfl rfl ?_
          refine we_str ?_
          refine fin2 (f := eqM) v_rule (.str "left") (vE (u := v_rule)) (vE (u := .str "left")) ‹_› fun b11 h => ?_
          refine ite_m ‹_› (fun h => ?_) (fun h => ?_)
          · refine ww_and1 ?_
            refine wt_inM (κ := κ) ?_
            refine we_name (i := 2) rfl rfl rfl ?_
            refine we_name (i := 3) rfl rfl rfl ?_
            refine fin2 (f := inM) v_saying v_left_1 (vE (u := v_saying)) (vE (u := v_left_1)) ‹_› fun b12 h => ?_
            exact ⟨rfl, h⟩
          · exact ⟨rfl, h⟩
        refine ite_m ‹_› (fun h => ?_) (fun h => ?_)
        · refine wss_cons ?_
          refine ws_retn ?_
          refine wn_callN (κ := κ) h_from_left (Nat.le_refl _) ⟨1, rfl⟩ ?_
          refine wa_cons ?_ rfl
          refine we_f ?_
          refine wn_callN (κ := κ) h_without (Nat.le_refl _) ⟨2, rfl⟩ ?_
          refine wa_cons ?_ rfl
          refine we_name (i := 3) rfl rfl rfl ?_
          refine wa_cons ?_ rfl
          refine we_name (i := 2) rfl rfl rfl ?_
          refine wa_nil ?_
          refine finF (Γ := _) [v_left_1, v_saying] rfl rfl hE ‹_› fun z14 h => ?_
          refine wa_cons ?_ rfl
          refine we_name (i := 4) rfl rfl rfl ?_
          refine wa_cons ?_ rfl
          refine we_name (i := 2) rfl rfl rfl ?_
          refine wa_nil ?_
          refine finF (Γ := _) [.lst z14, v_right_2, v_saying] rfl rfl hE ‹_› fun z15 h => ?_
          exact rtL_v (us := z15) h
        · refine wss_nil ?_
          refine wss_cons ?_
          refine ws_if ?_
          refine wt_cutM ‹_› (fun Q1 h => ?_) (fun b18 h => ?_)
          · refine wt_ww (ww_and ?_)
            refine wt_eqM (κ := κ) ?_
            refine we_name (i := 1) rfl rfl rfl ?_
            refine we_str ?_
            refine fin2 (f := eqM) v_rule (.str "right") (vE (u := v_rule)) (vE (u := .str "right")) ‹_› fun b16 h => ?_
            refine ite_m ‹_› (fun h => ?_) (fun h => ?_)
            · refine ww_and1 ?_
              refine wt_inM (κ := κ) ?_
              refine we_name (i := 2) rfl rfl rfl ?_
              refine we_name (i := 4) rfl rfl rfl ?_
              refine fin2 (f := inM) v_saying v_right_2 (vE (u := v_saying)) (vE (u := v_right_2)) ‹_› fun b17 h => ?_
              exact ⟨rfl, h⟩
            · exact ⟨rfl, h⟩
          refine ite_m ‹_› (fun h => ?_) (fun h => ?_)
          · refine wss_cons ?_
            refine ws_retn ?_
            refine wn_callN (κ := κ) h_from_right (Nat.le_refl _) ⟨3, rfl⟩ ?_
            refine wa_cons ?_ rfl
            refine we_name (i := 3) rfl rfl rfl ?_
            refine wa_cons ?_ rfl
            refine we_f ?_
            refine wn_callN (κ := κ) h_without (Nat.le_refl _) ⟨2, rfl⟩ ?_
            refine wa_cons ?_ rfl
            refine we_name (i := 4) rfl rfl rfl ?_
            refine wa_cons ?_ rfl
            refine we_name (i := 2) rfl rfl rfl ?_
            refine wa_nil ?_
            refine finF (Γ := _) [v_right_2, v_saying] rfl rfl hE ‹_› fun z19 h => ?_
            refine wa_cons ?_ rfl
            refine we_name (i := 2) rfl rfl rfl ?_
            refine wa_nil ?_
            refine finF (Γ := _) [v_left_1, .lst z19, v_saying] rfl rfl hE ‹_› fun z20 h => ?_
            exact rtL_v (us := z20) h
          · refine wss_nil ?_
            refine wss_cons ?_
            refine ws_if ?_
            refine wt_cutM ‹_› (fun Q1 h => ?_) (fun b25 h => ?_)
            · refine wt_ww (ww_and ?_)
              refine wt_eqM (κ := κ) ?_
              refine we_name (i := 1) rfl rfl rfl ?_
              refine we_str ?_
              refine fin2 (f := eqM) v_rule (.str "up") (vE (u := v_rule)) (vE (u := .str "up")) ‹_› fun b21 h => ?_
              refine ite_m ‹_› (fun h => ?_) (fun h => ?_)
              · refine ww_and ?_
                refine wt_eqM (κ := κ) ?_
                refine we_ixM (κ := κ) ?_
                refine we_name (i := 2) rfl rfl rfl ?_
                refine we_int ?_
                refine fin2 (f := ixM) v_saying (.int 0) (vE (u := v_saying)) (vE (u := .int 0)) ‹_› fun z22 h => ?_
                refine we_str ?_
                refine fin2 (f := eqM) z22 (.str "shown") (vE (u := z22)) (vE (u := .str "shown")) ‹_› fun b23 h => ?_
                refine ite_m ‹_› (fun h => ?_) (fun h => ?_)
                · refine ww_and1 ?_
                  refine wt_inM (κ := κ) ?_
                  refine we_name (i := 2) rfl rfl rfl ?_
                  refine we_name (i := 4) rfl rfl rfl ?_
                  refine fin2 (f := inM) v_saying v_right_2 (vE (u := v_saying)) (vE (u := v_right_2)) ‹_› fun b24 h => ?_
                  exact ⟨rfl, h⟩
                · exact ⟨rfl, h⟩
              · exact ⟨rfl, h⟩
            refine ite_m ‹_› (fun h => ?_) (fun h => ?_)
            · refine wss_cons ?_
              refine ws_retn ?_
              refine wn_callN (κ := κ) h_further_up (Nat.le_refl _) ⟨4, rfl⟩ ?_
              refine wa_cons ?_ rfl
              refine we_name (i := 3) rfl rfl rfl ?_
              refine wa_cons ?_ rfl
              refine we_name (i := 2) rfl rfl rfl ?_
              refine wa_nil ?_
              refine finF (Γ := _) [v_left_1, v_saying] rfl rfl hE ‹_› fun z26 h => ?_
              exact rtL_v (us := z26) h
            · refine wss_nil ?_
              refine wss_cons ?_
              exact ws_raiseM ⟨5, rfl⟩ T.x_NoRule (EI.at hE) h

abbrev st_Search_broken : Stmt := inClass (topS 31) 4
abbrev N_Search_broken : List Str := ["self", "claim", "rule", "saying", "uses", "other", "number", "tree"]
abbrev vs_Search_broken : List Bool := [true, true, true, true, true, true, true, true]
abbrev gl_Search_broken : List Str := ["needed"]
theorem sc_Search_broken : FnScope N_Search_broken ["self", "claim", "rule", "saying"] (defScope st_Search_broken) := ⟨rfl, rfl, rfl, by decide +kernel, rfl, by decide +kernel, by decide +kernel⟩
theorem gd_Search_broken : goodC N_Search_broken (defScope st_Search_broken) vs_Search_broken vs_Search_broken gl_Search_broken = true := by decide +kernel
@[reducible] def cx_Search_broken (G : Gl) (k : Nat) : Pl.Ctx := G.cx N_Search_broken (defScope st_Search_broken) vs_Search_broken vs_Search_broken gl_Search_broken k

theorem sx_Search_broken (T : Tp G κ) {kk : Nat} (h_Search_found_for : Glmt G kk (κ.ad "Search") "found_for" 2 (spS κ "Search" 2 (sh_Search_found_for kk))) (h_Search_told : Glmt G kk (κ.ad "Search") "told" 5 (spS κ "Search" 5 (sh_Search_told kk))) : Glmt G (kk + 1) (κ.ad "Search") "broken" 4 (spS κ "Search" 4 (sh_Search_broken (kk + 1))) := by
  have h_needed := ok_needed T kk
  refine meth_S T.d_Search_broken sc_Search_broken gd_Search_broken fun us v_S v_M Q hl h => ?_
  have hE : EI κ no ER.none := EI.no
  obtain ⟨v_claim, v_rule, v_saying, rfl⟩ := len3 (Nat.succ.inj hl)
  change WSs _ [some (.loc 0), some (em κ v_claim), some (em κ v_rule), some (em κ v_saying), none, none, none, none] [.ins (κ.ad "Search") ["steps", "met"] [.loc 1, .loc 2], .lst (ems κ v_S), .dic v_M.1 (ems κ v_M.2)] (_ :: _) _
  refine wss_cons ?_
  refine ws_set (i := 4) rfl rfl (we_o ?_) rfl
  refine wn_lst ?_
  refine wa_nil ?_
  refine ⟨szd (by decide : 0 < 10000000), ?_⟩
  refine wss_cons ?_
  refine ws_for [5] ?_
  refine wi_LM (κ := κ) ?_
  refine we_f ?_
  refine wn_callN (κ := κ) h_needed (Nat.le_refl _) ⟨0, rfl⟩ ?_
  refine wa_cons ?_ rfl
  refine we_name (i := 1) rfl rfl rfl ?_
  refine wa_cons ?_ rfl
  refine we_name (i := 2) rfl rfl rfl ?_
  refine wa_cons ?_ rfl
  refine we_name (i := 3) rfl rfl rfl ?_
  refine wa_nil ?_
  refine finF (Γ := _) [v_claim, v_rule, v_saying] rfl rfl hE ‹_› fun z1 h => ?_
  refine finI (f := iterL) (.lst z1) ‹_› fun it2 h => ?_
  refine loopC_m (ρ := U × List U × Dc) (fun (st : List U × List U × Dc) (Γ : Pl.Env) (Λ : Cells) => ∃ (y0 : Option D) (y1 : Option D) (y2 : Option D), Γ = [some (.loc 0), some (em κ v_claim), some (em κ v_rule), some (em κ v_saying), some (.loc 3), y0, y1, y2] ∧ Λ = [.ins (κ.ad "Search") ["steps", "met"] [.loc 1, .loc 2], .lst (ems κ st.2.1), .dic st.2.2.1 (ems κ st.2.2.2), .lst (ems κ st.1)]) (fun c r Λ => rtS κ "Search" (fun w => w = c) r Λ) h ⟨_, _, _, rfl, rfl⟩ (fun st x6 Γ Λ Q1 hs h => ?_) (fun st Γ Λ hs h => ?_) (fun c r Λ hr h => rtS_imp hr h)
  · obtain ⟨v_uses_3, v_atS_4, v_atM_5⟩ := st
    obtain ⟨y0, y1, y2, rfl, rfl⟩ := hs
    refine wg_name (i := 5) rfl rfl ?_
    refine wss_cons ?_
    refine ws_sett [6, 7] ?_ rfl rfl
    refine we_methS (κ := κ) (c := "Search") h_Search_found_for (Nat.le_refl _) T.kls_Search.1 (by decide) ?_
    refine we_name (i := 0) rfl rfl rfl ?_
    refine ⟨rfl, rfl, ?_⟩
    refine wa_cons ?_ rfl
    refine we_name (i := 5) rfl rfl rfl ?_
    refine wa_nil ?_
    refine ⟨[x6], v_atS_4, v_atM_5, [.lst (ems κ v_uses_3)], rfl, rfl, rfl, finKm h fun (z7, l8, m9) h => ?_⟩
    refine tg2 z7 ‹_› fun v_number_10 v_tree_11 h => ?_
    refine wg_tup ?_ rfl
    refine wgs_cons1 ?_ rfl
    refine wg_name (i := 6) rfl rfl ?_
    refine wgs_cons1 ?_ rfl
    refine wg_name (i := 7) rfl rfl ?_
    refine wgs_nil ?_
    refine wss_cons ?_
    refine ws_if ?_
    refine wt_isM (κ := κ) ?_
    refine we_name (i := 6) rfl rfl rfl ?_
    refine we_non ?_
    refine fin2 (f := isM) v_number_10 .non (vE (u := v_number_10)) (vE (u := .non)) ‹_› fun b12 h => ?_
    refine ite_m ‹_› (fun h => ?_) (fun h => ?_)
    · refine wss_cons ?_
      refine ws_ret ?_
      refine we_tup ?_
      refine wa_cons ?_ rfl
      refine we_non ?_
      refine wa_cons ?_ rfl
      refine we_name (i := 7) rfl rfl rfl ?_
      refine wa_nil ?_
      refine ⟨szd (by decide : 2 < 10000000), ?_⟩
      exact ⟨(.tup [.non, v_tree_11], l8, m9), ⟨(.tup [.non, v_tree_11], l8, m9), rfl, ⟨[.lst (ems κ v_uses_3)], rfl⟩, rfl⟩, h⟩
    · refine wss_nil ?_
      refine wss_cons ?_
      refine ws_expr ?_
      refine we_appM (κ := κ) 3 ?_
      refine we_name (i := 4) rfl rfl rfl ?_
      refine ⟨rfl, ⟨v_uses_3, rfl⟩, ?_⟩
      refine we_name (i := 6) rfl rfl rfl ?_
      refine finA (f := appM) v_uses_3 v_number_10 rfl ‹_› fun l13 h => ?_
      refine wss_nil ?_
      exact ⟨(l13, l8, m9), ⟨_, _, _, rfl, rfl⟩, h⟩
  · obtain ⟨v_uses_14, v_atS_15, v_atM_16⟩ := st
    obtain ⟨y0, y1, y2, rfl, rfl⟩ := hs
    refine freezeM 3 4 v_uses_14 (Nat.le_of_ble_eq_true rfl) rfl rfl ?_
    refine wss_cons ?_
    refine ws_ret ?_
    refine we_methS (κ := κ) (c := "Search") h_Search_told (Nat.le_refl _) T.kls_Search.1 (by decide) ?_
    refine we_name (i := 0) rfl rfl rfl ?_
    refine ⟨rfl, rfl, ?_⟩
    refine wa_cons ?_ rfl
    refine we_name (i := 1) rfl rfl rfl ?_
    refine wa_cons ?_ rfl
    refine we_name (i := 2) rfl rfl rfl ?_
    refine wa_cons ?_ rfl
    refine we_name (i := 3) rfl rfl rfl ?_
    refine wa_cons ?_ rfl
    refine we_name (i := 4) rfl rfl rfl ?_
    refine wa_nil ?_
    refine ⟨[v_claim, v_rule, v_saying, .lst v_uses_14], v_atS_15, v_atM_16, [.gone], rfl, rfl, rfl, finKm h fun (z17, l18, m19) h => ?_⟩
    exact ⟨(z17, l18, m19), rfl, ⟨[.gone], rfl⟩, (by exact h)⟩

abbrev st_Search_gone_up : Stmt := inClass (topS 31) 5
abbrev N_Search_gone_up : List Str := ["self", "claim", "trees", "saying", "number", "tree", "marks"]
abbrev vs_Search_gone_up : List Bool := [true, true, true, true, true, true, true]
abbrev gl_Search_gone_up : List Str := ["needed"]
theorem sc_Search_gone_up : FnScope N_Search_gone_up ["self", "claim"] (defScope st_Search_gone_up) := ⟨rfl, rfl, rfl, by decide +kernel, rfl, by decide +kernel, by decide +kernel⟩
theorem gd_Search_gone_up : goodC N_Search_gone_up (defScope st_Search_gone_up) vs_Search_gone_up vs_Search_gone_up gl_Search_gone_up = true := by decide +kernel
@[reducible] def cx_Search_gone_up (G : Gl) (k : Nat) : Pl.Ctx := G.cx N_Search_gone_up (defScope st_Search_gone_up) vs_Search_gone_up vs_Search_gone_up gl_Search_gone_up k

theorem sx_Search_gone_up (T : Tp G κ) {kk : Nat} (h_Search_found_for : Glmt G kk (κ.ad "Search") "found_for" 2 (spS κ "Search" 2 (sh_Search_found_for kk))) (h_Search_told : Glmt G kk (κ.ad "Search") "told" 5 (spS κ "Search" 5 (sh_Search_told kk))) : Glmt G (kk + 1) (κ.ad "Search") "gone_up" 2 (spS κ "Search" 2 (sh_Search_gone_up (kk + 1))) := by
  have h_needed := ok_needed T kk
  refine meth_S T.d_Search_gone_up sc_Search_gone_up gd_Search_gone_up fun us v_S v_M Q hl h => ?_
  have hE : EI κ no ER.none := EI.no
  obtain ⟨v_claim, rfl⟩ := len1 (Nat.succ.inj hl)
  change WSs _ [some (.loc 0), some (em κ v_claim), none, none, none, none, none] [.ins (κ.ad "Search") ["steps", "met"] [.loc 1, .loc 2], .lst (ems κ v_S), .dic v_M.1 (ems κ v_M.2)] (_ :: _) _
  refine wss_cons ?_
  refine ws_set (i := 2) rfl rfl (we_o ?_) rfl
  refine wn_lst ?_
  refine wa_nil ?_
  refine ⟨szd (by decide : 0 < 10000000), ?_⟩
  refine wss_cons ?_
  refine ws_for [3] ?_
  refine wi_LM (κ := κ) ?_
  refine we_ixM (κ := κ) ?_
  refine we_name (i := 1) rfl rfl rfl ?_
  refine we_int ?_
  refine fin2 (f := ixM) v_claim (.int 1) (vE (u := v_claim)) (vE (u := .int 1)) ‹_› fun z1 h => ?_
  refine finI (f := iterL) z1 ‹_› fun it2 h => ?_
  refine loopC_m (ρ := U × List U × Dc) (fun (st : List U × List U × Dc) (Γ : Pl.Env) (Λ : Cells) => ∃ (y0 : Option D) (y1 : Option D) (y2 : Option D) (y3 : Option D), Γ = [some (.loc 0), some (em κ v_claim), some (.loc 3), y0, y1, y2, y3] ∧ Λ = [.ins (κ.ad "Search") ["steps", "met"] [.loc 1, .loc 2], .lst (ems κ st.2.1), .dic st.2.2.1 (ems κ st.2.2.2), .lst (ems κ st.1)]) (fun c r Λ => rtS κ "Search" (fun w => w = c) r Λ) h ⟨_, _, _, _, rfl, rfl⟩ (fun st x6 Γ Λ Q1 hs h => ?_) (fun st Γ Λ hs h => ?_) (fun c r Λ hr h => rtS_imp hr h)
  · obtain ⟨v_trees_3, v_atS_4, v_atM_5⟩ := st
    obtain ⟨y0, y1, y2, y3, rfl, rfl⟩ := hs
    refine wg_name (i := 3) rfl rfl ?_
    refine wss_cons ?_
    refine ws_cutC (ρ := U × List U × Dc) (fun (st : List U × List U × Dc) (Γ : Pl.Env) (Λ : Cells) => ∃ (y0 : Option D) (y1 : Option D) (y2 : Option D), Γ = [some (.loc 0), some (em κ v_claim), some (.loc 3), some (em κ x6), y0, y1, y2] ∧ Λ = [.ins (κ.ad "Search") ["steps", "met"] [.loc 1, .loc 2], .lst (ems κ st.2.1), .dic st.2.2.1 (ems κ st.2.2.2), .lst (ems κ st.1)]) (fun c r Λ => rtS κ "Search" (fun w => w = c) r Λ) h (fun Q1 h => ?_) (fun st Γ Λ hs h => ?_) (fun _ _ _ _ h => h.elim) (fun c r Λ hr h => ⟨c, hr, h⟩)
    · refine ws_if ?_
      refine wt_eqM (κ := κ) ?_
      refine we_ixM (κ := κ) ?_
      refine we_name (i := 3) rfl rfl rfl ?_
      refine we_int ?_
      refine fin2 (f := ixM) x6 (.int 0) (vE (u := x6)) (vE (u := .int 0)) ‹_› fun z7 h => ?_
      refine we_str ?_
      refine fin2 (f := eqM) z7 (.str "shown") (vE (u := z7)) (vE (u := .str "shown")) ‹_› fun b8 h => ?_
      refine ite_m ‹_› (fun h => ?_) (fun h => ?_)
      · refine wss_cons ?_
        refine ws_sett [4, 5] ?_ rfl rfl
        refine we_methS (κ := κ) (c := "Search") h_Search_found_for (Nat.le_refl _) T.kls_Search.1 (by decide) ?_
        refine we_name (i := 0) rfl rfl rfl ?_
        refine ⟨rfl, rfl, ?_⟩
        refine wa_cons ?_ rfl
        refine we_ixM (κ := κ) ?_
        refine we_f ?_
        refine wn_callN (κ := κ) h_needed (Nat.le_refl _) ⟨0, rfl⟩ ?_
        refine wa_cons ?_ rfl
        refine we_name (i := 1) rfl rfl rfl ?_
        refine wa_cons ?_ rfl
        refine we_str ?_
        refine wa_cons ?_ rfl
        refine we_name (i := 3) rfl rfl rfl ?_
        refine wa_nil ?_
        refine finF (Γ := _) [v_claim, .str "up", x6] rfl rfl hE ‹_› fun z9 h => ?_
        refine we_int ?_
        refine fin2 (f := ixM) (.lst z9) (.int 0) (vE (u := .lst z9)) (vE (u := .int 0)) ‹_› fun z10 h => ?_
        refine wa_nil ?_
        refine ⟨[z10], v_atS_4, v_atM_5, [.lst (ems κ v_trees_3)], rfl, rfl, rfl, finKm h fun (z11, l12, m13) h => ?_⟩
        refine tg2 z11 ‹_› fun v_number_14 v_tree_15 h => ?_
        refine wg_tup ?_ rfl
        refine wgs_cons1 ?_ rfl
        refine wg_name (i := 4) rfl rfl ?_
        refine wgs_cons1 ?_ rfl
        refine wg_name (i := 5) rfl rfl ?_
        refine wgs_nil ?_
        refine wss_cons ?_
        refine ws_if ?_
        refine wt_isntM (κ := κ) ?_
        refine we_name (i := 4) rfl rfl rfl ?_
        refine we_non ?_
        refine fin2 (f := isntM) v_number_14 .non (vE (u := v_number_14)) (vE (u := .non)) ‹_› fun b16 h => ?_
        refine ite_m ‹_› (fun h => ?_) (fun h => ?_)
        · refine wss_cons ?_
          refine ws_ret ?_
          refine we_methS (κ := κ) (c := "Search") h_Search_told (Nat.le_refl _) T.kls_Search.1 (by decide) ?_
          refine we_name (i := 0) rfl rfl rfl ?_
          refine ⟨rfl, rfl, ?_⟩
          refine wa_cons ?_ rfl
          refine we_name (i := 1) rfl rfl rfl ?_
          refine wa_cons ?_ rfl
          refine we_str ?_
          refine wa_cons ?_ rfl
          refine we_name (i := 3) rfl rfl rfl ?_
          refine wa_cons ?_ rfl
          refine we_f ?_
          refine wn_lst ?_
          refine wa_cons ?_ rfl
          refine we_name (i := 4) rfl rfl rfl ?_
          refine wa_nil ?_
          refine ⟨szd (by decide : 1 < 10000000), ?_⟩
          refine wa_nil ?_
          refine ⟨[v_claim, .str "up", x6, .lst [v_number_14]], l12, m13, [.lst (ems κ v_trees_3)], rfl, rfl, rfl, finKm h fun (z17, l18, m19) h => ?_⟩
          exact ⟨(z17, l18, m19), ⟨(z17, l18, m19), rfl, ⟨[.lst (ems κ v_trees_3)], rfl⟩, rfl⟩, h⟩
        · refine wss_nil ?_
          refine wss_cons ?_
          refine ws_expr ?_
          refine we_appM (κ := κ) 3 ?_
          refine we_name (i := 2) rfl rfl rfl ?_
          refine ⟨rfl, ⟨v_trees_3, rfl⟩, ?_⟩
          refine we_name (i := 5) rfl rfl rfl ?_
          refine finA (f := appM) v_trees_3 v_tree_15 rfl ‹_› fun l20 h => ?_
          refine wss_nil ?_
          exact ⟨(l20, l12, m13), ⟨_, _, _, rfl, rfl⟩, h⟩
      · refine wss_nil ?_
        exact ⟨(v_trees_3, v_atS_4, v_atM_5), ⟨_, _, _, rfl, rfl⟩, h⟩
    · obtain ⟨v_trees_21, v_atS_22, v_atM_23⟩ := st
      obtain ⟨y0, y1, y2, rfl, rfl⟩ := hs
      refine wss_nil ?_
      exact ⟨(v_trees_21, v_atS_22, v_atM_23), ⟨_, _, _, _, rfl, rfl⟩, h⟩
  · obtain ⟨v_trees_24, v_atS_25, v_atM_26⟩ := st
    obtain ⟨y0, y1, y2, y3, rfl, rfl⟩ := hs
    refine wss_cons ?_
    refine ws_set (i := 6) rfl rfl ?_ rfl
    refine we_joinM (κ := κ) ?_
    refine we_str ?_
    refine ⟨(""), rfl, ?_⟩
    refine we_f ?_
    refine wn_lc [("saying", 3)] [false, false, false, true, false, false, false] [false, false, false, true, false, false, false] [] [3] (blkOk_by (by decide +kernel : blkC N_Search_gone_up (defScope st_Search_gone_up) _ [("saying", 3)] = true)) (good_blk (by decide +kernel : goodC N_Search_gone_up (relS _ (defScope st_Search_gone_up)) [false, false, false, true, false, false, false] [false, false, false, true, false, false, false] [] = true)) (sto_by (by decide +kernel : stoC N_Search_gone_up _ [false, false, false, true, false, false, false] = true)) (by decide) ?_
    refine wi_LM (κ := κ) ?_
    refine we_ixM (κ := κ) ?_
    refine we_name (i := 1) rfl rfl rfl ?_
    refine we_int ?_
    refine fin2 (f := ixM) v_claim (.int 0) (vE (u := v_claim)) (vE (u := .int 0)) ‹_› fun z27 h => ?_
    refine finI (f := iterL) z27 ‹_› fun it28 h => ?_
    refine compF_m h (fun x29 Qb Q1 h h2 => ?_) (fun zs30 h => ?_)
    · have hE : EI κ no ER.none := EI.no
      refine wg_name (i := 3) rfl rfl ?_
      refine wt_eqM (κ := κ) ?_
      refine we_ixM (κ := κ) ?_
      refine we_name (i := 3) rfl rfl rfl ?_
      refine we_int ?_
      refine fin2 (f := ixM) x29 (.int 0) (vE (u := x29)) (vE (u := .int 0)) ‹_› fun z31 h => ?_
      refine we_str ?_
      refine fin2 (f := eqM) z31 (.str "letter") (vE (u := z31)) (vE (u := .str "letter")) ‹_› fun b32 h => ?_
      refine ⟨rfl, h, fun hb => ?_⟩
      replace h := h2 (by cases hb; exact h)
      refine we_ixM (κ := κ) ?_
      refine we_name (i := 3) rfl rfl rfl ?_
      refine we_int ?_
      refine fin2 (f := ixM) x29 (.int 1) (vE (u := x29)) (vE (u := .int 1)) ‹_› fun z33 h => ?_
      exact ⟨rfl, z33, rfl, h⟩
    refine fin1 (f := fun u => joinM (.str "") u) (.lst zs30) (vE (u := .lst zs30)) ‹_› fun z34 h => ?_
    refine freezeM 3 2 v_trees_24 (Nat.le_of_ble_eq_true rfl) rfl rfl ?_
    refine wss_cons ?_
    refine ws_ret ?_
    refine we_tup ?_
    refine wa_cons ?_ rfl
    refine we_non ?_
    refine wa_cons ?_ rfl
    refine we_tup ?_
    refine wa_cons ?_ rfl
    refine we_name (i := 6) rfl rfl rfl ?_
    refine wa_cons ?_ rfl
    refine we_name (i := 2) rfl rfl rfl ?_
    refine wa_nil ?_
    refine ⟨szd (by decide : 2 < 10000000), ?_⟩
    refine wa_nil ?_
    refine ⟨szd (by decide : 2 < 10000000), ?_⟩
    exact ⟨(.tup [.non, .tup [z34, .lst v_trees_24]], v_atS_25, v_atM_26), rfl, ⟨[.gone], rfl⟩, (by exact h)⟩

abbrev st_Search_looked : Stmt := inClass (topS 31) 3
abbrev N_Search_looked : List Str := ["self", "claim", "left", "right", "saying", "rule", "side"]
abbrev vs_Search_looked : List Bool := [true, true, true, true, true, true, true]
abbrev gl_Search_looked : List Str := ["NEVER", "BROKEN"]
theorem sc_Search_looked : FnScope N_Search_looked ["self", "claim"] (defScope st_Search_looked) := ⟨rfl, rfl, rfl, by decide +kernel, rfl, by decide +kernel, by decide +kernel⟩
theorem gd_Search_looked : goodC N_Search_looked (defScope st_Search_looked) vs_Search_looked vs_Search_looked gl_Search_looked = true := by decide +kernel
@[reducible] def cx_Search_looked (G : Gl) (k : Nat) : Pl.Ctx := G.cx N_Search_looked (defScope st_Search_looked) vs_Search_looked vs_Search_looked gl_Search_looked k

theorem sx_Search_looked (T : Tp G κ) {kk : Nat} (h_Search_told : Glmt G kk (κ.ad "Search") "told" 5 (spS κ "Search" 5 (sh_Search_told kk))) (h_Search_broken : Glmt G kk (κ.ad "Search") "broken" 4 (spS κ "Search" 4 (sh_Search_broken kk))) (h_Search_gone_up : Glmt G kk (κ.ad "Search") "gone_up" 2 (spS κ "Search" 2 (sh_Search_gone_up kk))) : Glmt G (kk + 1) (κ.ad "Search") "looked" 2 (spS κ "Search" 2 (sh_Search_looked (kk + 1))) := by
  refine meth_S T.d_Search_looked sc_Search_looked gd_Search_looked fun us v_S v_M Q hl h => ?_
  have hE : EI κ no ER.none := EI.no
  obtain ⟨v_claim, rfl⟩ := len1 (Nat.succ.inj hl)
  change WSs _ [some (.loc 0), some (em κ v_claim), none, none, none, none, none] [.ins (κ.ad "Search") ["steps", "met"] [.loc 1, .loc 2], .lst (ems κ v_S), .dic v_M.1 (ems κ v_M.2)] (_ :: _) _
  refine wss_cons ?_
  refine ws_sett [2, 3] ?_ rfl rfl
  refine we_name (i := 1) rfl rfl rfl ?_
  refine tg2 v_claim ‹_› fun v_left_1 v_right_2 h => ?_
  refine wg_tup ?_ rfl
  refine wgs_cons1 ?_ rfl
  refine wg_name (i := 2) rfl rfl ?_
  refine wgs_cons1 ?_ rfl
  refine wg_name (i := 3) rfl rfl ?_
  refine wgs_nil ?_
  refine wss_cons ?_
  refine ws_for [4] ?_
  refine wi_LM (κ := κ) ?_
  refine we_name (i := 2) rfl rfl rfl ?_
  refine finI (f := iterL) v_left_1 ‹_› fun it3 h => ?_
  refine loopC_m (ρ := U × List U × Dc) (fun (st : List U × Dc) (Γ : Pl.Env) (Λ : Cells) => ∃ (y0 : Option D) (y1 : Option D) (y2 : Option D), Γ = [some (.loc 0), some (em κ v_claim), some (em κ v_left_1), some (em κ v_right_2), y0, y1, y2] ∧ Λ = [.ins (κ.ad "Search") ["steps", "met"] [.loc 1, .loc 2], .lst (ems κ st.1), .dic st.2.1 (ems κ st.2.2)]) (fun c r Λ => rtS κ "Search" (fun w => w = c) r Λ) h ⟨_, _, _, rfl, rfl⟩ (fun st x6 Γ Λ Q1 hs h => ?_) (fun st Γ Λ hs h => ?_) (fun c r Λ hr h => rtS_imp hr h)
  · obtain ⟨v_atS_4, v_atM_5⟩ := st
    obtain ⟨y0, y1, y2, rfl, rfl⟩ := hs
    refine wg_name (i := 4) rfl rfl ?_
    refine wss_cons ?_
    refine ws_if ?_
    refine wt_inM (κ := κ) ?_
    refine we_name (i := 4) rfl rfl rfl ?_
    refine we_name (i := 3) rfl rfl rfl ?_
    refine fin2 (f := inM) x6 v_right_2 (vE (u := x6)) (vE (u := v_right_2)) ‹_› fun b7 h => ?_
    refine ite_m ‹_› (fun h => ?_) (fun h => ?_)
    · refine wss_cons ?_
      refine ws_ret ?_
      refine we_methS (κ := κ) (c := "Search") h_Search_told (Nat.le_refl _) T.kls_Search.1 (by decide) ?_
      refine we_name (i := 0) rfl rfl rfl ?_
      refine ⟨rfl, rfl, ?_⟩
      refine wa_cons ?_ rfl
      refine we_name (i := 1) rfl rfl rfl ?_
      refine wa_cons ?_ rfl
      refine we_str ?_
      refine wa_cons ?_ rfl
      refine we_name (i := 4) rfl rfl rfl ?_
      refine wa_cons ?_ rfl
      refine we_f ?_
      refine wn_lst ?_
      refine wa_nil ?_
      refine ⟨szd (by decide : 0 < 10000000), ?_⟩
      refine wa_nil ?_
      refine ⟨[v_claim, .str "same", x6, .lst []], v_atS_4, v_atM_5, [], rfl, rfl, rfl, finKm h fun (z8, l9, m10) h => ?_⟩
      exact ⟨(z8, l9, m10), ⟨(z8, l9, m10), rfl, ⟨[], rfl⟩, rfl⟩, h⟩
    · refine wss_nil ?_
      refine wss_nil ?_
      exact ⟨(v_atS_4, v_atM_5), ⟨_, _, _, rfl, rfl⟩, h⟩
  · obtain ⟨v_atS_11, v_atM_12⟩ := st
    obtain ⟨y0, y1, y2, rfl, rfl⟩ := hs
    refine wss_cons ?_
    refine ws_if ?_
    refine wt_inM (κ := κ) ?_
    refine we_gtup ⟨0, rfl⟩ T.c_NEVER ?_
    refine we_name (i := 2) rfl rfl rfl ?_
    refine fin2 (f := inM) (.tup [.str "no"]) v_left_1 (vE (u := .tup [.str "no"])) (vE (u := v_left_1)) ‹_› fun b13 h => ?_
    refine ite_m ‹_› (fun h => ?_) (fun h => ?_)
    · refine wss_cons ?_
      refine ws_ret ?_
      refine we_methS (κ := κ) (c := "Search") h_Search_told (Nat.le_refl _) T.kls_Search.1 (by decide) ?_
      refine we_name (i := 0) rfl rfl rfl ?_
      refine ⟨rfl, rfl, ?_⟩
      refine wa_cons ?_ rfl
      refine we_name (i := 1) rfl rfl rfl ?_
      refine wa_cons ?_ rfl
      refine we_str ?_
      refine wa_cons ?_ rfl
      refine we_gtup ⟨0, rfl⟩ T.c_NEVER ?_
      refine wa_cons ?_ rfl
      refine we_f ?_
      refine wn_lst ?_
      refine wa_nil ?_
      refine ⟨szd (by decide : 0 < 10000000), ?_⟩
      refine wa_nil ?_
      refine ⟨[v_claim, .str "never", .tup [.str "no"], .lst []], v_atS_11, v_atM_12, [], rfl, rfl, rfl, finKm h fun (z14, l15, m16) h => ?_⟩
      exact ⟨(z14, l15, m16), rfl, ⟨[], rfl⟩, (by exact h)⟩
    · refine wss_nil ?_
      refine wss_cons ?_
      refine ws_for [5, 6] ?_
      refine wi_LM (κ := κ) ?_
      refine we_f ?_
      refine wn_lst ?_
      refine wa_cons ?_ rfl
      refine we_tup ?_
      refine wa_cons ?_ rfl
      refine we_str ?_
      refine wa_cons ?_ rfl
      refine we_name (i := 2) rfl rfl rfl ?_
      refine wa_nil ?_
      refine ⟨szd (by decide : 2 < 10000000), ?_⟩
      refine wa_cons ?_ rfl
      refine we_tup ?_
      refine wa_cons ?_ rfl
      refine we_str ?_
      refine wa_cons ?_ rfl
      refine we_name (i := 3) rfl rfl rfl ?_
      refine wa_nil ?_
      refine ⟨szd (by decide : 2 < 10000000), ?_⟩
      refine wa_nil ?_
      refine ⟨szd (by decide : 2 < 10000000), ?_⟩
      refine finI (f := iterL) (.lst [.tup [.str "left", v_left_1], .tup [.str "right", v_right_2]]) ‹_› fun it17 h => ?_
      refine loopC_m (ρ := U × List U × Dc) (fun (st : List U × Dc) (Γ : Pl.Env) (Λ : Cells) => ∃ (y0 : Option D) (y1 : Option D) (y2 : Option D), Γ = [some (.loc 0), some (em κ v_claim), some (em κ v_left_1), some (em κ v_right_2), y0, y1, y2] ∧ Λ = [.ins (κ.ad "Search") ["steps", "met"] [.loc 1, .loc 2], .lst (ems κ st.1), .dic st.2.1 (ems κ st.2.2)]) (fun c r Λ => rtS κ "Search" (fun w => w = c) r Λ) h ⟨_, _, _, rfl, rfl⟩ (fun st x20 Γ Λ Q1 hs h => ?_) (fun st Γ Λ hs h => ?_) (fun c r Λ hr h => rtS_imp hr h)
      · obtain ⟨v_atS_18, v_atM_19⟩ := st
        obtain ⟨y0, y1, y2, rfl, rfl⟩ := hs
        refine tg2 x20 ‹_› fun v_rule_21 v_side_22 h => ?_
        refine wg_tup ?_ rfl
        refine wgs_cons1 ?_ rfl
        refine wg_name (i := 5) rfl rfl ?_
        refine wgs_cons1 ?_ rfl
        refine wg_name (i := 6) rfl rfl ?_
        refine wgs_nil ?_
        refine wss_cons ?_
        refine ws_for [4] ?_
        refine wi_LM (κ := κ) ?_
        refine we_name (i := 6) rfl rfl rfl ?_
        refine finI (f := iterL) v_side_22 ‹_› fun it23 h => ?_
        refine loopC_m (ρ := U × List U × Dc) (fun (st : List U × Dc) (Γ : Pl.Env) (Λ : Cells) => ∃ (y0 : Option D), Γ = [some (.loc 0), some (em κ v_claim), some (em κ v_left_1), some (em κ v_right_2), y0, some (em κ v_rule_21), some (em κ v_side_22)] ∧ Λ = [.ins (κ.ad "Search") ["steps", "met"] [.loc 1, .loc 2], .lst (ems κ st.1), .dic st.2.1 (ems κ st.2.2)]) (fun c r Λ => rtS κ "Search" (fun w => w = c) r Λ) h ⟨_, rfl, rfl⟩ (fun st x26 Γ Λ Q1 hs h => ?_) (fun st Γ Λ hs h => ?_) (fun c r Λ hr h => ⟨c, hr, h⟩)
        · obtain ⟨v_atS_24, v_atM_25⟩ := st
          obtain ⟨y0, rfl, rfl⟩ := hs
          refine wg_name (i := 4) rfl rfl ?_
          refine wss_cons ?_
          refine ws_if ?_
          refine wt_inM (κ := κ) ?_
          refine we_ixM (κ := κ) ?_
          refine we_name (i := 4) rfl rfl rfl ?_
          refine we_int ?_
          refine fin2 (f := ixM) x26 (.int 0) (vE (u := x26)) (vE (u := .int 0)) ‹_› fun z27 h => ?_
          refine we_gtups ⟨1, rfl⟩ T.c_BROKEN ?_
          refine fin2 (f := inM) z27 (.tup [.str "not", .str "and", .str "or", .str "if"]) (vE (u := z27)) (vE (u := .tup [.str "not", .str "and", .str "or", .str "if"])) ‹_› fun b28 h => ?_
          refine ite_m ‹_› (fun h => ?_) (fun h => ?_)
          · refine wss_cons ?_
            refine ws_ret ?_
            refine we_methS (κ := κ) (c := "Search") h_Search_broken (Nat.le_refl _) T.kls_Search.1 (by decide) ?_
            refine we_name (i := 0) rfl rfl rfl ?_
            refine ⟨rfl, rfl, ?_⟩
            refine wa_cons ?_ rfl
            refine we_name (i := 1) rfl rfl rfl ?_
            refine wa_cons ?_ rfl
            refine we_name (i := 5) rfl rfl rfl ?_
            refine wa_cons ?_ rfl
            refine we_name (i := 4) rfl rfl rfl ?_
            refine wa_nil ?_
            refine ⟨[v_claim, v_rule_21, x26], v_atS_24, v_atM_25, [], rfl, rfl, rfl, finKm h fun (z29, l30, m31) h => ?_⟩
            exact ⟨(z29, l30, m31), ⟨(z29, l30, m31), rfl, ⟨[], rfl⟩, rfl⟩, h⟩
          · refine wss_nil ?_
            refine wss_nil ?_
            exact ⟨(v_atS_24, v_atM_25), ⟨_, rfl, rfl⟩, h⟩
        · obtain ⟨v_atS_32, v_atM_33⟩ := st
          obtain ⟨y0, rfl, rfl⟩ := hs
          refine wss_nil ?_
          exact ⟨(v_atS_32, v_atM_33), ⟨_, _, _, rfl, rfl⟩, h⟩
      · obtain ⟨v_atS_34, v_atM_35⟩ := st
        obtain ⟨y0, y1, y2, rfl, rfl⟩ := hs
        refine wss_cons ?_
        refine ws_ret ?_
        refine we_methS (κ := κ) (c := "Search") h_Search_gone_up (Nat.le_refl _) T.kls_Search.1 (by decide) ?_
        refine we_name (i := 0) rfl rfl rfl ?_
        refine ⟨rfl, rfl, ?_⟩
        refine wa_cons ?_ rfl
        refine we_name (i := 1) rfl rfl rfl ?_
        refine wa_nil ?_
        refine ⟨[v_claim], v_atS_34, v_atM_35, [], rfl, rfl, rfl, finKm h fun (z36, l37, m38) h => ?_⟩
        exact ⟨(z36, l37, m38), rfl, ⟨[], rfl⟩, (by exact h)⟩

abbrev st_Search_found_for : Stmt := inClass (topS 31) 1
abbrev N_Search_found_for : List Str := ["self", "claim", "key"]
abbrev vs_Search_found_for : List Bool := [true, true, true]
abbrev gl_Search_found_for : List Str := ["repr"]
theorem sc_Search_found_for : FnScope N_Search_found_for ["self", "claim"] (defScope st_Search_found_for) := ⟨rfl, rfl, rfl, by decide +kernel, rfl, by decide +kernel, by decide +kernel⟩
theorem gd_Search_found_for : goodC N_Search_found_for (defScope st_Search_found_for) vs_Search_found_for vs_Search_found_for gl_Search_found_for = true := by decide +kernel
@[reducible] def cx_Search_found_for (G : Gl) (k : Nat) : Pl.Ctx := G.cx N_Search_found_for (defScope st_Search_found_for) vs_Search_found_for vs_Search_found_for gl_Search_found_for k

theorem sx_Search_found_for (T : Tp G κ) {kk : Nat} (h_Search_looked : Glmt G kk (κ.ad "Search") "looked" 2 (spS κ "Search" 2 (sh_Search_looked kk))) : Glmt G (kk + 1) (κ.ad "Search") "found_for" 2 (spS κ "Search" 2 (sh_Search_found_for (kk + 1))) := by
  refine meth_S T.d_Search_found_for sc_Search_found_for gd_Search_found_for fun us v_S v_M Q hl h => ?_
  have hE : EI κ no ER.none := EI.no
  obtain ⟨v_claim, rfl⟩ := len1 (Nat.succ.inj hl)
  change WSs _ [some (.loc 0), some (em κ v_claim), none] [.ins (κ.ad "Search") ["steps", "met"] [.loc 1, .loc 2], .lst (ems κ v_S), .dic v_M.1 (ems κ v_M.2)] (_ :: _) _
  refine wss_cons ?_
  refine ws_set (i := 2) rfl rfl ?_ rfl
  refine we_reprM (κ := κ) ⟨0, rfl⟩ T.z_repr ?_
  refine we_name (i := 1) rfl rfl rfl ?_
  refine ⟨v_claim, rfl, fin0 (m := reprM v_claim) ‹_› fun z1 h => ?_⟩
  refine wss_cons ?_
  refine ws_cutM (fun (st : List U × Dc) (Γ : Pl.Env) (Λ : Cells) => Γ = [some (.loc 0), some (em κ v_claim), some (em κ z1)] ∧ Λ = [.ins (κ.ad "Search") ["steps", "met"] [.loc 1, .loc 2], .lst (ems κ st.1), .dic st.2.1 (ems κ st.2.2)]) h (fun Q1 h => ?_) (fun st Γ Λ hs h => ?_)
  · refine ws_if ?_
    refine wt_ninM (κ := κ) ?_
    refine we_name (i := 2) rfl rfl rfl ?_
    refine we_fldC (f := "met") (ns := ["steps", "met"]) (ds := [.loc 1, .loc 2]) (d := .loc 2) 0 T.kls_Search.1 T.kls_Search.2.2 ?_
    refine we_name (i := 0) rfl rfl rfl ?_
    refine ⟨rfl, rfl, rfl, ?_⟩
    refine fin2 (f := (nB inM)) z1 (.dic v_M.1 v_M.2) (vE (u := z1)) (vD rfl) ‹_› fun b2 h => ?_
    refine ite_m ‹_› (fun h => ?_) (fun h => ?_)
    · refine wss_cons ?_
      refine ws_putM (κ := κ) 2 ?_
      refine we_methS (κ := κ) (c := "Search") h_Search_looked (Nat.le_refl _) T.kls_Search.1 (by decide) ?_
      refine we_name (i := 0) rfl rfl rfl ?_
      refine ⟨rfl, rfl, ?_⟩
      refine wa_cons ?_ rfl
      refine we_name (i := 1) rfl rfl rfl ?_
      refine wa_nil ?_
      refine ⟨[v_claim], v_S, v_M, [], rfl, rfl, rfl, finKm h fun (z3, l4, m5) h => ?_⟩
      refine we_fldC (f := "met") (ns := ["steps", "met"]) (ds := [.loc 1, .loc 2]) (d := .loc 2) 0 T.kls_Search.1 T.kls_Search.2.2 ?_
      refine we_name (i := 0) rfl rfl rfl ?_
      refine ⟨rfl, rfl, rfl, ?_⟩
      refine we_name (i := 2) rfl rfl rfl ?_
      refine ⟨rfl, finP m5 z3 z1 (vE (u := z1)) rfl ‹_› fun l6 h => ?_⟩
      refine wss_nil ?_
      exact ⟨(l4, l6), ⟨rfl, rfl⟩, h⟩
    · refine wss_nil ?_
      exact ⟨(v_S, v_M), ⟨rfl, rfl⟩, h⟩
  · obtain ⟨v_atS_7, v_atM_8⟩ := st
    obtain ⟨rfl, rfl⟩ := hs
    refine wss_cons ?_
    refine ws_ret ?_
    refine we_ixdM (κ := κ) ?_
    refine we_fldC (f := "met") (ns := ["steps", "met"]) (ds := [.loc 1, .loc 2]) (d := .loc 2) 0 T.kls_Search.1 T.kls_Search.2.2 ?_
    refine we_name (i := 0) rfl rfl rfl ?_
    refine ⟨rfl, rfl, rfl, ?_⟩
    refine we_name (i := 2) rfl rfl rfl ?_
    refine fin2 (f := ixdM) (.dic v_atM_8.1 v_atM_8.2) z1 (vD rfl) (vE (u := z1)) ‹_› fun z9 h => ?_
    exact ⟨(z9, v_atS_7, v_atM_8), rfl, ⟨[], rfl⟩, (by exact h)⟩
theorem ok_Search_all (T : Tp G κ) : ∀ k, Glmt G k (κ.ad "Search") "found_for" 2 (spS κ "Search" 2 (sh_Search_found_for k)) ∧ Glmt G k (κ.ad "Search") "looked" 2 (spS κ "Search" 2 (sh_Search_looked k)) ∧ Glmt G k (κ.ad "Search") "broken" 4 (spS κ "Search" 4 (sh_Search_broken k)) ∧ Glmt G k (κ.ad "Search") "gone_up" 2 (spS κ "Search" 2 (sh_Search_gone_up k)) ∧ Glmt G k (κ.ad "Search") "told" 5 (spS κ "Search" 5 (sh_Search_told k))
  | 0 => ⟨MethAt.none T.d_Search_found_for (spS_none fun us S M => rfl), MethAt.none T.d_Search_looked (spS_none fun us S M => rfl), MethAt.none T.d_Search_broken (spS_none fun us S M => rfl), MethAt.none T.d_Search_gone_up (spS_none fun us S M => rfl), MethAt.none T.d_Search_told (spS_none fun us S M => rfl)⟩
  | kk + 1 => by
    obtain ⟨h_Search_found_for, h_Search_looked, h_Search_broken, h_Search_gone_up, h_Search_told⟩ := ok_Search_all T kk
    exact ⟨sx_Search_found_for T h_Search_looked, sx_Search_looked T h_Search_told h_Search_broken h_Search_gone_up, sx_Search_broken T h_Search_found_for h_Search_told, sx_Search_gone_up T h_Search_found_for h_Search_told, sx_Search_told T⟩
theorem ok_Search_found_for (T : Tp G κ) (k : Nat) : Glmt G k (κ.ad "Search") "found_for" 2 (spS κ "Search" 2 (sh_Search_found_for k)) := (ok_Search_all T k).1
theorem ok_Search_looked (T : Tp G κ) (k : Nat) : Glmt G k (κ.ad "Search") "looked" 2 (spS κ "Search" 2 (sh_Search_looked k)) := (ok_Search_all T k).2.1
theorem ok_Search_broken (T : Tp G κ) (k : Nat) : Glmt G k (κ.ad "Search") "broken" 4 (spS κ "Search" 4 (sh_Search_broken k)) := (ok_Search_all T k).2.2.1
theorem ok_Search_gone_up (T : Tp G κ) (k : Nat) : Glmt G k (κ.ad "Search") "gone_up" 2 (spS κ "Search" 2 (sh_Search_gone_up k)) := (ok_Search_all T k).2.2.2.1
theorem ok_Search_told (T : Tp G κ) (k : Nat) : Glmt G k (κ.ad "Search") "told" 5 (spS κ "Search" 5 (sh_Search_told k)) := (ok_Search_all T k).2.2.2.2

abbrev st_rooms_of : Stmt := topS 32
abbrev N_rooms_of : List Str := ["tree", "waiting", "rooms", "below", "marks", "trees", "other"]
abbrev vs_rooms_of : List Bool := [true, true, true, true, true, true, false]
abbrev gl_rooms_of : List Str := ["len"]
theorem sc_rooms_of : FnScope N_rooms_of ["tree"] (defScope st_rooms_of) := ⟨rfl, rfl, rfl, by decide +kernel, rfl, by decide +kernel, by decide +kernel⟩
theorem gd_rooms_of : goodC N_rooms_of (defScope st_rooms_of) vs_rooms_of vs_rooms_of gl_rooms_of = true := by decide +kernel
@[reducible] def cx_rooms_of (G : Gl) (k : Nat) : Pl.Ctx := G.cx N_rooms_of (defScope st_rooms_of) vs_rooms_of vs_rooms_of gl_rooms_of k

theorem ok_rooms_of (T : Tp G κ) : ∀ k, G.fn k "rooms_of" 1 (spN κ 1 (sh_rooms_of k))
  | 0 => fn_none T.d_rooms_of (spN_none fun us => rfl)
  | kk + 1 => by
    refine def_N T.d_rooms_of sc_rooms_of gd_rooms_of fun us hl Q Eh h => ?_
    have hE : EI κ Eh (erM κ Eh) := EI.erM
    obtain ⟨v_tree, rfl⟩ := len1 hl
    change WSs _ [some (em κ v_tree), none, none, none, none, none, none] _ (_ :: _) _
    rw [sh_rooms_of] at h
    refine wss_cons ?_
    refine ws_set (i := 1) rfl rfl (we_o ?_) rfl
    refine wn_lst ?_
    refine wa_cons ?_ rfl
    refine we_tup ?_
    refine wa_cons ?_ rfl
    refine we_negM (κ := κ) ?_
    refine we_int ?_
    refine fin1 (f := negM) (.int 1) (vE (u := .int 1)) ‹_› fun z1 h => ?_
    refine wa_cons ?_ rfl
    refine we_name (i := 0) rfl rfl rfl ?_
    refine wa_nil ?_
    refine ⟨szd (by decide : 2 < 10000000), ?_⟩
    refine wa_nil ?_
    refine ⟨szd (by decide : 1 < 10000000), ?_⟩
    refine wss_cons ?_
    refine ws_set (i := 2) rfl rfl (we_o ?_) rfl
    refine wn_lst ?_
    refine wa_nil ?_
    refine ⟨szd (by decide : 0 < 10000000), ?_⟩
    refine wss_cons ?_
    refine whN_m (fun (st : List U × List U) (Γ : Pl.Env) (Λ : Cells) => ∃ (y0 : Option D) (y1 : Option D) (y2 : Option D) (y3 : Option D), Γ = [some (em κ v_tree), some (.loc 0), some (.loc 1), y0, y1, y2, y3] ∧ Λ = [.lst (ems κ st.1), .lst (ems κ st.2)]) h ⟨_, _, _, _, rfl, rfl⟩ (fun st Γ Λ Q1 hs h => ?_) (fun st Γ Λ Q1 hs h => ?_) (fun st Γ Λ hs h => ?_)
    · obtain ⟨v_waiting_2, v_rooms_3⟩ := st
      obtain ⟨y0, y1, y2, y3, rfl, rfl⟩ := hs
      refine wt_ltM (κ := κ) ?_
      refine we_lenM (κ := κ) ⟨0, rfl⟩ T.z_len ?_
      refine we_name (i := 2) rfl rfl rfl ?_
      refine fin1 (f := lenM) (.lst v_rooms_3) (vL rfl) ‹_› fun z4 h => ?_
      refine we_lenM (κ := κ) ⟨0, rfl⟩ T.z_len ?_
      refine we_name (i := 1) rfl rfl rfl ?_
      refine fin1 (f := lenM) (.lst v_waiting_2) (vL rfl) ‹_› fun z5 h => ?_
      refine fin2 (f := ltM) z4 z5 (vE (u := z4)) (vE (u := z5)) ‹_› fun b6 h => ?_
      exact ⟨rfl, h⟩
    · obtain ⟨v_waiting_7, v_rooms_8⟩ := st
      obtain ⟨y0, y1, y2, y3, rfl, rfl⟩ := hs
      refine wss_cons ?_
      refine ws_sett [3, 4, 5] ?_ rfl rfl
      refine we_ixM (κ := κ) ?_
      refine we_name (i := 1) rfl rfl rfl ?_
      refine we_lenM (κ := κ) ⟨0, rfl⟩ T.z_len ?_
      refine we_name (i := 2) rfl rfl rfl ?_
      refine fin1 (f := lenM) (.lst v_rooms_8) (vL rfl) ‹_› fun z9 h => ?_
      refine fin2 (f := ixM) (.lst v_waiting_7) z9 (vL rfl) (vE (u := z9)) ‹_› fun z10 h => ?_
      refine tg2 z10 ‹_› fun v_below_11 y12 h => ?_
      refine wg_tup ?_ rfl
      refine wgs_cons1 ?_ rfl
      refine wg_name (i := 3) rfl rfl ?_
      refine wgs_cons (vs := [4, 5]) (ws := []) ?_ rfl
      refine tg2 y12 ‹_› fun v_marks_13 v_trees_14 h => ?_
      refine wg_tup ?_ rfl
      refine wgs_cons1 ?_ rfl
      refine wg_name (i := 4) rfl rfl ?_
      refine wgs_cons1 ?_ rfl
      refine wg_name (i := 5) rfl rfl ?_
      refine wgs_nil ?_
      refine wgs_nil ?_
      refine wss_cons ?_
      refine ws_expr ?_
      refine we_extM (κ := κ) 0 ?_
      refine we_name (i := 1) rfl rfl rfl ?_
      refine ⟨rfl, ⟨v_waiting_7, rfl⟩, ?_⟩
      refine we_f ?_
      refine wn_lc [("other", 6)] [false, false, true, false, false, false, true] [false, false, false, false, false, false, true] ["len"] [6] (blkOk_by (by decide +kernel : blkC N_rooms_of (defScope st_rooms_of) _ [("other", 6)] = true)) (good_blk (by decide +kernel : goodC N_rooms_of (relS _ (defScope st_rooms_of)) [false, false, true, false, false, false, true] [false, false, false, false, false, false, true] ["len"] = true)) (sto_by (by decide +kernel : stoC N_rooms_of _ [false, false, false, false, false, false, true] = true)) (by decide) ?_
      refine wi_LM (κ := κ) ?_
      refine we_name (i := 5) rfl rfl rfl ?_
      refine finI (f := iterL) v_trees_14 ‹_› fun it15 h => ?_
      refine comp_m h (fun x16 Q1 h => ?_) (fun zs17 h => ?_)
      · have hE : EI κ no ER.none := EI.no
        refine wg_name (i := 6) rfl rfl ?_
        refine we_tup ?_
        refine wa_cons ?_ rfl
        refine we_lenM (κ := κ) ⟨0, rfl⟩ T.z_len ?_
        refine we_name (i := 2) rfl rfl rfl ?_
        refine fin1 (f := lenM) (.lst v_rooms_8) (vL rfl) ‹_› fun z18 h => ?_
        refine wa_cons ?_ rfl
        refine we_name (i := 6) rfl rfl rfl ?_
        refine wa_nil ?_
        refine ⟨szd (by decide : 2 < 10000000), ?_⟩
        exact ⟨rfl, (.tup [z18, x16]), rfl, h⟩
      refine finV (f := extM) v_waiting_7 (.lst zs17) (vE (u := .lst zs17)) rfl ‹_› fun l19 h => ?_
      refine wss_cons ?_
      refine ws_expr ?_
      refine we_appM (κ := κ) 1 ?_
      refine we_name (i := 2) rfl rfl rfl ?_
      refine ⟨rfl, ⟨v_rooms_8, rfl⟩, ?_⟩
      refine we_tup ?_
      refine wa_cons ?_ rfl
      refine we_name (i := 3) rfl rfl rfl ?_
      refine wa_cons ?_ rfl
      refine we_name (i := 4) rfl rfl rfl ?_
      refine wa_nil ?_
      refine ⟨szd (by decide : 2 < 10000000), ?_⟩
      refine finA (f := appM) v_rooms_8 (.tup [v_below_11, v_marks_13]) rfl ‹_› fun l20 h => ?_
      refine wss_nil ?_
      exact ⟨(l19, l20), ⟨_, _, _, _, rfl, rfl⟩, h⟩
    · obtain ⟨v_waiting_21, v_rooms_22⟩ := st
      obtain ⟨y0, y1, y2, y3, rfl, rfl⟩ := hs
      refine wss_cons ?_
      refine ws_ret ?_
      refine we_name (i := 2) rfl rfl rfl ?_
      exact rtL_o (us := v_rooms_22) rfl h

abbrev st_searched : Stmt := topS 33
abbrev N_searched : List Str := ["claim", "search", "number", "tree"]
abbrev vs_searched : List Bool := [true, true, true, true]
abbrev gl_searched : List Str := ["len", "claim_parts", "MOST_PARTS", "claim_shown", "MOST_SHOWN", "TooMany", "Search", "rooms_of"]
theorem sc_searched : FnScope N_searched ["claim"] (defScope st_searched) := ⟨rfl, rfl, rfl, by decide +kernel, rfl, by decide +kernel, by decide +kernel⟩
theorem gd_searched : goodC N_searched (defScope st_searched) vs_searched vs_searched gl_searched = true := by decide +kernel
@[reducible] def cx_searched (G : Gl) (k : Nat) : Pl.Ctx := G.cx N_searched (defScope st_searched) vs_searched vs_searched gl_searched k

theorem ok_searched (T : Tp G κ) : ∀ k, G.fn k "searched" 1 (spV κ 1 (sh_searched k))
  | 0 => fn_none T.d_searched (spV_none fun us => rfl)
  | 1 => fn_none T.d_searched (spV_none fun us => rfl)
  | 2 => fn_none T.d_searched (spV_none fun us => rfl)
  | kk + 3 => by
    have h_claim_parts := ok_claim_parts T (kk + 2)
    have h_claim_shown := ok_claim_shown T (kk + 2)
    have h_Search_init := ok_Search_init T kk
    have h_Search_found_for := ok_Search_found_for T (kk + 2)
    have h_rooms_of := ok_rooms_of T (kk + 2)
    refine def_V T.d_searched sc_searched gd_searched fun us hl Q Eh h => ?_
    have hE : EI κ Eh (erM κ Eh) := EI.erM
    obtain ⟨v_claim, rfl⟩ := len1 hl
    change WSs _ [some (em κ v_claim), none, none, none] _ (_ :: _) _
    rw [sh_searched] at h
    refine wss_cons ?_
    refine ws_if ?_
    refine wt_cutM ‹_› (fun Q1 h => ?_) (fun b7 h => ?_)
    · refine wt_ww (ww_or ?_)
      refine wt_gtM (κ := κ) ?_
      refine we_lenM (κ := κ) ⟨0, rfl⟩ T.z_len ?_
      refine we_f ?_
      refine wn_callN (κ := κ) h_claim_parts (Nat.le_refl _) ⟨1, rfl⟩ ?_
      refine wa_cons ?_ rfl
      refine we_name (i := 0) rfl rfl rfl ?_
      refine wa_nil ?_
      refine finF (Γ := _) [v_claim] rfl rfl hE ‹_› fun z1 h => ?_
      refine fin1 (f := lenM) (.lst z1) (vE (u := .lst z1)) ‹_› fun z2 h => ?_
      refine we_gint ⟨2, rfl⟩ T.c_MOST_PARTS ?_
      refine fin2 (f := gtM) z2 (.int 40) (vE (u := z2)) (vE (u := .int 40)) ‹_› fun b3 h => ?_
      refine ite_m ‹_› (fun h => ?_) (fun h => ?_)
      · exact ⟨rfl, h⟩
      · refine ww_or1 ?_
        refine wt_gtM (κ := κ) ?_
        refine we_lenM (κ := κ) ⟨0, rfl⟩ T.z_len ?_
        refine we_f ?_
        refine wn_callN (κ := κ) h_claim_shown (Nat.le_refl _) ⟨3, rfl⟩ ?_
        refine wa_cons ?_ rfl
        refine we_name (i := 0) rfl rfl rfl ?_
        refine wa_nil ?_
        refine finF (Γ := _) [v_claim] rfl rfl hE ‹_› fun z4 h => ?_
        refine fin1 (f := lenM) (.lst z4) (vE (u := .lst z4)) ‹_› fun z5 h => ?_
        refine we_gint ⟨4, rfl⟩ T.c_MOST_SHOWN ?_
        refine fin2 (f := gtM) z5 (.int 6) (vE (u := z5)) (vE (u := .int 6)) ‹_› fun b6 h => ?_
        exact ⟨rfl, h⟩
    refine ite_m ‹_› (fun h => ?_) (fun h => ?_)
    · refine wss_cons ?_
      exact ws_raiseM ⟨5, rfl⟩ T.x_TooMany (EI.at hE) h
    · refine wss_nil ?_
      refine wss_cons ?_
      refine ws_set (i := 1) rfl rfl ?_ rfl
      refine we_makeS h_Search_init (Nat.le_refl _) ⟨6, rfl⟩ T.g_Search rfl ?_
      refine wss_cons ?_
      refine ws_sett [2, 3] ?_ rfl rfl
      refine we_methS (κ := κ) (c := "Search") h_Search_found_for (Nat.le_refl _) T.kls_Search.1 (by decide) ?_
      refine we_name (i := 1) rfl rfl rfl ?_
      refine ⟨rfl, rfl, ?_⟩
      refine wa_cons ?_ rfl
      refine we_name (i := 0) rfl rfl rfl ?_
      refine wa_nil ?_
      refine ⟨[v_claim], [], (([], []) : Dc), [], rfl, rfl, rfl, finKm h fun (z8, l9, m10) h => ?_⟩
      refine tg2 z8 ‹_› fun v_number_11 v_tree_12 h => ?_
      refine wg_tup ?_ rfl
      refine wgs_cons1 ?_ rfl
      refine wg_name (i := 2) rfl rfl ?_
      refine wgs_cons1 ?_ rfl
      refine wg_name (i := 3) rfl rfl ?_
      refine wgs_nil ?_
      refine wss_cons ?_
      refine ws_if ?_
      refine wt_isM (κ := κ) ?_
      refine we_name (i := 2) rfl rfl rfl ?_
      refine we_non ?_
      refine fin2 (f := isM) v_number_11 .non (vE (u := v_number_11)) (vE (u := .non)) ‹_› fun b13 h => ?_
      refine ite_m ‹_› (fun h => ?_) (fun h => ?_)
      · refine wss_cons ?_
        refine ws_ret ?_
        refine we_tup ?_
        refine wa_cons ?_ rfl
        refine we_str ?_
        refine wa_cons ?_ rfl
        refine we_f ?_
        refine wn_callN (κ := κ) h_rooms_of (Nat.le_refl _) ⟨7, rfl⟩ ?_
        refine wa_cons ?_ rfl
        refine we_name (i := 3) rfl rfl rfl ?_
        refine wa_nil ?_
        refine finF (Γ := _) [v_tree_12] rfl rfl hE ‹_› fun z14 h => ?_
        refine wa_nil ?_
        refine ⟨szd (by decide : 2 < 10000000), ?_⟩
        exact rtV_v (u := (.tup [.str "tree", .lst z14])) h
      · refine wss_nil ?_
        refine freezeS (c := "Search") (S := l9) (M := m10) (Λr := []) (Nat.le_of_ble_eq_true rfl) ?_
        refine wss_cons ?_
        refine ws_ret ?_
        refine we_tup ?_
        refine wa_cons ?_ rfl
        refine we_str ?_
        refine wa_cons ?_ rfl
        refine we_fldC (f := "steps") (ns := ["steps", "met"]) (ds := [em κ (.lst l9), .loc 2]) (d := em κ (.lst l9)) 0 T.kls_Search.1 T.kls_Search.2.1 ?_
        refine we_name (i := 1) rfl rfl rfl ?_
        refine ⟨rfl, rfl, rfl, ?_⟩
        refine wa_nil ?_
        refine ⟨szd (by decide : 2 < 10000000), ?_⟩
        exact rtV_v (u := (.tup [.str "showing", .lst l9])) h

abbrev st_judged : Stmt := topS 35
abbrev N_judged : List Str := ["saying"]
abbrev vs_judged : List Bool := [true]
abbrev gl_judged : List Str := ["searched", "claim_of"]
theorem sc_judged : FnScope N_judged ["saying"] (defScope st_judged) := ⟨rfl, rfl, rfl, by decide +kernel, rfl, by decide +kernel, by decide +kernel⟩
theorem gd_judged : goodC N_judged (defScope st_judged) vs_judged vs_judged gl_judged = true := by decide +kernel
@[reducible] def cx_judged (G : Gl) (k : Nat) : Pl.Ctx := G.cx N_judged (defScope st_judged) vs_judged vs_judged gl_judged k

theorem ok_judged (T : Tp G κ) : ∀ k, G.fn k "judged" 1 (spV κ 1 (sh_judged k))
  | 0 => fn_none T.d_judged (spV_none fun us => rfl)
  | kk + 1 => by
    have h_searched := ok_searched T kk
    have h_claim_of := ok_claim_of T kk
    refine def_V T.d_judged sc_judged gd_judged fun us hl Q Eh h => ?_
    have hE : EI κ Eh (erM κ Eh) := EI.erM
    obtain ⟨v_saying, rfl⟩ := len1 hl
    change WSs _ [some (em κ v_saying)] _ (_ :: _) _
    refine wss_cons ?_
    refine ws_ret ?_
    refine we_callV (κ := κ) h_searched (Nat.le_refl _) ⟨0, rfl⟩ ?_
    refine wa_cons ?_ rfl
    refine we_callV (κ := κ) h_claim_of (Nat.le_refl _) ⟨1, rfl⟩ ?_
    refine wa_cons ?_ rfl
    refine we_f ?_
    refine wn_lst ?_
    refine wa_nil ?_
    refine ⟨szd (by decide : 0 < 10000000), ?_⟩
    refine wa_cons ?_ rfl
    refine we_f ?_
    refine wn_lst ?_
    refine wa_cons ?_ rfl
    refine we_name (i := 0) rfl rfl rfl ?_
    refine wa_nil ?_
    refine ⟨szd (by decide : 1 < 10000000), ?_⟩
    refine wa_nil ?_
    refine finF (Γ := _) [.lst [], .lst [v_saying]] rfl rfl hE ‹_› fun z1 h => ?_
    refine wa_nil ?_
    refine finF (Γ := _) [z1] rfl rfl hE ‹_› fun z2 h => ?_
    exact rtV_v (u := z2) h

abbrev st_follows : Stmt := topS 36
abbrev N_follows : List Str := ["givens", "saying"]
abbrev vs_follows : List Bool := [true, true]
abbrev gl_follows : List Str := ["searched", "claim_of"]
theorem sc_follows : FnScope N_follows ["givens", "saying"] (defScope st_follows) := ⟨rfl, rfl, rfl, by decide +kernel, rfl, by decide +kernel, by decide +kernel⟩
theorem gd_follows : goodC N_follows (defScope st_follows) vs_follows vs_follows gl_follows = true := by decide +kernel
@[reducible] def cx_follows (G : Gl) (k : Nat) : Pl.Ctx := G.cx N_follows (defScope st_follows) vs_follows vs_follows gl_follows k

theorem ok_follows (T : Tp G κ) : ∀ k, G.fn k "follows" 2 (spV κ 2 (sh_follows k))
  | 0 => fn_none T.d_follows (spV_none fun us => rfl)
  | kk + 1 => by
    have h_searched := ok_searched T kk
    have h_claim_of := ok_claim_of T kk
    refine def_V T.d_follows sc_follows gd_follows fun us hl Q Eh h => ?_
    have hE : EI κ Eh (erM κ Eh) := EI.erM
    obtain ⟨v_givens, v_saying, rfl⟩ := len2 hl
    change WSs _ [some (em κ v_givens), some (em κ v_saying)] _ (_ :: _) _
    refine wss_cons ?_
    refine ws_ret ?_
    refine we_callV (κ := κ) h_searched (Nat.le_refl _) ⟨0, rfl⟩ ?_
    refine wa_cons ?_ rfl
    refine we_callV (κ := κ) h_claim_of (Nat.le_refl _) ⟨1, rfl⟩ ?_
    refine wa_cons ?_ rfl
    refine we_name (i := 0) rfl rfl rfl ?_
    refine wa_cons ?_ rfl
    refine we_f ?_
    refine wn_lst ?_
    refine wa_cons ?_ rfl
    refine we_name (i := 1) rfl rfl rfl ?_
    refine wa_nil ?_
    refine ⟨szd (by decide : 1 < 10000000), ?_⟩
    refine wa_nil ?_
    refine finF (Γ := _) [v_givens, .lst [v_saying]] rfl rfl hE ‹_› fun z1 h => ?_
    refine wa_nil ?_
    refine finF (Γ := _) [z1] rfl rfl hE ‹_› fun z2 h => ?_
    exact rtV_v (u := z2) h

abbrev st_alike : Stmt := topS 37
abbrev N_alike : List Str := ["one", "other", "there", "back"]
abbrev vs_alike : List Bool := [true, true, true, true]
abbrev gl_alike : List Str := ["searched", "claim_of"]
theorem sc_alike : FnScope N_alike ["one", "other"] (defScope st_alike) := ⟨rfl, rfl, rfl, by decide +kernel, rfl, by decide +kernel, by decide +kernel⟩
theorem gd_alike : goodC N_alike (defScope st_alike) vs_alike vs_alike gl_alike = true := by decide +kernel
@[reducible] def cx_alike (G : Gl) (k : Nat) : Pl.Ctx := G.cx N_alike (defScope st_alike) vs_alike vs_alike gl_alike k

theorem ok_alike (T : Tp G κ) : ∀ k, G.fn k "alike" 2 (spV κ 2 (sh_alike k))
  | 0 => fn_none T.d_alike (spV_none fun us => rfl)
  | kk + 1 => by
    have h_searched := ok_searched T kk
    have h_claim_of := ok_claim_of T kk
    refine def_V T.d_alike sc_alike gd_alike fun us hl Q Eh h => ?_
    have hE : EI κ Eh (erM κ Eh) := EI.erM
    obtain ⟨v_one, v_other, rfl⟩ := len2 hl
    change WSs _ [some (em κ v_one), some (em κ v_other), none, none] _ (_ :: _) _
    refine wss_cons ?_
    refine ws_set (i := 2) rfl rfl ?_ rfl
    refine we_callV (κ := κ) h_searched (Nat.le_refl _) ⟨0, rfl⟩ ?_
    refine wa_cons ?_ rfl
    refine we_callV (κ := κ) h_claim_of (Nat.le_refl _) ⟨1, rfl⟩ ?_
    refine wa_cons ?_ rfl
    refine we_f ?_
    refine wn_lst ?_
    refine wa_cons ?_ rfl
    refine we_name (i := 0) rfl rfl rfl ?_
    refine wa_nil ?_
    refine ⟨szd (by decide : 1 < 10000000), ?_⟩
    refine wa_cons ?_ rfl
    refine we_f ?_
    refine wn_lst ?_
    refine wa_cons ?_ rfl
    refine we_name (i := 1) rfl rfl rfl ?_
    refine wa_nil ?_
    refine ⟨szd (by decide : 1 < 10000000), ?_⟩
    refine wa_nil ?_
    refine finF (Γ := _) [.lst [v_one], .lst [v_other]] rfl rfl hE ‹_› fun z1 h => ?_
    refine wa_nil ?_
    refine finF (Γ := _) [z1] rfl rfl hE ‹_› fun z2 h => ?_
    refine wss_cons ?_
    refine ws_if ?_
    refine wt_eqM (κ := κ) ?_
    refine we_ixM (κ := κ) ?_
    refine we_name (i := 2) rfl rfl rfl ?_
    refine we_int ?_
    refine fin2 (f := ixM) z2 (.int 0) (vE (u := z2)) (vE (u := .int 0)) ‹_› fun z3 h => ?_
    refine we_str ?_
    refine fin2 (f := eqM) z3 (.str "tree") (vE (u := z3)) (vE (u := .str "tree")) ‹_› fun b4 h => ?_
    refine ite_m ‹_› (fun h => ?_) (fun h => ?_)
    · refine wss_cons ?_
      refine ws_ret ?_
      refine we_tup ?_
      refine wa_cons ?_ rfl
      refine we_str ?_
      refine wa_cons ?_ rfl
      refine we_ixM (κ := κ) ?_
      refine we_name (i := 2) rfl rfl rfl ?_
      refine we_int ?_
      refine fin2 (f := ixM) z2 (.int 1) (vE (u := z2)) (vE (u := .int 1)) ‹_› fun z5 h => ?_
      refine wa_nil ?_
      refine ⟨szd (by decide : 2 < 10000000), ?_⟩
      exact rtV_v (u := (.tup [.str "unlike", z5])) h
    · refine wss_nil ?_
      refine wss_cons ?_
      refine ws_set (i := 3) rfl rfl ?_ rfl
      refine we_callV (κ := κ) h_searched (Nat.le_refl _) ⟨0, rfl⟩ ?_
      refine wa_cons ?_ rfl
      refine we_callV (κ := κ) h_claim_of (Nat.le_refl _) ⟨1, rfl⟩ ?_
      refine wa_cons ?_ rfl
      refine we_f ?_
      refine wn_lst ?_
      refine wa_cons ?_ rfl
      refine we_name (i := 1) rfl rfl rfl ?_
      refine wa_nil ?_
      refine ⟨szd (by decide : 1 < 10000000), ?_⟩
      refine wa_cons ?_ rfl
      refine we_f ?_
      refine wn_lst ?_
      refine wa_cons ?_ rfl
      refine we_name (i := 0) rfl rfl rfl ?_
      refine wa_nil ?_
      refine ⟨szd (by decide : 1 < 10000000), ?_⟩
      refine wa_nil ?_
      refine finF (Γ := _) [.lst [v_other], .lst [v_one]] rfl rfl hE ‹_› fun z6 h => ?_
      refine wa_nil ?_
      refine finF (Γ := _) [z6] rfl rfl hE ‹_› fun z7 h => ?_
      refine wss_cons ?_
      refine ws_if ?_
      refine wt_eqM (κ := κ) ?_
      refine we_ixM (κ := κ) ?_
      refine we_name (i := 3) rfl rfl rfl ?_
      refine we_int ?_
      refine fin2 (f := ixM) z7 (.int 0) (vE (u := z7)) (vE (u := .int 0)) ‹_› fun z8 h => ?_
      refine we_str ?_
      refine fin2 (f := eqM) z8 (.str "tree") (vE (u := z8)) (vE (u := .str "tree")) ‹_› fun b9 h => ?_
      refine ite_m ‹_› (fun h => ?_) (fun h => ?_)
      · refine wss_cons ?_
        refine ws_ret ?_
        refine we_tup ?_
        refine wa_cons ?_ rfl
        refine we_str ?_
        refine wa_cons ?_ rfl
        refine we_ixM (κ := κ) ?_
        refine we_name (i := 3) rfl rfl rfl ?_
        refine we_int ?_
        refine fin2 (f := ixM) z7 (.int 1) (vE (u := z7)) (vE (u := .int 1)) ‹_› fun z10 h => ?_
        refine wa_nil ?_
        refine ⟨szd (by decide : 2 < 10000000), ?_⟩
        exact rtV_v (u := (.tup [.str "unlike", z10])) h
      · refine wss_nil ?_
        refine wss_cons ?_
        refine ws_ret ?_
        refine we_tup ?_
        refine wa_cons ?_ rfl
        refine we_str ?_
        refine wa_cons ?_ rfl
        refine we_ixM (κ := κ) ?_
        refine we_name (i := 2) rfl rfl rfl ?_
        refine we_int ?_
        refine fin2 (f := ixM) z2 (.int 1) (vE (u := z2)) (vE (u := .int 1)) ‹_› fun z11 h => ?_
        refine wa_cons ?_ rfl
        refine we_ixM (κ := κ) ?_
        refine we_name (i := 3) rfl rfl rfl ?_
        refine we_int ?_
        refine fin2 (f := ixM) z7 (.int 1) (vE (u := z7)) (vE (u := .int 1)) ‹_› fun z12 h => ?_
        refine wa_nil ?_
        refine ⟨szd (by decide : 3 < 10000000), ?_⟩
        exact rtV_v (u := (.tup [.str "alike", z11, z12])) h

abbrev st__law_asked : Stmt := topS 46
abbrev N__law_asked : List Str := ["_law_which", "_law_claim_here"]
abbrev vs__law_asked : List Bool := [true, true]
abbrev gl__law_asked : List Str := ["searched", "judged", "follows", "alike"]
theorem sc__law_asked : FnScope N__law_asked ["_law_which", "_law_claim_here"] (defScope st__law_asked) := ⟨rfl, rfl, rfl, by decide +kernel, rfl, by decide +kernel, by decide +kernel⟩
theorem gd__law_asked : goodC N__law_asked (defScope st__law_asked) vs__law_asked vs__law_asked gl__law_asked = true := by decide +kernel
@[reducible] def cx__law_asked (G : Gl) (k : Nat) : Pl.Ctx := G.cx N__law_asked (defScope st__law_asked) vs__law_asked vs__law_asked gl__law_asked k

theorem ok__law_asked (T : Tp G κ) : ∀ k, G.fn k "_law_asked" 2 (spV κ 2 (sh__law_asked k))
  | 0 => fn_none T.d__law_asked (spV_none fun us => rfl)
  | kk + 1 => by
    have h_searched := ok_searched T kk
    have h_judged := ok_judged T kk
    have h_follows := ok_follows T kk
    have h_alike := ok_alike T kk
    refine def_V T.d__law_asked sc__law_asked gd__law_asked fun us hl Q Eh h => ?_
    have hE : EI κ Eh (erM κ Eh) := EI.erM
    obtain ⟨v_which, v_claim_here, rfl⟩ := len2 hl
    change WSs _ [some (em κ v_which), some (em κ v_claim_here)] _ (_ :: _) _
    refine wss_cons ?_
    refine ws_if ?_
    refine wt_eqM (κ := κ) ?_
    refine we_name (i := 0) rfl rfl rfl ?_
    refine we_int ?_
    refine fin2 (f := eqM) v_which (.int 0) (vE (u := v_which)) (vE (u := .int 0)) ‹_› fun b1 h => ?_
    refine ite_m ‹_› (fun h => ?_) (fun h => ?_)
    · refine wss_cons ?_
      refine ws_ret ?_
      refine we_callV (κ := κ) h_searched (Nat.le_refl _) ⟨0, rfl⟩ ?_
      refine wa_cons ?_ rfl
      refine we_name (i := 1) rfl rfl rfl ?_
      refine wa_nil ?_
      refine finF (Γ := _) [v_claim_here] rfl rfl hE ‹_› fun z2 h => ?_
      exact rtV_v (u := z2) h
    · refine wss_nil ?_
      refine wss_cons ?_
      refine ws_if ?_
      refine wt_eqM (κ := κ) ?_
      refine we_name (i := 0) rfl rfl rfl ?_
      refine we_int ?_
      refine fin2 (f := eqM) v_which (.int 1) (vE (u := v_which)) (vE (u := .int 1)) ‹_› fun b3 h => ?_
      refine ite_m ‹_› (fun h => ?_) (fun h => ?_)
      · refine wss_cons ?_
        refine ws_ret ?_
        refine we_callV (κ := κ) h_judged (Nat.le_refl _) ⟨1, rfl⟩ ?_
        refine wa_cons ?_ rfl
        refine we_ixM (κ := κ) ?_
        refine we_ixM (κ := κ) ?_
        refine we_name (i := 1) rfl rfl rfl ?_
        refine we_int ?_
        refine fin2 (f := ixM) v_claim_here (.int 1) (vE (u := v_claim_here)) (vE (u := .int 1)) ‹_› fun z4 h => ?_
        refine we_negM (κ := κ) ?_
        refine we_int ?_
        refine fin1 (f := negM) (.int 1) (vE (u := .int 1)) ‹_› fun z5 h => ?_
        refine fin2 (f := ixM) z4 z5 (vE (u := z4)) (vE (u := z5)) ‹_› fun z6 h => ?_
        refine wa_nil ?_
        refine finF (Γ := _) [z6] rfl rfl hE ‹_› fun z7 h => ?_
        exact rtV_v (u := z7) h
      · refine wss_nil ?_
        refine wss_cons ?_
        refine ws_if ?_
        refine wt_eqM (κ := κ) ?_
        refine we_name (i := 0) rfl rfl rfl ?_
        refine we_int ?_
        refine fin2 (f := eqM) v_which (.int 2) (vE (u := v_which)) (vE (u := .int 2)) ‹_› fun b8 h => ?_
        refine ite_m ‹_› (fun h => ?_) (fun h => ?_)
        · refine wss_cons ?_
          refine ws_ret ?_
          refine we_callV (κ := κ) h_follows (Nat.le_refl _) ⟨2, rfl⟩ ?_
          refine wa_cons ?_ rfl
          refine we_ixM (κ := κ) ?_
          refine we_name (i := 1) rfl rfl rfl ?_
          refine we_int ?_
          refine fin2 (f := ixM) v_claim_here (.int 0) (vE (u := v_claim_here)) (vE (u := .int 0)) ‹_› fun z9 h => ?_
          refine wa_cons ?_ rfl
          refine we_ixM (κ := κ) ?_
          refine we_ixM (κ := κ) ?_
          refine we_name (i := 1) rfl rfl rfl ?_
          refine we_int ?_
          refine fin2 (f := ixM) v_claim_here (.int 1) (vE (u := v_claim_here)) (vE (u := .int 1)) ‹_› fun z10 h => ?_
          refine we_negM (κ := κ) ?_
          refine we_int ?_
          refine fin1 (f := negM) (.int 1) (vE (u := .int 1)) ‹_› fun z11 h => ?_
          refine fin2 (f := ixM) z10 z11 (vE (u := z10)) (vE (u := z11)) ‹_› fun z12 h => ?_
          refine wa_nil ?_
          refine finF (Γ := _) [z9, z12] rfl rfl hE ‹_› fun z13 h => ?_
          exact rtV_v (u := z13) h
        · refine wss_nil ?_
          refine wss_cons ?_
          refine ws_ret ?_
          refine we_callV (κ := κ) h_alike (Nat.le_refl _) ⟨3, rfl⟩ ?_
          refine wa_cons ?_ rfl
          refine we_ixM (κ := κ) ?_
          refine we_ixM (κ := κ) ?_
          refine we_name (i := 1) rfl rfl rfl ?_
          refine we_int ?_
          refine fin2 (f := ixM) v_claim_here (.int 0) (vE (u := v_claim_here)) (vE (u := .int 0)) ‹_› fun z14 h => ?_
          refine we_negM (κ := κ) ?_
          refine we_int ?_
          refine fin1 (f := negM) (.int 1) (vE (u := .int 1)) ‹_› fun z15 h => ?_
          refine fin2 (f := ixM) z14 z15 (vE (u := z14)) (vE (u := z15)) ‹_› fun z16 h => ?_
          refine wa_cons ?_ rfl
          refine we_ixM (κ := κ) ?_
          refine we_ixM (κ := κ) ?_
          refine we_name (i := 1) rfl rfl rfl ?_
          refine we_int ?_
          refine fin2 (f := ixM) v_claim_here (.int 1) (vE (u := v_claim_here)) (vE (u := .int 1)) ‹_› fun z17 h => ?_
          refine we_negM (κ := κ) ?_
          refine we_int ?_
          refine fin1 (f := negM) (.int 1) (vE (u := .int 1)) ‹_› fun z18 h => ?_
          refine fin2 (f := ixM) z17 z18 (vE (u := z17)) (vE (u := z18)) ‹_› fun z19 h => ?_
          refine wa_nil ?_
          refine finF (Γ := _) [z16, z19] rfl rfl hE ‹_› fun z20 h => ?_
          exact rtV_v (u := z20) h

abbrev st__law_alone : Stmt := topS 45
abbrev N__law_alone : List Str := ["_law_e", "_law_kinds"]
abbrev vs__law_alone : List Bool := [true, true]
abbrev gl__law_alone : List Str := ["int", "isinstance", "NoRule", "NoSaying", "NoTree", "HasLetter", "TooMany", "Outside", "NoLine", "Nothing", "ValueError"]
theorem sc__law_alone : FnScope N__law_alone ["_law_e"] (defScope st__law_alone) := ⟨rfl, rfl, rfl, by decide +kernel, rfl, by decide +kernel, by decide +kernel⟩
theorem gd__law_alone : goodC N__law_alone (defScope st__law_alone) vs__law_alone vs__law_alone gl__law_alone = true := by decide +kernel
@[reducible] def cx__law_alone (G : Gl) (k : Nat) : Pl.Ctx := G.cx N__law_alone (defScope st__law_alone) vs__law_alone vs__law_alone gl__law_alone k

theorem okh__law_alone (T : Tp G κ) : ∀ k, G.fnh k "_law_alone" 1 (spV κ 1 (sh__law_alone k))
  | 0 => fnh_none T.d__law_alone (spV_none fun us => rfl)
  | kk + 1 => by
    refine def_VW T.d__law_alone sc__law_alone gd__law_alone fun us hl Q Eh h => ?_
    have hE : EI κ Eh (erM κ Eh) := EI.erM
    obtain ⟨v_e, rfl⟩ := len1 hl
    change WSs _ [some (em κ v_e), none] _ (_ :: _) _
    refine wss_cons ?_
    refine ws_set (i := 1) rfl rfl ?_ rfl
    refine we_addM (κ := κ) ?_
    refine we_addM (κ := κ) ?_
    refine we_intM (κ := κ) ⟨0, rfl⟩ T.z_int ?_
    refine we_isEM (κ := κ) (tbl := [("NoRule", true), ("TooMany", false)]) ⟨1, rfl⟩ T.z_isinstance ⟨2, rfl⟩ T.g_NoRule T.xi_NoRule ?_
    refine we_name (i := 0) rfl rfl rfl ?_
    refine ⟨v_e, rfl, fin0 (m := isEM [("NoRule", true), ("TooMany", false)] v_e) ‹_› fun z1 h => ?_⟩
    refine fin1 (f := intM) z1 (vE (u := z1)) ‹_› fun z2 h => ?_
    refine we_intM (κ := κ) ⟨0, rfl⟩ T.z_int ?_
    refine we_isEM (κ := κ) (tbl := [("NoRule", false), ("TooMany", false)]) ⟨1, rfl⟩ T.z_isinstance ⟨3, rfl⟩ T.g_NoSaying T.xi_NoSaying ?_
    refine we_name (i := 0) rfl rfl rfl ?_
    refine ⟨v_e, rfl, fin0 (m := isEM [("NoRule", false), ("TooMany", false)] v_e) ‹_› fun z3 h => ?_⟩
    refine fin1 (f := intM) z3 (vE (u := z3)) ‹_› fun z4 h => ?_
    refine fin2 (f := addM) z2 z4 (vE (u := z2)) (vE (u := z4)) ‹_› fun z5 h => ?_
    refine we_intM (κ := κ) ⟨0, rfl⟩ T.z_int ?_
    refine we_isEM (κ := κ) (tbl := [("NoRule", false), ("TooMany", false)]) ⟨1, rfl⟩ T.z_isinstance ⟨4, rfl⟩ T.g_NoTree T.xi_NoTree ?_
    refine we_name (i := 0) rfl rfl rfl ?_
    refine ⟨v_e, rfl, fin0 (m := isEM [("NoRule", false), ("TooMany", false)] v_e) ‹_› fun z6 h => ?_⟩
    refine fin1 (f := intM) z6 (vE (u := z6)) ‹_› fun z7 h => ?_
    refine fin2 (f := addM) z5 z7 (vE (u := z5)) (vE (u := z7)) ‹_› fun z8 h => ?_
    refine wss_cons ?_
    refine ws_set (i := 1) rfl rfl ?_ rfl
    refine we_addM (κ := κ) ?_
    refine we_addM (κ := κ) ?_
    refine we_addM (κ := κ) ?_
    refine we_name (i := 1) rfl rfl rfl ?_
    refine we_intM (κ := κ) ⟨0, rfl⟩ T.z_int ?_
    refine we_isEM (κ := κ) (tbl := [("NoRule", false), ("TooMany", false)]) ⟨1, rfl⟩ T.z_isinstance ⟨5, rfl⟩ T.g_HasLetter T.xi_HasLetter ?_
    refine we_name (i := 0) rfl rfl rfl ?_
    refine ⟨v_e, rfl, fin0 (m := isEM [("NoRule", false), ("TooMany", false)] v_e) ‹_› fun z9 h => ?_⟩
    refine fin1 (f := intM) z9 (vE (u := z9)) ‹_› fun z10 h => ?_
    refine fin2 (f := addM) z8 z10 (vE (u := z8)) (vE (u := z10)) ‹_› fun z11 h => ?_
    refine we_intM (κ := κ) ⟨0, rfl⟩ T.z_int ?_
    refine we_isEM (κ := κ) (tbl := [("NoRule", false), ("TooMany", true)]) ⟨1, rfl⟩ T.z_isinstance ⟨6, rfl⟩ T.g_TooMany T.xi_TooMany ?_
    refine we_name (i := 0) rfl rfl rfl ?_
    refine ⟨v_e, rfl, fin0 (m := isEM [("NoRule", false), ("TooMany", true)] v_e) ‹_› fun z12 h => ?_⟩
    refine fin1 (f := intM) z12 (vE (u := z12)) ‹_› fun z13 h => ?_
    refine fin2 (f := addM) z11 z13 (vE (u := z11)) (vE (u := z13)) ‹_› fun z14 h => ?_
    refine we_intM (κ := κ) ⟨0, rfl⟩ T.z_int ?_
    refine we_isEM (κ := κ) (tbl := [("NoRule", false), ("TooMany", false)]) ⟨1, rfl⟩ T.z_isinstance ⟨7, rfl⟩ T.g_Outside T.xi_Outside ?_
    refine we_name (i := 0) rfl rfl rfl ?_
    refine ⟨v_e, rfl, fin0 (m := isEM [("NoRule", false), ("TooMany", false)] v_e) ‹_› fun z15 h => ?_⟩
    refine fin1 (f := intM) z15 (vE (u := z15)) ‹_› fun z16 h => ?_
    refine fin2 (f := addM) z14 z16 (vE (u := z14)) (vE (u := z16)) ‹_› fun z17 h => ?_
    refine wss_cons ?_
    refine ws_set (i := 1) rfl rfl ?_ rfl
    refine we_addM (κ := κ) ?_
    refine we_addM (κ := κ) ?_
    refine we_name (i := 1) rfl rfl rfl ?_
    refine we_intM (κ := κ) ⟨0, rfl⟩ T.z_int ?_
    refine we_isEM (κ := κ) (tbl := [("NoRule", false), ("TooMany", false)]) ⟨1, rfl⟩ T.z_isinstance ⟨8, rfl⟩ T.g_NoLine T.xi_NoLine ?_
    refine we_name (i := 0) rfl rfl rfl ?_
    refine ⟨v_e, rfl, fin0 (m := isEM [("NoRule", false), ("TooMany", false)] v_e) ‹_› fun z18 h => ?_⟩
    refine fin1 (f := intM) z18 (vE (u := z18)) ‹_› fun z19 h => ?_
    refine fin2 (f := addM) z17 z19 (vE (u := z17)) (vE (u := z19)) ‹_› fun z20 h => ?_
    refine we_intM (κ := κ) ⟨0, rfl⟩ T.z_int ?_
    refine we_isEM (κ := κ) (tbl := [("NoRule", false), ("TooMany", false)]) ⟨1, rfl⟩ T.z_isinstance ⟨9, rfl⟩ T.g_Nothing T.xi_Nothing ?_
    refine we_name (i := 0) rfl rfl rfl ?_
    refine ⟨v_e, rfl, fin0 (m := isEM [("NoRule", false), ("TooMany", false)] v_e) ‹_› fun z21 h => ?_⟩
    refine fin1 (f := intM) z21 (vE (u := z21)) ‹_› fun z22 h => ?_
    refine fin2 (f := addM) z20 z22 (vE (u := z20)) (vE (u := z22)) ‹_› fun z23 h => ?_
    refine wss_cons ?_
    refine ws_ret ?_
    refine we_cutM (κ := κ) h (fun Q1 h => ?_) (fun z29 h => ?_)
    · refine we_andM (κ := κ) ?_
      refine we_eqM (κ := κ) ?_
      refine we_name (i := 1) rfl rfl rfl ?_
      refine we_int ?_
      refine fin2 (f := (vB eqM)) z23 (.int 1) (vE (u := z23)) (vE (u := .int 1)) ‹_› fun z24 h => ?_
      refine fin1 (f := boolM) z24 (vE (u := z24)) ‹_› fun b25 h => ?_
      refine ite_m ‹_› (fun h => ?_) (fun h => ?_)
      · refine we_andM (κ := κ) ?_
        refine we_isEM (κ := κ) (tbl := [("NoRule", false), ("TooMany", true)]) ⟨1, rfl⟩ T.z_isinstance ⟨6, rfl⟩ T.g_TooMany T.xi_TooMany ?_
        refine we_name (i := 0) rfl rfl rfl ?_
        refine ⟨v_e, rfl, fin0 (m := isEM [("NoRule", false), ("TooMany", true)] v_e) ‹_› fun z26 h => ?_⟩
        refine fin1 (f := boolM) z26 (vE (u := z26)) ‹_› fun b27 h => ?_
        refine ite_m ‹_› (fun h => ?_) (fun h => ?_)
        · refine we_one ?_
          refine we_isEB (κ := κ) (tbl := [("NoRule", true), ("TooMany", true)]) ⟨1, rfl⟩ T.z_isinstance ⟨10, rfl⟩ T.z_ValueError boot_VE T.xi_ValueError ?_
          refine we_name (i := 0) rfl rfl rfl ?_
          refine ⟨v_e, rfl, fin0 (m := isEM [("NoRule", true), ("TooMany", true)] v_e) ‹_› fun z28 h => ?_⟩
          exact ⟨rfl, z28, rfl, h⟩
        · exact ⟨rfl, (.bl false), rfl, h⟩
      · exact ⟨rfl, (.bl false), rfl, h⟩
    exact rtV_v (u := z29) h
theorem ok__law_alone (T : Tp G κ) : ∀ k, G.fn k "_law_alone" 1 (spV κ 1 (sh__law_alone k)) := fun k => (okh__law_alone T k).g

abbrev st__law_told : Stmt := topS 47
abbrev N__law_told : List Str := ["_law_which", "_law_claim_here", "_law_found", "_law_word", "_law_e"]
abbrev vs__law_told : List Bool := [true, true, true, true, true]
abbrev gl__law_told : List Str := ["_law_asked", "SayError", "int", "_law_alone", "isinstance", "tuple", "len"]
theorem sc__law_told : FnScope N__law_told ["_law_which", "_law_claim_here"] (defScope st__law_told) := ⟨rfl, rfl, rfl, by decide +kernel, rfl, by decide +kernel, by decide +kernel⟩
theorem gd__law_told : goodC N__law_told (defScope st__law_told) vs__law_told vs__law_told gl__law_told = true := by decide +kernel
@[reducible] def cx__law_told (G : Gl) (k : Nat) : Pl.Ctx := G.cx N__law_told (defScope st__law_told) vs__law_told vs__law_told gl__law_told k

theorem ok__law_told (T : Tp G κ) : ∀ k, G.fn k "_law_told" 2 (spV κ 2 (sh__law_told k))
  | 0 => fn_none T.d__law_told (spV_none fun us => rfl)
  | kk + 1 => by
    have h__law_asked := ok__law_asked T kk
    have h__law_alone := ok__law_alone T kk
    have hh__law_alone := okh__law_alone T kk
    refine def_V T.d__law_told sc__law_told gd__law_told fun us hl Q Eh h => ?_
    have hE : EI κ Eh (erM κ Eh) := EI.erM
    obtain ⟨v_which, v_claim_here, rfl⟩ := len2 hl
    change WSs _ [some (em κ v_which), some (em κ v_claim_here), none, none, none] _ (_ :: _) _
    rw [sh__law_told] at h
    refine wss_cons ?_
    refine ws_set (i := 2) rfl rfl ?_ rfl
    refine we_non ?_
    refine wss_cons ?_
    refine ws_set (i := 3) rfl rfl ?_ rfl
    refine we_str ?_
    refine wss_cons ?_
    refine ws_tryH 4 (fun (st : U) (Γ : Pl.Env) (Λ : Cells) => ∃ (y0 : Option D), Γ = [some (em κ v_which), some (em κ v_claim_here), some (em κ st), some (em κ (.str "otherwise")), y0] ∧ Λ = []) [("NoRule", 0), ("TooMany", 0)] rfl rfl rfl ⟨1, rfl⟩ T.g_SayError T.xt_SayError h (fun Q1 E1 h hE => ?_) (fun v_found_2 Γ Λ hs h => ?_) (fun ec11 eu12 h => ?_)
    · refine wss_cons ?_
      refine ws_set (i := 2) rfl rfl ?_ rfl
      refine we_callV (κ := κ) h__law_asked (Nat.le_refl _) ⟨0, rfl⟩ ?_
      refine wa_cons ?_ rfl
      refine we_name (i := 0) rfl rfl rfl ?_
      refine wa_cons ?_ rfl
      refine we_name (i := 1) rfl rfl rfl ?_
      refine wa_nil ?_
      refine finFt [v_which, v_claim_here] rfl rfl hE ‹_› fun z1 h => ?_
      refine wss_nil ?_
      exact ⟨z1, ⟨_, rfl, rfl⟩, h⟩
    · obtain ⟨y0, rfl, rfl⟩ := hs
      refine wss_cons ?_
      refine ws_cutM (fun (st : U) (Γ : Pl.Env) (Λ : Cells) => ∃ (y0 : Option D), Γ = [some (em κ v_which), some (em κ v_claim_here), some (em κ v_found_2), some (em κ st), y0] ∧ Λ = []) h (fun Q1 h => ?_) (fun v_word_10 Γ Λ hs h => ?_)
      · refine ws_if ?_
        refine wt_cutM ‹_› (fun Q1 h => ?_) (fun b9 h => ?_)
        · refine wt_ww (ww_and ?_)
          refine wt_valM (κ := κ) ?_
          refine we_isiM (κ := κ) ⟨4, rfl⟩ T.z_isinstance ⟨5, rfl⟩ T.z_tuple boot_tuple' ?_
          refine we_name (i := 2) rfl rfl rfl ?_
          refine fin1 (f := fun u => isiM u "tuple") v_found_2 (vE (u := v_found_2)) ‹_› fun z3 h => ?_
          refine fin1 (f := boolM) z3 (vE (u := z3)) ‹_› fun b4 h => ?_
          refine ite_m ‹_› (fun h => ?_) (fun h => ?_)
          · refine ww_and ?_
            refine wt_gtM (κ := κ) ?_
            refine we_lenM (κ := κ) ⟨6, rfl⟩ T.z_len ?_
            refine we_name (i := 2) rfl rfl rfl ?_
            refine fin1 (f := lenM) v_found_2 (vE (u := v_found_2)) ‹_› fun z5 h => ?_
            refine we_int ?_
            refine fin2 (f := gtM) z5 (.int 1) (vE (u := z5)) (vE (u := .int 1)) ‹_› fun b6 h => ?_
            refine ite_m ‹_› (fun h => ?_) (fun h => ?_)
            · refine ww_and1 ?_
              refine wt_inM (κ := κ) ?_
              refine we_ixM (κ := κ) ?_
              refine we_name (i := 2) rfl rfl rfl ?_
              refine we_int ?_
              refine fin2 (f := ixM) v_found_2 (.int 0) (vE (u := v_found_2)) (vE (u := .int 0)) ‹_› fun z7 h => ?_
              refine we_f ?_
              refine wn_lst ?_
              refine wa_cons ?_ rfl
              refine we_str ?_
              refine wa_cons ?_ rfl
              refine we_str ?_
              refine wa_cons ?_ rfl
              refine we_str ?_
              refine wa_cons ?_ rfl
              refine we_str ?_
              refine wa_nil ?_
              refine ⟨szd (by decide : 4 < 10000000), ?_⟩
              refine fin2 (f := inM) z7 (.lst [.str "showing", .str "tree", .str "alike", .str "unlike"]) (vE (u := z7)) (vE (u := .lst [.str "showing", .str "tree", .str "alike", .str "unlike"])) ‹_› fun b8 h => ?_
              exact ⟨rfl, h⟩
            · exact ⟨rfl, h⟩
          · exact ⟨rfl, h⟩
        refine ite_m ‹_› (fun h => ?_) (fun h => ?_)
        · refine wss_cons ?_
          refine ws_set (i := 3) rfl rfl ?_ rfl
          refine we_str ?_
          refine wss_nil ?_
          exact ⟨(.str "told"), ⟨_, rfl, rfl⟩, h⟩
        · refine wss_nil ?_
          exact ⟨(.str "otherwise"), ⟨_, rfl, rfl⟩, h⟩
      · obtain ⟨y0, rfl, rfl⟩ := hs
        refine wss_cons ?_
        refine ws_ret ?_
        refine we_name (i := 3) rfl rfl rfl ?_
        exact rtV_v (u := v_word_10) h
    · refine wss_cons ?_
      refine ws_set (i := 3) rfl rfl ?_ rfl
      refine we_ixM (κ := κ) ?_
      refine we_f ?_
      refine wn_lst ?_
      refine wa_cons ?_ rfl
      refine we_str ?_
      refine wa_cons ?_ rfl
      refine we_str ?_
      refine wa_nil ?_
      refine ⟨szd (by decide : 2 < 10000000), ?_⟩
      refine we_intM (κ := κ) ⟨2, rfl⟩ T.z_int ?_
      refine we_callVW (κ := κ) hh__law_alone (Nat.le_refl _) ⟨3, rfl⟩ ?_
      refine wa_cons ?_ rfl
      refine we_name (i := 4) rfl rfl rfl ?_
      refine wa_nil ?_
      refine finFk (Γ := _) [.exc ec11 eu12] rfl rfl ‹_› fun z13 h => ?_
      refine fin1 (f := intM) z13 (vE (u := z13)) ‹_› fun z14 h => ?_
      refine fin2 (f := ixM) (.lst [.str "otherwise", .str "many"]) z14 (vE (u := .lst [.str "otherwise", .str "many"])) (vE (u := z14)) ‹_› fun z15 h => ?_
      refine wss_nil ?_
      refine wss_cons ?_
      refine ws_cutM (fun (st : U) (Γ : Pl.Env) (Λ : Cells) => ∃ (y0 : Option D), Γ = [some (em κ v_which), some (em κ v_claim_here), some (em κ .non), some (em κ st), y0] ∧ Λ = []) h (fun Q1 h => ?_) (fun v_word_23 Γ Λ hs h => ?_)
      · refine ws_if ?_
        refine wt_cutM ‹_› (fun Q1 h => ?_) (fun b22 h => ?_)
        · refine wt_ww (ww_and ?_)
          refine wt_valM (κ := κ) ?_
          refine we_isiM (κ := κ) ⟨4, rfl⟩ T.z_isinstance ⟨5, rfl⟩ T.z_tuple boot_tuple' ?_
          refine we_name (i := 2) rfl rfl rfl ?_
          refine fin1 (f := fun u => isiM u "tuple") .non (vE (u := .non)) ‹_› fun z16 h => ?_
          refine fin1 (f := boolM) z16 (vE (u := z16)) ‹_› fun b17 h => ?_
          refine ite_m ‹_› (fun h => ?_) (fun h => ?_)
          · refine ww_and ?_
            refine wt_gtM (κ := κ) ?_
            refine we_lenM (κ := κ) ⟨6, rfl⟩ T.z_len ?_
            refine we_name (i := 2) rfl rfl rfl ?_
            refine fin1 (f := lenM) .non (vE (u := .non)) ‹_› fun z18 h => ?_
            refine we_int ?_
            refine fin2 (f := gtM) z18 (.int 1) (vE (u := z18)) (vE (u := .int 1)) ‹_› fun b19 h => ?_
            refine ite_m ‹_› (fun h => ?_) (fun h => ?_)
            · refine ww_and1 ?_
              refine wt_inM (κ := κ) ?_
              refine we_ixM (κ := κ) ?_
              refine we_name (i := 2) rfl rfl rfl ?_
              refine we_int ?_
              refine fin2 (f := ixM) .non (.int 0) (vE (u := .non)) (vE (u := .int 0)) ‹_› fun z20 h => ?_
              refine we_f ?_
              refine wn_lst ?_
              refine wa_cons ?_ rfl
              refine we_str ?_
              refine wa_cons ?_ rfl
              refine we_str ?_
              refine wa_cons ?_ rfl
              refine we_str ?_
              refine wa_cons ?_ rfl
              refine we_str ?_
              refine wa_nil ?_
              refine ⟨szd (by decide : 4 < 10000000), ?_⟩
              refine fin2 (f := inM) z20 (.lst [.str "showing", .str "tree", .str "alike", .str "unlike"]) (vE (u := z20)) (vE (u := .lst [.str "showing", .str "tree", .str "alike", .str "unlike"])) ‹_› fun b21 h => ?_
              exact ⟨rfl, h⟩
            · exact ⟨rfl, h⟩
          · exact ⟨rfl, h⟩
        refine ite_m ‹_› (fun h => ?_) (fun h => ?_)
        · refine wss_cons ?_
          refine ws_set (i := 3) rfl rfl ?_ rfl
          refine we_str ?_
          refine wss_nil ?_
          exact ⟨(.str "told"), ⟨_, rfl, rfl⟩, h⟩
        · refine wss_nil ?_
          exact ⟨z15, ⟨_, rfl, rfl⟩, h⟩
      · obtain ⟨y0, rfl, rfl⟩ := hs
        refine wss_cons ?_
        refine ws_ret ?_
        refine we_name (i := 3) rfl rfl rfl ?_
        exact rtV_v (u := v_word_23) h

abbrev st_law : Stmt := topS 49
abbrev N_law : List Str := ["_law_script", "_law_cell", "_law_other", "_law_shown", "_law_many", "_law_first", "_law_left", "_law_right", "_law_claim_here", "_law_handed", "_law_dues", "_law_k", "_law_which"]
abbrev vs_law : List Bool := [true, true, true, true, true, true, true, true, true, true, true, true, true]
abbrev gl_law : List Str := ["_law_cell_at", "sum", "_law_row", "_law_claim", "list", "_law_due", "range", "_law_told"]
theorem sc_law : FnScope N_law ["_law_script"] (defScope st_law) := ⟨rfl, rfl, rfl, by decide +kernel, rfl, by decide +kernel, by decide +kernel⟩
theorem gd_law : goodC N_law (defScope st_law) vs_law vs_law gl_law = true := by decide +kernel
@[reducible] def cx_law (G : Gl) (k : Nat) : Pl.Ctx := G.cx N_law (defScope st_law) vs_law vs_law gl_law k

theorem ok_the_law (T : Tp G κ) (f : Addr) (fd : FuncData) (F : Fun G.K "law" "law" (topS 49) f fd) : FnG G.P G.w G.K G.mg G.base (L2.CX G.P G.w) (600 + 1) f fd ["_law_script"] (spOf G.K 1 (lawSpec 63)) := by
  have h__law_cell_at := ok__law_cell_at T 600
  have h__law_row := ok__law_row T 600
  have h__law_claim := ok__law_claim T 600
  have h__law_due := ok__law_due T 600
  have h__law_told := ok__law_told T 600
  refine law_M (κ := κ) (m := sh_law (600 + 1)) F sc_law gd_law (fun us hl Q Eh h => ?_) pure_law
  have hE : EI κ Eh (erM κ Eh) := EI.erM
  obtain ⟨v_script, rfl⟩ := len1 hl
  change WSs _ [some (em κ v_script), none, none, none, none, none, none, none, none, none, none, none, none] _ (_ :: _) _
  refine wss_cons ?_
  refine ws_set (i := 1) rfl rfl ?_ rfl
  refine we_callV (κ := κ) h__law_cell_at (Nat.le_refl _) ⟨0, rfl⟩ ?_
  refine wa_cons ?_ rfl
  refine we_name (i := 0) rfl rfl rfl ?_
  refine wa_cons ?_ rfl
  refine we_int ?_
  refine wa_nil ?_
  refine finF (Γ := _) [v_script, .int 0] rfl rfl hE ‹_› fun z1 h => ?_
  refine wss_cons ?_
  refine ws_set (i := 2) rfl rfl ?_ rfl
  refine we_callV (κ := κ) h__law_cell_at (Nat.le_refl _) ⟨0, rfl⟩ ?_
  refine wa_cons ?_ rfl
  refine we_name (i := 0) rfl rfl rfl ?_
  refine wa_cons ?_ rfl
  refine we_int ?_
  refine wa_nil ?_
  refine finF (Γ := _) [v_script, .int 1] rfl rfl hE ‹_› fun z2 h => ?_
  refine wss_cons ?_
  refine ws_set (i := 3) rfl rfl ?_ rfl
  refine we_f ?_
  refine wn_lst ?_
  refine wa_cons ?_ rfl
  refine we_modM (κ := κ) ?_
  refine we_name (i := 1) rfl rfl rfl ?_
  refine we_int ?_
  refine fin2 (f := modM) z1 (.int 4) (vE (u := z1)) (vE (u := .int 4)) ‹_› fun z3 h => ?_
  refine wa_cons ?_ rfl
  refine we_modM (κ := κ) ?_
  refine we_fdivM (κ := κ) ?_
  refine we_name (i := 1) rfl rfl rfl ?_
  refine we_int ?_
  refine fin2 (f := fdivM) z1 (.int 4) (vE (u := z1)) (vE (u := .int 4)) ‹_› fun z4 h => ?_
  refine we_int ?_
  refine fin2 (f := modM) z4 (.int 5) (vE (u := z4)) (vE (u := .int 5)) ‹_› fun z5 h => ?_
  refine wa_nil ?_
  refine ⟨szd (by decide : 2 < 10000000), ?_⟩
  refine wss_cons ?_
  refine ws_set (i := 4) rfl rfl ?_ rfl
  refine we_subM (κ := κ) ?_
  refine we_addM (κ := κ) ?_
  refine we_int ?_
  refine we_modM (κ := κ) ?_
  refine we_fdivM (κ := κ) ?_
  refine we_name (i := 1) rfl rfl rfl ?_
  refine we_int ?_
  refine fin2 (f := fdivM) z1 (.int 20) (vE (u := z1)) (vE (u := .int 20)) ‹_› fun z6 h => ?_
  refine we_int ?_
  refine fin2 (f := modM) z6 (.int 9) (vE (u := z6)) (vE (u := .int 9)) ‹_› fun z7 h => ?_
  refine fin2 (f := addM) (.int 34) z7 (vE (u := .int 34)) (vE (u := z7)) ‹_› fun z8 h => ?_
  refine we_sumM (κ := κ) ⟨1, rfl⟩ T.z_sum ?_
  refine we_name (i := 3) rfl rfl rfl ?_
  refine fin1 (f := sumM) (.lst [z3, z5]) (vE (u := .lst [z3, z5])) ‹_› fun z9 h => ?_
  refine fin2 (f := subM) z8 z9 (vE (u := z8)) (vE (u := z9)) ‹_› fun z10 h => ?_
  refine wss_cons ?_
  refine ws_set (i := 5) rfl rfl ?_ rfl
  refine we_addM (κ := κ) ?_
  refine we_int ?_
  refine we_modM (κ := κ) ?_
  refine we_name (i := 2) rfl rfl rfl ?_
  refine we_subM (κ := κ) ?_
  refine we_name (i := 4) rfl rfl rfl ?_
  refine we_int ?_
  refine fin2 (f := subM) z10 (.int 1) (vE (u := z10)) (vE (u := .int 1)) ‹_› fun z11 h => ?_
  refine fin2 (f := modM) z2 z11 (vE (u := z2)) (vE (u := z11)) ‹_› fun z12 h => ?_
  refine fin2 (f := addM) (.int 1) z12 (vE (u := .int 1)) (vE (u := z12)) ‹_› fun z13 h => ?_
  refine wss_cons ?_
  refine ws_set (i := 6) rfl rfl ?_ rfl
  refine we_callV (κ := κ) h__law_row (Nat.le_refl _) ⟨2, rfl⟩ ?_
  refine wa_cons ?_ rfl
  refine we_str ?_
  refine wa_cons ?_ rfl
  refine we_name (i := 5) rfl rfl rfl ?_
  refine wa_cons ?_ rfl
  refine we_ixM (κ := κ) ?_
  refine we_name (i := 3) rfl rfl rfl ?_
  refine we_int ?_
  refine fin2 (f := ixM) (.lst [z3, z5]) (.int 0) (vE (u := .lst [z3, z5])) (vE (u := .int 0)) ‹_› fun z14 h => ?_
  refine wa_cons ?_ rfl
  refine we_callV (κ := κ) h__law_cell_at (Nat.le_refl _) ⟨0, rfl⟩ ?_
  refine wa_cons ?_ rfl
  refine we_name (i := 0) rfl rfl rfl ?_
  refine wa_cons ?_ rfl
  refine we_int ?_
  refine wa_nil ?_
  refine finF (Γ := _) [v_script, .int 2] rfl rfl hE ‹_› fun z15 h => ?_
  refine wa_nil ?_
  refine finF (Γ := _) [.str "p", z13, z14, z15] rfl rfl hE ‹_› fun z16 h => ?_
  refine wss_cons ?_
  refine ws_set (i := 7) rfl rfl ?_ rfl
  refine we_callV (κ := κ) h__law_row (Nat.le_refl _) ⟨2, rfl⟩ ?_
  refine wa_cons ?_ rfl
  refine we_str ?_
  refine wa_cons ?_ rfl
  refine we_subM (κ := κ) ?_
  refine we_name (i := 4) rfl rfl rfl ?_
  refine we_name (i := 5) rfl rfl rfl ?_
  refine fin2 (f := subM) z10 z13 (vE (u := z10)) (vE (u := z13)) ‹_› fun z17 h => ?_
  refine wa_cons ?_ rfl
  refine we_ixM (κ := κ) ?_
  refine we_name (i := 3) rfl rfl rfl ?_
  refine we_int ?_
  refine fin2 (f := ixM) (.lst [z3, z5]) (.int 1) (vE (u := .lst [z3, z5])) (vE (u := .int 1)) ‹_› fun z18 h => ?_
  refine wa_cons ?_ rfl
  refine we_callV (κ := κ) h__law_cell_at (Nat.le_refl _) ⟨0, rfl⟩ ?_
  refine wa_cons ?_ rfl
  refine we_name (i := 0) rfl rfl rfl ?_
  refine wa_cons ?_ rfl
  refine we_int ?_
  refine wa_nil ?_
  refine finF (Γ := _) [v_script, .int 3] rfl rfl hE ‹_› fun z19 h => ?_
  refine wa_nil ?_
  refine finF (Γ := _) [.str "q", z17, z18, z19] rfl rfl hE ‹_› fun z20 h => ?_
  refine wss_cons ?_
  refine ws_set (i := 8) rfl rfl ?_ rfl
  refine we_callV (κ := κ) h__law_claim (Nat.le_refl _) ⟨3, rfl⟩ ?_
  refine wa_cons ?_ rfl
  refine we_addM (κ := κ) ?_
  refine we_f ?_
  refine wn_lst ?_
  refine wa_cons ?_ rfl
  refine we_name (i := 6) rfl rfl rfl ?_
  refine wa_nil ?_
  refine ⟨szd (by decide : 1 < 10000000), ?_⟩
  refine we_lmulM (κ := κ) ?_
  refine we_f ?_
  refine wn_lst ?_
  refine wa_cons ?_ rfl
  refine we_tup ?_
  refine wa_cons ?_ rfl
  refine we_str ?_
  refine wa_cons ?_ rfl
  refine we_str ?_
  refine wa_nil ?_
  refine ⟨szd (by decide : 2 < 10000000), ?_⟩
  refine wa_nil ?_
  refine ⟨szd (by decide : 1 < 10000000), ?_⟩
  refine we_modM (κ := κ) ?_
  refine we_fdivM (κ := κ) ?_
  refine we_name (i := 2) rfl rfl rfl ?_
  refine we_int ?_
  refine fin2 (f := fdivM) z2 (.int 40) (vE (u := z2)) (vE (u := .int 40)) ‹_› fun z21 h => ?_
  refine we_int ?_
  refine fin2 (f := modM) z21 (.int 2) (vE (u := z21)) (vE (u := .int 2)) ‹_› fun z22 h => ?_
  refine fin2 (f := lmulM) (.lst [.tup [.str "letter", .str "r"]]) z22 (vE (u := .lst [.tup [.str "letter", .str "r"]])) (vE (u := z22)) ‹_› fun z23 h => ?_
  refine fin2 (f := addM) (.lst [z16]) z23 (vE (u := .lst [z16])) (vE (u := z23)) ‹_› fun z24 h => ?_
  refine wa_cons ?_ rfl
  refine we_f ?_
  refine wn_lst ?_
  refine wa_cons ?_ rfl
  refine we_name (i := 7) rfl rfl rfl ?_
  refine wa_cons ?_ rfl
  refine we_tup ?_
  refine wa_cons ?_ rfl
  refine we_str ?_
  refine wa_cons ?_ rfl
  refine we_str ?_
  refine wa_nil ?_
  refine ⟨szd (by decide : 2 < 10000000), ?_⟩
  refine wa_nil ?_
  refine ⟨szd (by decide : 2 < 10000000), ?_⟩
  refine wa_nil ?_
  refine finF (Γ := _) [z24, .lst [z20, .tup [.str "letter", .str "r"]]] rfl rfl hE ‹_› fun z25 h => ?_
  refine wss_cons ?_
  refine ws_set (i := 9) rfl rfl ?_ rfl
  refine we_tup ?_
  refine wa_cons ?_ rfl
  refine we_f ?_
  refine wn_listM (κ := κ) ⟨4, rfl⟩ T.z_list ?_
  refine we_ixM (κ := κ) ?_
  refine we_name (i := 8) rfl rfl rfl ?_
  refine we_int ?_
  refine fin2 (f := ixM) z25 (.int 0) (vE (u := z25)) (vE (u := .int 0)) ‹_› fun z26 h => ?_
  refine fin1 (f := listM) z26 (vE (u := z26)) ‹_› fun z27 h => ?_
  refine wa_cons ?_ rfl
  refine we_f ?_
  refine wn_listM (κ := κ) ⟨4, rfl⟩ T.z_list ?_
  refine we_ixM (κ := κ) ?_
  refine we_name (i := 8) rfl rfl rfl ?_
  refine we_int ?_
  refine fin2 (f := ixM) z25 (.int 1) (vE (u := z25)) (vE (u := .int 1)) ‹_› fun z28 h => ?_
  refine fin1 (f := listM) z28 (vE (u := z28)) ‹_› fun z29 h => ?_
  refine wa_nil ?_
  refine ⟨szd (by decide : 2 < 10000000), ?_⟩
  refine wss_cons ?_
  refine ws_set (i := 10) rfl rfl (we_o ?_) rfl
  refine wn_lst ?_
  refine wa_cons ?_ rfl
  refine we_callV (κ := κ) h__law_due (Nat.le_refl _) ⟨5, rfl⟩ ?_
  refine wa_cons ?_ rfl
  refine we_name (i := 8) rfl rfl rfl ?_
  refine wa_nil ?_
  refine finF (Γ := _) [z25] rfl rfl hE ‹_› fun z30 h => ?_
  refine wa_cons ?_ rfl
  refine we_callV (κ := κ) h__law_due (Nat.le_refl _) ⟨5, rfl⟩ ?_
  refine wa_cons ?_ rfl
  refine we_tup ?_
  refine wa_cons ?_ rfl
  refine we_f ?_
  refine wn_lst ?_
  refine wa_nil ?_
  refine ⟨szd (by decide : 0 < 10000000), ?_⟩
  refine wa_cons ?_ rfl
  refine we_slM (κ := κ) ?_
  refine we_ixM (κ := κ) ?_
  refine we_name (i := 8) rfl rfl rfl ?_
  refine we_int ?_
  refine fin2 (f := ixM) z25 (.int 1) (vE (u := z25)) (vE (u := .int 1)) ‹_› fun z31 h => ?_
  refine we_negM (κ := κ) ?_
  refine we_int ?_
  refine fin1 (f := negM) (.int 1) (vE (u := .int 1)) ‹_› fun z32 h => ?_
  refine fin1 (f := endM) z32 (vE (u := z32)) ‹_› fun z33 h => ?_
  refine fin1 (f := fun u => slM u z33 none) z31 (vE (u := z31)) ‹_› fun z34 h => ?_
  refine wa_nil ?_
  refine ⟨szd (by decide : 2 < 10000000), ?_⟩
  refine wa_nil ?_
  refine finF (Γ := _) [.tup [.lst [], z34]] rfl rfl hE ‹_› fun z35 h => ?_
  refine wa_cons ?_ rfl
  refine we_callV (κ := κ) h__law_due (Nat.le_refl _) ⟨5, rfl⟩ ?_
  refine wa_cons ?_ rfl
  refine we_tup ?_
  refine wa_cons ?_ rfl
  refine we_ixM (κ := κ) ?_
  refine we_name (i := 8) rfl rfl rfl ?_
  refine we_int ?_
  refine fin2 (f := ixM) z25 (.int 0) (vE (u := z25)) (vE (u := .int 0)) ‹_› fun z36 h => ?_
  refine wa_cons ?_ rfl
  refine we_slM (κ := κ) ?_
  refine we_ixM (κ := κ) ?_
  refine we_name (i := 8) rfl rfl rfl ?_
  refine we_int ?_
  refine fin2 (f := ixM) z25 (.int 1) (vE (u := z25)) (vE (u := .int 1)) ‹_› fun z37 h => ?_
  refine we_negM (κ := κ) ?_
  refine we_int ?_
  refine fin1 (f := negM) (.int 1) (vE (u := .int 1)) ‹_› fun z38 h => ?_
  refine fin1 (f := endM) z38 (vE (u := z38)) ‹_› fun z39 h => ?_
  refine fin1 (f := fun u => slM u z39 none) z37 (vE (u := z37)) ‹_› fun z40 h => ?_
  refine wa_nil ?_
  refine ⟨szd (by decide : 2 < 10000000), ?_⟩
  refine wa_nil ?_
  refine finF (Γ := _) [.tup [z36, z40]] rfl rfl hE ‹_› fun z41 h => ?_
  refine wa_nil ?_
  refine ⟨szd (by decide : 3 < 10000000), ?_⟩
  refine wss_cons ?_
  refine ws_expr ?_
  refine we_appM (κ := κ) 0 ?_
  refine we_name (i := 10) rfl rfl rfl ?_
  refine ⟨rfl, ⟨[z30, z35, z41], rfl⟩, ?_⟩
  refine we_callV (κ := κ) h__law_due (Nat.le_refl _) ⟨5, rfl⟩ ?_
  refine wa_cons ?_ rfl
  refine we_tup ?_
  refine wa_cons ?_ rfl
  refine we_slM (κ := κ) ?_
  refine we_ixM (κ := κ) ?_
  refine we_name (i := 8) rfl rfl rfl ?_
  refine we_int ?_
  refine fin2 (f := ixM) z25 (.int 0) (vE (u := z25)) (vE (u := .int 0)) ‹_› fun z42 h => ?_
  refine we_negM (κ := κ) ?_
  refine we_int ?_
  refine fin1 (f := negM) (.int 1) (vE (u := .int 1)) ‹_› fun z43 h => ?_
  refine fin1 (f := endM) z43 (vE (u := z43)) ‹_› fun z44 h => ?_
  refine fin1 (f := fun u => slM u z44 none) z42 (vE (u := z42)) ‹_› fun z45 h => ?_
  refine wa_cons ?_ rfl
  refine we_slM (κ := κ) ?_
  refine we_ixM (κ := κ) ?_
  refine we_name (i := 8) rfl rfl rfl ?_
  refine we_int ?_
  refine fin2 (f := ixM) z25 (.int 1) (vE (u := z25)) (vE (u := .int 1)) ‹_› fun z46 h => ?_
  refine we_negM (κ := κ) ?_
  refine we_int ?_
  refine fin1 (f := negM) (.int 1) (vE (u := .int 1)) ‹_› fun z47 h => ?_
  refine fin1 (f := endM) z47 (vE (u := z47)) ‹_› fun z48 h => ?_
  refine fin1 (f := fun u => slM u z48 none) z46 (vE (u := z46)) ‹_› fun z49 h => ?_
  refine wa_nil ?_
  refine ⟨szd (by decide : 2 < 10000000), ?_⟩
  refine wa_nil ?_
  refine finF (Γ := _) [.tup [z45, z49]] rfl rfl hE ‹_› fun z50 h => ?_
  refine finA (f := appM) [z30, z35, z41] z50 rfl ‹_› fun l51 h => ?_
  refine wss_cons ?_
  refine ws_for [11] ?_
  refine wi_range1M (κ := κ) ⟨6, rfl⟩ T.z_range ?_
  refine we_int ?_
  refine fin1 (f := range1M) (.int 5) (vE (u := .int 5)) ‹_› fun it52 h => ?_
  refine loopC_m (ρ := U) (fun (st : Unit) (Γ : Pl.Env) (Λ : Cells) => ∃ (y0 : Option D) (y1 : Option D), Γ = [some (em κ v_script), some (em κ z1), some (em κ z2), some (em κ (.lst [z3, z5])), some (em κ z10), some (em κ z13), some (em κ z16), some (em κ z20), some (em κ z25), some (em κ (.tup [.lst z27, .lst z29])), some (.loc 0), y0, y1] ∧ Λ = [.lst (ems κ l51)]) (fun c r Λ => rtV κ (fun u => u = c) r Λ) h ⟨_, _, rfl, rfl⟩ (fun st x53 Γ Λ Q1 hs h => ?_) (fun st Γ Λ hs h => ?_) (fun c r Λ hr h => rtV_imp hr h)
  · obtain ⟨y0, y1, rfl, rfl⟩ := hs
    refine wg_name (i := 11) rfl rfl ?_
    refine wss_cons ?_
    refine ws_set (i := 12) rfl rfl ?_ rfl
    refine we_modM (κ := κ) ?_
    refine we_addM (κ := κ) ?_
    refine we_fdivM (κ := κ) ?_
    refine we_name (i := 2) rfl rfl rfl ?_
    refine we_int ?_
    refine fin2 (f := fdivM) z2 (.int 80) (vE (u := z2)) (vE (u := .int 80)) ‹_› fun z54 h => ?_
    refine we_name (i := 11) rfl rfl rfl ?_
    refine fin2 (f := addM) z54 x53 (vE (u := z54)) (vE (u := x53)) ‹_› fun z55 h => ?_
    refine we_int ?_
    refine fin2 (f := modM) z55 (.int 4) (vE (u := z55)) (vE (u := .int 4)) ‹_› fun z56 h => ?_
    refine wss_cons ?_
    refine ws_if ?_
    refine wt_cutM ‹_› (fun Q1 h => ?_) (fun b61 h => ?_)
    · refine wt_ww (ww_or ?_)
      refine wt_neM (κ := κ) ?_
      refine we_callV (κ := κ) h__law_told (Nat.le_refl _) ⟨7, rfl⟩ ?_
      refine wa_cons ?_ rfl
      refine we_name (i := 12) rfl rfl rfl ?_
      refine wa_cons ?_ rfl
      refine we_name (i := 9) rfl rfl rfl ?_
      refine wa_nil ?_
      refine finF (Γ := _) [z56, .tup [.lst z27, .lst z29]] rfl rfl hE ‹_› fun z57 h => ?_
      refine we_ixM (κ := κ) ?_
      refine we_name (i := 10) rfl rfl rfl ?_
      refine we_name (i := 12) rfl rfl rfl ?_
      refine fin2 (f := ixM) (.lst l51) z56 (vL rfl) (vE (u := z56)) ‹_› fun z58 h => ?_
      refine fin2 (f := (nB eqM)) z57 z58 (vE (u := z57)) (vE (u := z58)) ‹_› fun b59 h => ?_
      refine ite_m ‹_› (fun h => ?_) (fun h => ?_)
      · exact ⟨rfl, h⟩
      · refine ww_or1 ?_
        refine wt_neM (κ := κ) ?_
        refine we_name (i := 9) rfl rfl rfl ?_
        refine we_name (i := 8) rfl rfl rfl ?_
        refine fin2 (f := (nB eqM)) (.tup [.lst z27, .lst z29]) z25 (vE (u := .tup [.lst z27, .lst z29])) (vE (u := z25)) ‹_› fun b60 h => ?_
        exact ⟨rfl, h⟩
    refine ite_m ‹_› (fun h => ?_) (fun h => ?_)
    · refine wss_cons ?_
      refine ws_ret ?_
      refine we_bl ?_
      exact ⟨(.bl false), rtV_v (u := (.bl false)) rfl, h⟩
    · refine wss_nil ?_
      refine wss_nil ?_
      exact ⟨(), ⟨_, _, rfl, rfl⟩, h⟩
  · obtain ⟨y0, y1, rfl, rfl⟩ := hs
    refine wss_cons ?_
    refine ws_ret ?_
    refine we_bl ?_
    exact rtV_v (u := (.bl true)) h
end Law
set_option maxHeartbeats 0 in
theorem PySem.Challenge.cw_selfsay_k40_search_refused_holds : PySem.Challenge.rw_selfsay_k40_search_refused.Holds := by
  w_on; o_law; k_head; (case hw => w_witness2)
  k_fill
  refine Pl.law_end (n := 63) (k := 601) (x := "_law_script") (st := Law.topS 49) rfl (by decide) rfl ⟨rfl, rfl, by decide, by decide⟩ rfl (fun w h Y => PySem.W.kIn_of Y) ?F
  case F =>
    intro w mg h KX G
    have z_len : mg "len" = none := by
      refine' PySem.W.mg_none_of KX G ?z
      (case z => k_is)
    have z_list : mg "list" = none := by
      refine' PySem.W.mg_none_of KX G ?z
      (case z => k_is)
    have z_tuple : mg "tuple" = none := by
      refine' PySem.W.mg_none_of KX G ?z
      (case z => k_is)
    have z_sum : mg "sum" = none := by
      refine' PySem.W.mg_none_of KX G ?z
      (case z => k_is)
    have z_int : mg "int" = none := by
      refine' PySem.W.mg_none_of KX G ?z
      (case z => k_is)
    have z_isinstance : mg "isinstance" = none := by
      refine' PySem.W.mg_none_of KX G ?z
      (case z => k_is)
    have z_range : mg "range" = none := by
      refine' PySem.W.mg_none_of KX G ?z
      (case z => k_is)
    have z_sorted : mg "sorted" = none := by
      refine' PySem.W.mg_none_of KX G ?z
      (case z => k_is)
    have z_repr : mg "repr" = none := by
      refine' PySem.W.mg_none_of KX G ?z
      (case z => k_is)
    have z_ValueError : mg "ValueError" = none := by
      refine' PySem.W.mg_none_of KX G ?z
      (case z => k_is)
    refine' (have d_inner_of := Pl.defAt_mk (x := "inner_of") (st := Law.topS 11) (ps := ["saying"]) KX G (fun _ _ _ _ _ _ us hl => match us, hl with | [_], _ => rfl) ?a_1 ?l_1 ?c_1 ?k_1; ?rest_1)
    (case a_1 => k_is); (case l_1 => k_is); (case c_1 => k_is); (case k_1 => k_is)
    refine' (have d_gather := Pl.defAt_mk (x := "gather") (st := Law.topS 12) (ps := ["saying", "found"]) KX G (fun _ _ _ _ _ _ us hl => match us, hl with | [_, _], _ => rfl) ?a_2 ?l_2 ?c_2 ?k_2; ?rest_2)
    (case a_2 => k_is); (case l_2 => k_is); (case c_2 => k_is); (case k_2 => k_is)
    refine' (have d_each_once := Pl.defAt_mk (x := "each_once") (st := Law.topS 13) (ps := ["some"]) KX G (fun _ _ _ _ _ _ us hl => match us, hl with | [_], _ => rfl) ?a_3 ?l_3 ?c_3 ?k_3; ?rest_3)
    (case a_3 => k_is); (case l_3 => k_is); (case c_3 => k_is); (case k_3 => k_is)
    refine' (have d_parts_of := Pl.defAt_mk (x := "parts_of") (st := Law.topS 14) (ps := ["saying"]) KX G (fun _ _ _ _ _ _ us hl => match us, hl with | [_], _ => rfl) ?a_4 ?l_4 ?c_4 ?k_4; ?rest_4)
    (case a_4 => k_is); (case l_4 => k_is); (case c_4 => k_is); (case k_4 => k_is)
    refine' (have d_shown_parts := Pl.defAt_mk (x := "shown_parts") (st := Law.topS 15) (ps := ["saying"]) KX G (fun _ _ _ _ _ _ us hl => match us, hl with | [_], _ => rfl) ?a_5 ?l_5 ?c_5 ?k_5; ?rest_5)
    (case a_5 => k_is); (case l_5 => k_is); (case c_5 => k_is); (case k_5 => k_is)
    refine' (have d_unlike := Pl.defAt_mk (x := "unlike") (st := Law.topS 18) (ps := ["sayings"]) KX G (fun _ _ _ _ _ _ us hl => match us, hl with | [_], _ => rfl) ?a_6 ?l_6 ?c_6 ?k_6; ?rest_6)
    (case a_6 => k_is); (case l_6 => k_is); (case c_6 => k_is); (case k_6 => k_is)
    refine' (have d_claim_of := Pl.defAt_mk (x := "claim_of") (st := Law.topS 19) (ps := ["left", "right"]) KX G (fun _ _ _ _ _ _ us hl => match us, hl with | [_, _], _ => rfl) ?a_7 ?l_7 ?c_7 ?k_7; ?rest_7)
    (case a_7 => k_is); (case l_7 => k_is); (case c_7 => k_is); (case k_7 => k_is)
    refine' (have d_claim_parts := Pl.defAt_mk (x := "claim_parts") (st := Law.topS 20) (ps := ["claim"]) KX G (fun _ _ _ _ _ _ us hl => match us, hl with | [_], _ => rfl) ?a_8 ?l_8 ?c_8 ?k_8; ?rest_8)
    (case a_8 => k_is); (case l_8 => k_is); (case c_8 => k_is); (case k_8 => k_is)
    refine' (have d_claim_shown := Pl.defAt_mk (x := "claim_shown") (st := Law.topS 21) (ps := ["claim"]) KX G (fun _ _ _ _ _ _ us hl => match us, hl with | [_], _ => rfl) ?a_9 ?l_9 ?c_9 ?k_9; ?rest_9)
    (case a_9 => k_is); (case l_9 => k_is); (case c_9 => k_is); (case k_9 => k_is)
    refine' (have d_without := Pl.defAt_mk (x := "without") (st := Law.topS 22) (ps := ["sayings", "saying"]) KX G (fun _ _ _ _ _ _ us hl => match us, hl with | [_, _], _ => rfl) ?a_10 ?l_10 ?c_10 ?k_10; ?rest_10)
    (case a_10 => k_is); (case l_10 => k_is); (case c_10 => k_is); (case k_10 => k_is)
    refine' (have d_from_left := Pl.defAt_mk (x := "from_left") (st := Law.topS 23) (ps := ["left", "right", "saying"]) KX G (fun _ _ _ _ _ _ us hl => match us, hl with | [_, _, _], _ => rfl) ?a_11 ?l_11 ?c_11 ?k_11; ?rest_11)
    (case a_11 => k_is); (case l_11 => k_is); (case c_11 => k_is); (case k_11 => k_is)
    refine' (have d_from_right := Pl.defAt_mk (x := "from_right") (st := Law.topS 24) (ps := ["left", "right", "saying"]) KX G (fun _ _ _ _ _ _ us hl => match us, hl with | [_, _, _], _ => rfl) ?a_12 ?l_12 ?c_12 ?k_12; ?rest_12)
    (case a_12 => k_is); (case l_12 => k_is); (case c_12 => k_is); (case k_12 => k_is)
    refine' (have d_further_up := Pl.defAt_mk (x := "further_up") (st := Law.topS 25) (ps := ["left", "saying"]) KX G (fun _ _ _ _ _ _ us hl => match us, hl with | [_, _], _ => rfl) ?a_13 ?l_13 ?c_13 ?k_13; ?rest_13)
    (case a_13 => k_is); (case l_13 => k_is); (case c_13 => k_is); (case k_13 => k_is)
    refine' (have d_needed := Pl.defAt_mk (x := "needed") (st := Law.topS 26) (ps := ["claim", "rule", "saying"]) KX G (fun _ _ _ _ _ _ us hl => match us, hl with | [_, _, _], _ => rfl) ?a_14 ?l_14 ?c_14 ?k_14; ?rest_14)
    (case a_14 => k_is); (case l_14 => k_is); (case c_14 => k_is); (case k_14 => k_is)
    refine' (have d_rooms_of := Pl.defAt_mk (x := "rooms_of") (st := Law.topS 32) (ps := ["tree"]) KX G (fun _ _ _ _ _ _ us hl => match us, hl with | [_], _ => rfl) ?a_15 ?l_15 ?c_15 ?k_15; ?rest_15)
    (case a_15 => k_is); (case l_15 => k_is); (case c_15 => k_is); (case k_15 => k_is)
    refine' (have d_searched := Pl.defAt_mk (x := "searched") (st := Law.topS 33) (ps := ["claim"]) KX G (fun _ _ _ _ _ _ us hl => match us, hl with | [_], _ => rfl) ?a_16 ?l_16 ?c_16 ?k_16; ?rest_16)
    (case a_16 => k_is); (case l_16 => k_is); (case c_16 => k_is); (case k_16 => k_is)
    refine' (have d_judged := Pl.defAt_mk (x := "judged") (st := Law.topS 35) (ps := ["saying"]) KX G (fun _ _ _ _ _ _ us hl => match us, hl with | [_], _ => rfl) ?a_17 ?l_17 ?c_17 ?k_17; ?rest_17)
    (case a_17 => k_is); (case l_17 => k_is); (case c_17 => k_is); (case k_17 => k_is)
    refine' (have d_follows := Pl.defAt_mk (x := "follows") (st := Law.topS 36) (ps := ["givens", "saying"]) KX G (fun _ _ _ _ _ _ us hl => match us, hl with | [_, _], _ => rfl) ?a_18 ?l_18 ?c_18 ?k_18; ?rest_18)
    (case a_18 => k_is); (case l_18 => k_is); (case c_18 => k_is); (case k_18 => k_is)
    refine' (have d_alike := Pl.defAt_mk (x := "alike") (st := Law.topS 37) (ps := ["one", "other"]) KX G (fun _ _ _ _ _ _ us hl => match us, hl with | [_, _], _ => rfl) ?a_19 ?l_19 ?c_19 ?k_19; ?rest_19)
    (case a_19 => k_is); (case l_19 => k_is); (case c_19 => k_is); (case k_19 => k_is)
    refine' (have d__law_unlike := Pl.defAt_mk (x := "_law_unlike") (st := Law.topS 39) (ps := ["_law_some"]) KX G (fun _ _ _ _ _ _ us hl => match us, hl with | [_], _ => rfl) ?a_20 ?l_20 ?c_20 ?k_20; ?rest_20)
    (case a_20 => k_is); (case l_20 => k_is); (case c_20 => k_is); (case k_20 => k_is)
    refine' (have d__law_cell_at := Pl.defAt_mk (x := "_law_cell_at") (st := Law.topS 40) (ps := ["_law_script", "_law_k"]) KX G (fun _ _ _ _ _ _ us hl => match us, hl with | [_, _], _ => rfl) ?a_21 ?l_21 ?c_21 ?k_21; ?rest_21)
    (case a_21 => k_is); (case l_21 => k_is); (case c_21 => k_is); (case k_21 => k_is)
    refine' (have d__law_claim := Pl.defAt_mk (x := "_law_claim") (st := Law.topS 41) (ps := ["_law_left", "_law_right"]) KX G (fun _ _ _ _ _ _ us hl => match us, hl with | [_, _], _ => rfl) ?a_22 ?l_22 ?c_22 ?k_22; ?rest_22)
    (case a_22 => k_is); (case l_22 => k_is); (case c_22 => k_is); (case k_22 => k_is)
    refine' (have d__law_parts := Pl.defAt_mk (x := "_law_parts") (st := Law.topS 42) (ps := ["_law_saying"]) KX G (fun _ _ _ _ _ _ us hl => match us, hl with | [_], _ => rfl) ?a_23 ?l_23 ?c_23 ?k_23; ?rest_23)
    (case a_23 => k_is); (case l_23 => k_is); (case c_23 => k_is); (case k_23 => k_is)
    refine' (have d__law_claim_parts := Pl.defAt_mk (x := "_law_claim_parts") (st := Law.topS 43) (ps := ["_law_claim_here"]) KX G (fun _ _ _ _ _ _ us hl => match us, hl with | [_], _ => rfl) ?a_24 ?l_24 ?c_24 ?k_24; ?rest_24)
    (case a_24 => k_is); (case l_24 => k_is); (case c_24 => k_is); (case k_24 => k_is)
    refine' (have d__law_row := Pl.defAt_mk (x := "_law_row") (st := Law.topS 44) (ps := ["_law_letter", "_law_many", "_law_shown", "_law_cell"]) KX G (fun _ _ _ _ _ _ us hl => match us, hl with | [_, _, _, _], _ => rfl) ?a_25 ?l_25 ?c_25 ?k_25; ?rest_25)
    (case a_25 => k_is); (case l_25 => k_is); (case c_25 => k_is); (case k_25 => k_is)
    refine' (have d__law_alone := Pl.defAt_mk (x := "_law_alone") (st := Law.topS 45) (ps := ["_law_e"]) KX G (fun _ _ _ _ _ _ us hl => match us, hl with | [_], _ => rfl) ?a_26 ?l_26 ?c_26 ?k_26; ?rest_26)
    (case a_26 => k_is); (case l_26 => k_is); (case c_26 => k_is); (case k_26 => k_is)
    refine' (have d__law_asked := Pl.defAt_mk (x := "_law_asked") (st := Law.topS 46) (ps := ["_law_which", "_law_claim_here"]) KX G (fun _ _ _ _ _ _ us hl => match us, hl with | [_, _], _ => rfl) ?a_27 ?l_27 ?c_27 ?k_27; ?rest_27)
    (case a_27 => k_is); (case l_27 => k_is); (case c_27 => k_is); (case k_27 => k_is)
    refine' (have d__law_told := Pl.defAt_mk (x := "_law_told") (st := Law.topS 47) (ps := ["_law_which", "_law_claim_here"]) KX G (fun _ _ _ _ _ _ us hl => match us, hl with | [_, _], _ => rfl) ?a_28 ?l_28 ?c_28 ?k_28; ?rest_28)
    (case a_28 => k_is); (case l_28 => k_is); (case c_28 => k_is); (case k_28 => k_is)
    refine' (have d__law_due := Pl.defAt_mk (x := "_law_due") (st := Law.topS 48) (ps := ["_law_claim_here"]) KX G (fun _ _ _ _ _ _ us hl => match us, hl with | [_], _ => rfl) ?a_29 ?l_29 ?c_29 ?k_29; ?rest_29)
    (case a_29 => k_is); (case l_29 => k_is); (case c_29 => k_is); (case k_29 => k_is)
    refine' (have d_law := Pl.defAt_mk (x := "law") (st := Law.topS 49) (ps := ["_law_script"]) KX G (fun _ _ _ _ _ _ us hl => match us, hl with | [_], _ => rfl) ?a_30 ?l_30 ?c_30 ?k_30; ?rest_30)
    (case a_30 => k_is); (case l_30 => k_is); (case c_30 => k_is); (case k_30 => k_is)
    refine' (have q_NoRule := PySem.W.mg_of (n := "NoRule") KX G ?a_31; ?rest_31)
    (case a_31 => k_is)
    have g_NoRule := Sh.gAt q_NoRule
    refine' (have q_TooMany := PySem.W.mg_of (n := "TooMany") KX G ?a_32; ?rest_32)
    (case a_32 => k_is)
    have g_TooMany := Sh.gAt q_TooMany
    refine' (have q_SayError := PySem.W.mg_of (n := "SayError") KX G ?a_33; ?rest_33)
    (case a_33 => k_is)
    have g_SayError := Sh.gAt q_SayError
    refine' (have q_NoSaying := PySem.W.mg_of (n := "NoSaying") KX G ?a_34; ?rest_34)
    (case a_34 => k_is)
    have g_NoSaying := Sh.gAt q_NoSaying
    refine' (have q_NoTree := PySem.W.mg_of (n := "NoTree") KX G ?a_35; ?rest_35)
    (case a_35 => k_is)
    have g_NoTree := Sh.gAt q_NoTree
    refine' (have q_HasLetter := PySem.W.mg_of (n := "HasLetter") KX G ?a_36; ?rest_36)
    (case a_36 => k_is)
    have g_HasLetter := Sh.gAt q_HasLetter
    refine' (have q_Outside := PySem.W.mg_of (n := "Outside") KX G ?a_37; ?rest_37)
    (case a_37 => k_is)
    have g_Outside := Sh.gAt q_Outside
    refine' (have q_NoLine := PySem.W.mg_of (n := "NoLine") KX G ?a_38; ?rest_38)
    (case a_38 => k_is)
    have g_NoLine := Sh.gAt q_NoLine
    refine' (have q_Nothing := PySem.W.mg_of (n := "Nothing") KX G ?a_39; ?rest_39)
    (case a_39 => k_is)
    have g_Nothing := Sh.gAt q_Nothing
    refine' (have x_NoRule_f := Sh.excAt (x := "NoRule") (fs := (fun c => (List.lookup c ([("NoSaying", ["place"]), ("NoTree", ["room"]), ("HasLetter", ["letter"])] : List (PySem.Str × List PySem.Str))).getD [])) KX q_NoRule ?xq_40 ?k_40 ?b_40 ?t_40; ?rest_40)
    (case xq_40 => k_exc); (case k_40 => k_is); (case b_40 => k_is); (case t_40 => k_is)
    have x_NoRule := x_NoRule_f (by decide +kernel)
    refine' (have x_TooMany_f := Sh.excAt (x := "TooMany") (fs := (fun c => (List.lookup c ([("NoSaying", ["place"]), ("NoTree", ["room"]), ("HasLetter", ["letter"])] : List (PySem.Str × List PySem.Str))).getD [])) KX q_TooMany ?xq_41 ?k_41 ?b_41 ?t_41; ?rest_41)
    (case xq_41 => k_exc); (case k_41 => k_is); (case b_41 => k_is); (case t_41 => k_is)
    have x_TooMany := x_TooMany_f (by decide +kernel)
    refine' (have xc_NoRule := Sh.excCAt (x := "NoRule") KX q_NoRule ?hg_42 ?hk_42 ?hs_42 ?hd_42 ?ha_42 ?hn_42 ?ht_42 ?hm_42; ?rest_42)
    (case hg_42 => k_is); (case hk_42 => k_is); (case hs_42 => k_is); (case hd_42 => k_is); (case ha_42 => k_is); (case hn_42 => k_is); (case ht_42 => k_is); (case hm_42 => k_is)
    refine' (have xc_TooMany := Sh.excCAt (x := "TooMany") KX q_TooMany ?hg_43 ?hk_43 ?hs_43 ?hd_43 ?ha_43 ?hn_43 ?ht_43 ?hm_43; ?rest_43)
    (case hg_43 => k_is); (case hk_43 => k_is); (case hs_43 => k_is); (case hd_43 => k_is); (case ha_43 => k_is); (case hn_43 => k_is); (case ht_43 => k_is); (case hm_43 => k_is)
    refine' (have ki_NoRule_NoRule := Sh.kitXX (b := true) KX q_NoRule q_NoRule ?me_44; ?rest_44)
    (case me_44 => kit_is)
    refine' (have ki_NoRule_TooMany := Sh.kitXX (b := false) KX q_TooMany q_NoRule ?me_45; ?rest_45)
    (case me_45 => kit_is)
    have xi_NoRule : ∀ q ∈ ([("NoRule", true), ("TooMany", false)] : List (PySem.Str × Bool)), L2.ExcC _ (Sh.adOf mg q.1) ∧ PySem.W.kitOne _ (.ref (Sh.adOf mg q.1)) (.ref (Sh.adOf mg "NoRule")) = some q.2 := (List.forall_mem_cons.mpr ⟨⟨xc_NoRule, ki_NoRule_NoRule⟩, (List.forall_mem_cons.mpr ⟨⟨xc_TooMany, ki_NoRule_TooMany⟩, (fun _ hh => absurd hh List.not_mem_nil)⟩)⟩)
    refine' (have ki_NoSaying_NoRule := Sh.kitXX (b := false) KX q_NoRule q_NoSaying ?me_46; ?rest_46)
    (case me_46 => kit_is)
    refine' (have ki_NoSaying_TooMany := Sh.kitXX (b := false) KX q_TooMany q_NoSaying ?me_47; ?rest_47)
    (case me_47 => kit_is)
    have xi_NoSaying : ∀ q ∈ ([("NoRule", false), ("TooMany", false)] : List (PySem.Str × Bool)), L2.ExcC _ (Sh.adOf mg q.1) ∧ PySem.W.kitOne _ (.ref (Sh.adOf mg q.1)) (.ref (Sh.adOf mg "NoSaying")) = some q.2 := (List.forall_mem_cons.mpr ⟨⟨xc_NoRule, ki_NoSaying_NoRule⟩, (List.forall_mem_cons.mpr ⟨⟨xc_TooMany, ki_NoSaying_TooMany⟩, (fun _ hh => absurd hh List.not_mem_nil)⟩)⟩)
    refine' (have ki_NoTree_NoRule := Sh.kitXX (b := false) KX q_NoRule q_NoTree ?me_48; ?rest_48)
    (case me_48 => kit_is)
    refine' (have ki_NoTree_TooMany := Sh.kitXX (b := false) KX q_TooMany q_NoTree ?me_49; ?rest_49)
    (case me_49 => kit_is)
    have xi_NoTree : ∀ q ∈ ([("NoRule", false), ("TooMany", false)] : List (PySem.Str × Bool)), L2.ExcC _ (Sh.adOf mg q.1) ∧ PySem.W.kitOne _ (.ref (Sh.adOf mg q.1)) (.ref (Sh.adOf mg "NoTree")) = some q.2 := (List.forall_mem_cons.mpr ⟨⟨xc_NoRule, ki_NoTree_NoRule⟩, (List.forall_mem_cons.mpr ⟨⟨xc_TooMany, ki_NoTree_TooMany⟩, (fun _ hh => absurd hh List.not_mem_nil)⟩)⟩)
    refine' (have ki_HasLetter_NoRule := Sh.kitXX (b := false) KX q_NoRule q_HasLetter ?me_50; ?rest_50)
    (case me_50 => kit_is)
    refine' (have ki_HasLetter_TooMany := Sh.kitXX (b := false) KX q_TooMany q_HasLetter ?me_51; ?rest_51)
    (case me_51 => kit_is)
    have xi_HasLetter : ∀ q ∈ ([("NoRule", false), ("TooMany", false)] : List (PySem.Str × Bool)), L2.ExcC _ (Sh.adOf mg q.1) ∧ PySem.W.kitOne _ (.ref (Sh.adOf mg q.1)) (.ref (Sh.adOf mg "HasLetter")) = some q.2 := (List.forall_mem_cons.mpr ⟨⟨xc_NoRule, ki_HasLetter_NoRule⟩, (List.forall_mem_cons.mpr ⟨⟨xc_TooMany, ki_HasLetter_TooMany⟩, (fun _ hh => absurd hh List.not_mem_nil)⟩)⟩)
    refine' (have ki_TooMany_NoRule := Sh.kitXX (b := false) KX q_NoRule q_TooMany ?me_52; ?rest_52)
    (case me_52 => kit_is)
    refine' (have ki_TooMany_TooMany := Sh.kitXX (b := true) KX q_TooMany q_TooMany ?me_53; ?rest_53)
    (case me_53 => kit_is)
    have xi_TooMany : ∀ q ∈ ([("NoRule", false), ("TooMany", true)] : List (PySem.Str × Bool)), L2.ExcC _ (Sh.adOf mg q.1) ∧ PySem.W.kitOne _ (.ref (Sh.adOf mg q.1)) (.ref (Sh.adOf mg "TooMany")) = some q.2 := (List.forall_mem_cons.mpr ⟨⟨xc_NoRule, ki_TooMany_NoRule⟩, (List.forall_mem_cons.mpr ⟨⟨xc_TooMany, ki_TooMany_TooMany⟩, (fun _ hh => absurd hh List.not_mem_nil)⟩)⟩)
    refine' (have ki_Outside_NoRule := Sh.kitXX (b := false) KX q_NoRule q_Outside ?me_54; ?rest_54)
    (case me_54 => kit_is)
    refine' (have ki_Outside_TooMany := Sh.kitXX (b := false) KX q_TooMany q_Outside ?me_55; ?rest_55)
    (case me_55 => kit_is)
    have xi_Outside : ∀ q ∈ ([("NoRule", false), ("TooMany", false)] : List (PySem.Str × Bool)), L2.ExcC _ (Sh.adOf mg q.1) ∧ PySem.W.kitOne _ (.ref (Sh.adOf mg q.1)) (.ref (Sh.adOf mg "Outside")) = some q.2 := (List.forall_mem_cons.mpr ⟨⟨xc_NoRule, ki_Outside_NoRule⟩, (List.forall_mem_cons.mpr ⟨⟨xc_TooMany, ki_Outside_TooMany⟩, (fun _ hh => absurd hh List.not_mem_nil)⟩)⟩)
    refine' (have ki_NoLine_NoRule := Sh.kitXX (b := false) KX q_NoRule q_NoLine ?me_56; ?rest_56)
    (case me_56 => kit_is)
    refine' (have ki_NoLine_TooMany := Sh.kitXX (b := false) KX q_TooMany q_NoLine ?me_57; ?rest_57)
    (case me_57 => kit_is)
    have xi_NoLine : ∀ q ∈ ([("NoRule", false), ("TooMany", false)] : List (PySem.Str × Bool)), L2.ExcC _ (Sh.adOf mg q.1) ∧ PySem.W.kitOne _ (.ref (Sh.adOf mg q.1)) (.ref (Sh.adOf mg "NoLine")) = some q.2 := (List.forall_mem_cons.mpr ⟨⟨xc_NoRule, ki_NoLine_NoRule⟩, (List.forall_mem_cons.mpr ⟨⟨xc_TooMany, ki_NoLine_TooMany⟩, (fun _ hh => absurd hh List.not_mem_nil)⟩)⟩)
    refine' (have ki_Nothing_NoRule := Sh.kitXX (b := false) KX q_NoRule q_Nothing ?me_58; ?rest_58)
    (case me_58 => kit_is)
    refine' (have ki_Nothing_TooMany := Sh.kitXX (b := false) KX q_TooMany q_Nothing ?me_59; ?rest_59)
    (case me_59 => kit_is)
    have xi_Nothing : ∀ q ∈ ([("NoRule", false), ("TooMany", false)] : List (PySem.Str × Bool)), L2.ExcC _ (Sh.adOf mg q.1) ∧ PySem.W.kitOne _ (.ref (Sh.adOf mg q.1)) (.ref (Sh.adOf mg "Nothing")) = some q.2 := (List.forall_mem_cons.mpr ⟨⟨xc_NoRule, ki_Nothing_NoRule⟩, (List.forall_mem_cons.mpr ⟨⟨xc_TooMany, ki_Nothing_TooMany⟩, (fun _ hh => absurd hh List.not_mem_nil)⟩)⟩)
    refine' (have ki_ValueError_NoRule := Sh.kitXT (b := true) (T := "ValueError") KX q_NoRule ?me_60; ?rest_60)
    (case me_60 => kit_is)
    refine' (have ki_ValueError_TooMany := Sh.kitXT (b := true) (T := "ValueError") KX q_TooMany ?me_61; ?rest_61)
    (case me_61 => kit_is)
    have xi_ValueError : ∀ q ∈ ([("NoRule", true), ("TooMany", true)] : List (PySem.Str × Bool)), L2.ExcC _ (Sh.adOf mg q.1) ∧ PySem.W.kitOne _ (.ref (Sh.adOf mg q.1)) (.type "ValueError") = some q.2 := (List.forall_mem_cons.mpr ⟨⟨xc_NoRule, ki_ValueError_NoRule⟩, (List.forall_mem_cons.mpr ⟨⟨xc_TooMany, ki_ValueError_TooMany⟩, (fun _ hh => absurd hh List.not_mem_nil)⟩)⟩)
    refine' (have km_SayError_NoRule := Sh.exmXX KX q_NoRule q_SayError ?h1_62 ?hd_62 ?ht_62 ?h4_62; ?rest_62)
    (case h1_62 => k_is); (case hd_62 => k_is); (case ht_62 => k_is); (case h4_62 => k_is)
    refine' (have km_SayError_TooMany := Sh.exmXX KX q_TooMany q_SayError ?h1_63 ?hd_63 ?ht_63 ?h4_63; ?rest_63)
    (case h1_63 => k_is); (case hd_63 => k_is); (case ht_63 => k_is); (case h4_63 => k_is)
    have xt_SayError : ∀ c ∈ ([("NoRule", 0), ("TooMany", 0)] : List (PySem.Str × Nat)), PySem.W.exmOne _ (.ref (Sh.adOf mg c.1)) (.ref (Sh.adOf mg "SayError")) = some true ∧ ((fun c => (List.lookup c ([("NoSaying", ["place"]), ("NoTree", ["room"]), ("HasLetter", ["letter"])] : List (PySem.Str × List PySem.Str))).getD []) c.1).length = c.2 := (List.forall_mem_cons.mpr ⟨⟨km_SayError_NoRule, (by decide +kernel)⟩, (List.forall_mem_cons.mpr ⟨⟨km_SayError_TooMany, (by decide +kernel)⟩, (fun _ hh => absurd hh List.not_mem_nil)⟩)⟩)
    refine' (have q_Search := PySem.W.mg_of (n := "Search") KX G ?a_64; ?rest_64)
    (case a_64 => k_is)
    have g_Search := Sh.gAt q_Search
    refine' (have kls_Search := Sh.srAt (x := "Search") KX q_Search ?pg_65 ?hd_65 ?po_65 ?sa_65 ?n1_65 ?n2_65; ?rest_65)
    (case pg_65 => k_is); (case hd_65 => k_is); (case po_65 => k_is); (case sa_65 => k_is); (case n1_65 => k_is); (case n2_65 => k_is)
    refine' (have d_Search_init := Sh.iAt (x := "Search") (qual := "Search.__init__") (st := (L2.inClass (Law.topS 31) 0)) (ps := ["self"]) KX q_Search (fun _ _ _ _ _ _ us hl => match us, hl with | [_], _ => rfl) ?a_66 ?l_66 ?c_66 ?k_66 ?i_66 ?mk_66 ?kc_66; ?rest_66)
    (case a_66 => k_is); (case l_66 => k_is); (case c_66 => k_is); (case k_66 => k_is); (case i_66 => k_is); (case mk_66 => k_is); (case kc_66 => k_is)
    refine' (have d_Search_found_for := Sh.mAt (x := "Search") (m := "found_for") (qual := "Search.found_for") (st := (L2.inClass (Law.topS 31) 1)) (ps := ["self", "claim"]) KX q_Search (fun _ _ _ _ _ _ us hl => match us, hl with | [_, _], _ => rfl) ?a_67 ?l_67 ?c_67 ?k_67 ?i_67; ?rest_67)
    (case a_67 => k_is); (case l_67 => k_is); (case c_67 => k_is); (case k_67 => k_is); (case i_67 => k_is)
    refine' (have d_Search_told := Sh.mAt (x := "Search") (m := "told") (qual := "Search.told") (st := (L2.inClass (Law.topS 31) 2)) (ps := ["self", "claim", "rule", "saying", "uses"]) KX q_Search (fun _ _ _ _ _ _ us hl => match us, hl with | [_, _, _, _, _], _ => rfl) ?a_68 ?l_68 ?c_68 ?k_68 ?i_68; ?rest_68)
    (case a_68 => k_is); (case l_68 => k_is); (case c_68 => k_is); (case k_68 => k_is); (case i_68 => k_is)
    refine' (have d_Search_looked := Sh.mAt (x := "Search") (m := "looked") (qual := "Search.looked") (st := (L2.inClass (Law.topS 31) 3)) (ps := ["self", "claim"]) KX q_Search (fun _ _ _ _ _ _ us hl => match us, hl with | [_, _], _ => rfl) ?a_69 ?l_69 ?c_69 ?k_69 ?i_69; ?rest_69)
    (case a_69 => k_is); (case l_69 => k_is); (case c_69 => k_is); (case k_69 => k_is); (case i_69 => k_is)
    refine' (have d_Search_broken := Sh.mAt (x := "Search") (m := "broken") (qual := "Search.broken") (st := (L2.inClass (Law.topS 31) 4)) (ps := ["self", "claim", "rule", "saying"]) KX q_Search (fun _ _ _ _ _ _ us hl => match us, hl with | [_, _, _, _], _ => rfl) ?a_70 ?l_70 ?c_70 ?k_70 ?i_70; ?rest_70)
    (case a_70 => k_is); (case l_70 => k_is); (case c_70 => k_is); (case k_70 => k_is); (case i_70 => k_is)
    refine' (have d_Search_gone_up := Sh.mAt (x := "Search") (m := "gone_up") (qual := "Search.gone_up") (st := (L2.inClass (Law.topS 31) 5)) (ps := ["self", "claim"]) KX q_Search (fun _ _ _ _ _ _ us hl => match us, hl with | [_, _], _ => rfl) ?a_71 ?l_71 ?c_71 ?k_71 ?i_71; ?rest_71)
    (case a_71 => k_is); (case l_71 => k_is); (case c_71 => k_is); (case k_71 => k_is); (case i_71 => k_is)
    refine' (have c_BROKEN := Sh.tup4At_mk (x := "BROKEN") (s1 := "not") (s2 := "and") (s3 := "or") (s4 := "if") KX G ?a_72 ?l_72; ?rest_72)
    (case a_72 => k_is); (case l_72 => k_is)
    refine' (have c_MOST_PARTS := Sh.intAt_mk (x := "MOST_PARTS") KX G ?a_73; ?rest_73)
    (case a_73 => k_is)
    refine' (have c_MOST_SHOWN := Sh.intAt_mk (x := "MOST_SHOWN") KX G ?a_74; ?rest_74)
    (case a_74 => k_is)
    refine' (have c_NEVER := Sh.tupAt_mk (x := "NEVER") KX G ?a_75 ?l_75; ?rest_75)
    (case a_75 => k_is); (case l_75 => k_is)
    exact ⟨d_law, fun base KB GB f fd F => Law.ok_the_law (G := ⟨_, w, _, mg, base⟩) (κ := ⟨Sh.adOf mg, (fun c => (List.lookup c ([("NoSaying", ["place"]), ("NoTree", ["room"]), ("HasLetter", ["letter"])] : List (PySem.Str × List PySem.Str))).getD [])⟩) ⟨z_len, z_list, z_tuple, z_sum, z_int, z_isinstance, z_range, z_sorted, z_repr, z_ValueError, d_inner_of, d_gather, d_each_once, d_parts_of, d_shown_parts, d_unlike, d_claim_of, d_claim_parts, d_claim_shown, d_without, d_from_left, d_from_right, d_further_up, d_needed, d_rooms_of, d_searched, d_judged, d_follows, d_alike, d__law_unlike, d__law_cell_at, d__law_claim, d__law_parts, d__law_claim_parts, d__law_row, d__law_alone, d__law_asked, d__law_told, d__law_due, d_law, g_NoRule, g_TooMany, g_SayError, g_NoSaying, g_NoTree, g_HasLetter, g_Outside, g_NoLine, g_Nothing, x_NoRule, x_TooMany, xc_NoRule, xc_TooMany, xi_NoRule, xi_NoSaying, xi_NoTree, xi_HasLetter, xi_TooMany, xi_Outside, xi_NoLine, xi_Nothing, xi_ValueError, xt_SayError, g_Search, kls_Search, d_Search_init, d_Search_found_for, d_Search_told, d_Search_looked, d_Search_broken, d_Search_gone_up, c_BROKEN, c_MOST_PARTS, c_MOST_SHOWN, c_NEVER⟩ f fd F⟩

