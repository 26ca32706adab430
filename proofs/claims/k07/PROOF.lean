import PyProof.Rows.All
import HandS.EndBits
import HandS.CallSlots
import HandS.ExcOwn
import HandS.WordsExc
import PyProof.ReprRoads
import HandS.Iter
import HandS.TupAny
import HandS.List
import Wide.All
import OpenK.AllK
import Wide.FinOn
import HandS.ForMost
import HandS.ForExc
import HandS.Wide
import HandS.Flow
import HandS.Zip
import KE.DataEq
import HandS.Lambda
import HandS.IsInst
import HandS.EndTab
import HandS.SortKw
import PyProof.MinMaxWalk
import PyProof.WalkInts
import HandS.Text
import HandS.TupLe
import HandS.More
import HandS.DictEq
import HandS.DeepEq
import KE.LtSeq
import KE.LtData
import HandS.SortOrd
import HandS.SortRule
import HandS.RevRange
import HandS.Rev
import HandS.Deep
import HandS.Replace
import KE.GoesMore
import HandS.ClsMeth
import HandS.Conv
import HandS.Codes
import KE.KExcIs
import HandS.ExcIs
import HandS.ExcField
import HandS.TryOnly
import PyProof.StrBlock2
import PyProof.Draws
import PyProof.EnumMake
import HandS.ExcInit
import HandS.ReplaceLit
import HandS.StrMore
import PyProof.StrLawsReplace
import KE.SortKeyHeap
import KE.DataFind
import KE.SortData
import KE.KDictSum
import KE.KDictList
import HandS.ExcValue
import PySem.Challenge.RW_selfsay_k07_no_saying
set_option Elab.async false
set_option linter.all false
set_option maxRecDepth 100000
set_option maxHeartbeats 4000000
/-! Pl0: promises of defs that may count on no repr being under way, and on one frame for one call. -/
namespace L2
open PySem PySem.Spec PyProof.Rows
/-- room for k calls within one another; no repr is under way -/
structure RoomW (k : Nat) (A : Around) : Prop where
  gd : A.guards = some []
  dp : A.depth + k + 8 < recursionLimit
  un : A.units + 4 * k + 220 < cLine
structure RoomG (k : Nat) (A : Around) : Prop where
  hd : A.handled = none
  gd : A.guards = some []
  dp : A.depth + k + 8 < recursionLimit
  un : A.units + 4 * k + 220 < cLine
theorem RoomG.w {k : Nat} {A : Around} (r : RoomG k A) : RoomW k A := ⟨r.gd, r.dp, r.un⟩
theorem RoomG.mono {j k : Nat} {A : Around} (r : RoomG k A) (h : j ≤ k) : RoomG j A := ⟨r.hd, r.gd, by have := r.dp; omega, by have := r.un; omega⟩
theorem RoomG.deeper {k : Nat} {A : Around} (r : RoomG (k + 1) A) (env : Env) : RoomG k (A.deeper env) :=
  ⟨r.hd, r.gd, by have := r.dp; show A.depth + 1 + k + 8 < _; omega, by have := r.un; show A.units + 3 + 4 * k + 220 < _; omega⟩
theorem RoomG.depth {k : Nat} {A : Around} (r : RoomG k A) : A.depth < recursionLimit := by have := r.dp; omega
theorem RoomG.units {k : Nat} {A : Around} (r : RoomG k A) : A.units + 64 < cLine := by have := r.un; omega
/-- room in the library's own sense -/
theorem RoomG.room {n k : Nat} {A : Around} (r : RoomG n A) (h : 4 * k ≤ n) : Room k A := ⟨r.hd, by have := r.dp; omega, by have := r.un; omega⟩
structure FnG (P : Program) (w : World) (K : PySem.W.Frag) (mg : Str → Option Value) (base : Heap) (CX : CXT) (k : Nat) (f : Addr) (fd : FuncData) (ps : List Str) (sp : Sp) : Prop where
  len : ∀ vs H Q E, sp vs H Q E → vs.length = ps.length
  run : ∀ (A : Around) (outer : List Env) (s : Shared) (H : Hp) (args : Args) (us : List Value) (vs : List V) (Q : VK) (E : XK), RoomG k A → Env0 P w K mg base A outer s H → BindsTo s fd args (ps.zip us) → Vals vs us → sp vs H Q E →
    codeAny (model P w) A (.call (.ref f) args) (CR CX outer P w H s Q E) s
theorem FnG.mono {P : Program} {w : World} {K : PySem.W.Frag} {mg : Str → Option Value} {base : Heap} {CX : CXT} {j k : Nat} {f : Addr} {fd : FuncData} {ps : List Str} {sp : Sp} (F : FnG P w K mg base CX j f fd ps sp) (h : j ≤ k) :
    FnG P w K mg base CX k f fd ps sp := ⟨F.len, fun A outer s H args us vs Q E hr => F.run A outer s H args us vs Q E (hr.mono h)⟩
section
variable {X : Cx} {CX : CXT} {k : Nat} {f C : Addr} {fd : FuncData} {ps : List Str} {sp : Sp} {dvs : List V} {ds : List Value} {E : XK} {x m : Str} {p pos apos : Pos} {e o : Expr} {es : List Expr} {ta : TE} {t : TA}
end
section
variable {X : Cx} {CX : CXT} {k : Nat} {f : Addr} {fd : FuncData} {ps : List Str} {sp : Sp} {dvs : List V} {ds : List Value} {E : St → XK} {x : Str} {p pos : Pos} {e : Expr} {es : List Expr} {t : TA}
theorem run_fnSDG {pins : List (Addr × Obj)} {σ : St} {H : Hp} {s : Shared} {Q : VK} {us : List Value} {vs : List V} (F : FnG X.prog X.w X.K X.mg X.base CX k f fd ps sp) (hr : RoomG k X.A) (hb : Binds X.K fd ps ds) (hd : Vals dvs ds) (hx : PassesAt CX X σ (E σ))
    (I : Inv X pins σ H s) (r : Vals vs us) (h : sp (vs ++ dvs) H Q (E σ)) : wpAny (model X.prog X.w) X.A (call (.ref f) us) (EP X pins σ Q) X.xe s := by
  have r2 : Vals (vs ++ dvs) (us ++ ds) := r.append hd
  have hl : (us ++ ds).length = ps.length := by rw [← r2.length]; exact F.len _ _ _ _ h
  refine wpAny_call (codeAny_mono (F.run X.A X.stack s H ⟨us, []⟩ (us ++ ds) (vs ++ dvs) Q (E σ) hr I.env0 (hb s us I.kIn hl) r2 h) fun r s' hq => ?_)
  cases r with
  | error e => exact hx pins H s e s' I hq
  | ok fl =>
    cases fl with
    | ret u => exact I.after hq
    | next => exact False.elim hq
    | brk => exact False.elim hq
    | cont => exact False.elim hq
theorem pe_callSDG (F : FnG X.prog X.w X.K X.mg X.base CX k f fd ps sp) (hr : RoomG k X.A) (hg : Gl X x) (hm : X.mg x = some (.ref f)) (hk : PySem.W.keepIn X.K (.ref f) = true) (hb : Binds X.K fd ps ds) (hd : Vals dvs ds) (hx : ∀ σ, PassesAt CX X σ (E σ))
    (ha : PA X (e :: es) t) (hdb : (x == ("__debug__" : Str)) = false := by decide) (he : starEach (e :: es) X.env = (false, eval e X.env) :: starEach es X.env := by rfl) (hpl : (backTo pos (starEach es X.env)).any (·.1) = false := by rfl) :
    PE X (.Call (.Name x p) (e :: es) [] pos) (tCallSD sp dvs E t) := by
  refine ⟨fun pins s σ H Q I h => ?_⟩
  refine wpAny_Call_Name_kw (ld_glob I hg hm ?_ hdb)
  refine PySem.W.callWith_K (h₀ := X.base) I.ok.mod.kin hk (thn (ha.run pos pins s σ H _ I h) fun us s1 ⟨vs, H1, I1, r, q⟩ => ⟨I1.kIn, ?_⟩) he hpl
  exact run_fnSDG F hr hb hd (hx σ) I1 r q
end
theorem fn_ofG {CX : CXT} {P : Program} {w : World} {K : PySem.W.Frag} {mg : Str → Option Value} {base : Heap} {k : Nat} {f : Addr} {name qual : Str} {params : Arguments} {body : List Stmt} {scope : Scope} {dV kV doc pm cdv ct oc : Value} {an od : Option Addr}
    {osl : Array (Option Value)} {N ps : List Str} {sp : Sp} (lk : K.lookup f = some ⟨oc, od, .func (PySem.W.fnOf name qual params body scope dV kV doc pm an cdv ct), osl⟩) (hcd : PySem.W.codeIn K cdv qual = true) (S : FnScope N ps scope)
    (len : ∀ vs H Q E, sp vs H Q E → vs.length = ps.length)
    (hbody : ∀ (A : Around) (outer : List Env) (s : Shared) (H : Hp) (vs : List V) (Q : VK) (E : XK), RoomG k (A.deeper (envOfC qual scope s.heap.objs.size f cdv)) → sp vs H Q E →
      ∃ t, PSs (cxOf CX P w K mg base N qual scope f cdv A outer s H E) body t ∧ t { nx := fun _ H' => Q .non H', rt := Q } (start N vs) H) :
    FnG P w K mg base CX (k + 1) f (PySem.W.fnOf name qual params body scope dV kV doc pm an cdv ct) ps sp := by
  refine ⟨len, fun A outer s H args us vs Q E hr e0 hb r hsp => ?_⟩
  have hl := len _ _ _ _ hsp
  have KX : K.In s.heap := e0.mod.kin.keeps fun b o e => (e0.bs b o e).1
  have lim : s.heap.NoLimit := e0.mod.nolimit.keeps fun b o e => (e0.bs b o e).1
  have hkind : ∀ y ∈ ps.zip us, scope.names.lookup y.1 = some .local ∨ (scope.names.lookup y.1 = some .cell ∧ ((cellsFrom (s.heap.objs.size + 1) scope.names []).lookup y.1).isSome = true) := fun ⟨n, v⟩ hy => by
    rcases S.par n (List.of_mem_zip hy).1 with q | q
    · exact .inl q
    · exact .inr ⟨q, PySem.W.cellsFrom_some _ _ _ (.inl q)⟩
  refine codeAny_call_function hr.depth (KX _ _ lk) rfl S.co S.gen rfl (PySem.W.codeRec_of KX hcd) (hb _ _ _ _ ?_)
  refine wpAny_newFunctionEnv_cells S.kind hkind fun env he s1 x => ?_
  subst he
  refine ⟨lim.keeps x.toInCall.keep, codeAny_func ?_⟩
  obtain ⟨t, ht, hq⟩ := hbody A outer s H vs Q E (hr.deeper _) hsp
  have I : Inv (cxOf CX P w K mg base N qual scope f cdv A outer s H E) [] (start N vs) H s1 := inv_start S hr.hd e0 hl r x
  refine wpAny_mono (ht.run [] s1 (start N vs) H _ I hq) (fun fl s' hs => ?_) fun e s' hs => hs
  have fin : ∀ {σ' : St} {H' : Hp} {v : V} {u : Value}, Inv (cxOf CX P w K mg base N qual scope f cdv A outer s H E) [] σ' H' s' → RelV v u → Q v H' → CE outer P w H s Q u s' :=
    fun {σ' H' v u} J rv q => ⟨v, H', J.os, J.bare, J.base, J.hok, rv, q⟩
  cases fl with
  | ret u =>
    obtain ⟨v, σ', H', J, rv, q⟩ := hs
    exact fin J rv q
  | next =>
    obtain ⟨σ', H', J, q⟩ := hs
    exact fin (v := V.non) (u := Value.none) J rfl q
  | brk =>
    obtain ⟨_, _, _, q⟩ := hs
    exact False.elim q
  | cont =>
    obtain ⟨_, _, _, q⟩ := hs
    exact False.elim q
section
variable {P : Program} {w : World} {K : PySem.W.Frag} {mg : Str → Option Value} {base : Heap}
theorem Fun.okXG {x qual : Str} {st : Stmt} {f : Addr} {fd : FuncData} {N ps : List Str} {k : Nat} {sp : Sp} (F : Fun K x qual st f fd) (S : FnScope N ps (defScope st)) (len : ∀ vs H Q E, sp vs H Q E → vs.length = ps.length)
    (hbody : ∀ (cdv : Value) (A : Around) (outer : List Env) (s : Shared) (H : Hp) (vs : List V) (Q : VK) (E : XK), fd.code = cdv → RoomG k (A.deeper (envOfC qual (defScope st) s.heap.objs.size f cdv)) → sp vs H Q E →
      ∃ t, PSs (cxOf (L2.CX P w) P w K mg base N qual (defScope st) f cdv A outer s H E) (defBody st) t ∧ t { nx := fun _ H' => Q .non H', rt := Q } (start N vs) H) : FnG P w K mg base (L2.CX P w) (k + 1) f fd ps sp := by
  obtain ⟨oc, od, kV, doc, pm, an, cdv, ct, osl, rfl, lk, hcd⟩ := F.ex
  exact fn_ofG lk hcd S len fun A outer s H vs Q E hr hsp => hbody cdv A outer s H vs Q E rfl hr hsp
end
theorem law_callG {P : Program} {w : World} {K : PySem.W.Frag} {mg mb : Str → Option Value} {CX : CXT} {k : Nat} {fa a : Addr} {fd : FuncData} {x : Str} {sp : Sp} {s₁ : Shared} {vs : List Value} {ns : List Int}
    (KX : K.In s₁.heap) (hns : s₁.heap.Ns mainGlobals mg) (hb : s₁.heap.Ns builtinsNs mb) (hbb : ∀ x : Str, x ≠ "__name__" → mb x = bootBuiltins x) (hlim : s₁.heap.NoLimit) (hg : s₁.gens = #[])
    (ha : s₁.heap.get? a = some { cls := .type "list", data := .seq vs.toArray }) (hi : IntsAre vs ns) (hl : ns.length ≤ sizeLine) (hr : RoomG k callerA)
    (F : ∀ base : Heap, K.In base → base.Ns mainGlobals mg → FnG P w K mg base CX k fa fd [x] sp) (hbind : ∀ (s : Shared) (u : Value), BindsTo s fd ⟨[u], []⟩ [(x, u)])
    (hsp : ∀ H : Hp, Only H → SqL K H a (ns.map V.int) → sp [.ref a] H (fun v _ => v = .bl true) fun _ _ _ => False)
    (hCX : ∀ H e s', CX [] H s₁ (fun _ _ _ => False) e s' → False) :
    codeAny (model P w) callerA (.call (.ref fa) ⟨[.ref a], []⟩) (fun r s' => r = .ok (.ret (.bool true)) ∧ OldK s₁.heap s'.heap ∧ s'.os = s₁.os ∧ AllBare s'.gens) s₁ := by
  have rv := vals_ints hi
  have lenV := hi.length
  -- from an abstract heap in which nothing but the script may be tracked
  have core : ∀ H : Hp, Only H → SqL K H a (ns.map V.int) → HOk P w H s₁.heap → (∀ b, H b ≠ none → b = a) → (H a ≠ none → K.lookup a = none) →
      codeAny (model P w) callerA (.call (.ref fa) ⟨[.ref a], []⟩) (fun r s' => r = .ok (.ret (.bool true)) ∧ OldK s₁.heap s'.heap ∧ s'.os = s₁.os ∧ AllBare s'.gens) s₁ := by
    intro H hO hS hok hA hK
    have base_of : ∀ {b : Addr} {o : Obj}, s₁.heap.get? b = some o → H b = none → (hidT s₁.heap H).get? b = some o := fun e n => hidT_get e n
    have noA : ∀ {b : Addr} {o : Obj} {es : Array DictEntry} {ep : Nat}, s₁.heap.get? b = some o → o.data = .dict es ep → H b = none := fun {b o es ep} e d => by
      cases q : H b with
      | none => rfl
      | some u =>
        have e' : b = a := hA b (by rw [q]; simp)
        subst e'
        rw [ha] at e; cases e
        have d' : Data.seq vs.toArray _ = Data.dict es ep := d
        cases d'
    have nsK : ∀ {b : Addr} {m : Str → Option Value}, s₁.heap.Ns b m → (hidT s₁.heap H).Ns b m := fun {b m} ⟨o, es, ep, e, d, r⟩ => ⟨o, es, ep, base_of e (noA e d), d, r⟩
    have hKb : K.In (hidT s₁.heap H) := fun b o e => base_of (KX b o e) (by
      cases q : H b with
      | none => rfl
      | some u =>
        have e' : b = a := hA b (by rw [q]; simp)
        subst e'
        rw [hK (by rw [q]; simp)] at e; cases e)
    have hM : Mod K mg (hidT s₁.heap H) := ⟨hKb, nsK hns, ⟨mb, nsK hb, hbb⟩, let ⟨mc, h1, h2⟩ := hlim; ⟨mc, nsK h1, h2⟩⟩
    have e0 : Env0 P w K mg (hidT s₁.heap H) callerA [] s₁ H := ⟨rfl, hM, fun b o e => of_hidT e, Nat.le_of_eq (hidT_size _ _), trivial, fun b hb => absurd (show b ∈ ([] : List Addr) from hb) (by simp), hok, .of_eq hg⟩
    refine codeAny_mono ((F _ hKb (nsK hns)).run callerA [] s₁ H ⟨[.ref a], []⟩ [.ref a] [.ref a] _ _ hr e0 (hbind s₁ (.ref a)) (.cons rfl .nil) (hsp H hO hS)) fun r s' h => ?_
    cases r with
    | error e => exact (hCX H e s' h).elim
    | ok fl =>
      cases fl with
      | next => exact False.elim h
      | brk => exact False.elim h
      | cont => exact False.elim h
      | ret u =>
        obtain ⟨v, H', os, bare, un, hok', r', q⟩ := h
        have q' : v = .bl true := q
        subst q'
        obtain rfl : u = Value.bool true := r'
        refine ⟨rfl, OldK.of_keep fun b o e => ?_, os, bare⟩
        cases q : H b with
        | none => exact un.keep b o e q (by intro z; exact absurd (show b ∈ ([] : List Addr) from z) (by simp)) (by simp)
        | some u =>
          rcases hO b with z | ⟨ob, xs, z⟩
          · rw [q] at z; cases z
          · have z2 := un.frzs b ob _ z
            obtain ⟨e1, _⟩ := hok b _ z
            obtain ⟨e2, _⟩ := hok' b _ z2
            rw [e] at e1; cases e1
            exact e2
  cases hk : K.lookup a with
  | some o =>
    -- the script is one of the module's own objects
    have e := KX a o hk
    rw [ha] at e
    cases e
    refine core (fun _ => none) (fun _ => .inl rfl) (.inr ⟨_, vs.toArray, _, hk, rfl, rfl, rfl, by rw [List.size_toArray, lenV]; exact hl, by simpa using rv⟩) (fun b u z => by have z' : (none : Option HO) = some u := z; cases z') (fun b z => absurd rfl z) fun z => absurd rfl z
  | none =>
    refine core (fun b => if b = a then some (.frz { cls := .type "list", data := .seq vs.toArray } (.lst (ns.map V.int))) else none) (fun b => ?_) (.inl (.inr ⟨{ cls := .type "list", data := .seq vs.toArray }, if_pos rfl⟩)) (fun b u z => ?_) (fun b z => ?_) fun _ => hk
    · by_cases hb : b = a
      · exact .inr ⟨_, _, if_pos hb⟩
      · exact .inl (if_neg hb)
    · by_cases hb : b = a
      · have z' := (if_pos hb).symm.trans z
        cases z'
        subst hb
        exact ⟨ha, by rw [List.length_map]; exact hl, vs, _, rv, ha⟩
      · have z' := (if_neg hb).symm.trans z
        cases z'
    · by_cases hb : b = a
      · exact hb
      · exact absurd (if_neg hb) z
theorem walk_ofG {l : PySem.W.OpenLaw} {n k : Nat} {q : Program} {loose : List Str} {XP : (Str → Option Value) → Heap → Prop} {YP : World → Heap → Prop} {d : DefRec} {K : Params → PySem.W.Frag} {CX : World → CXT} {sp : World → Sp} {x : Str}
    (hn : l.most = some n) (hn2 : n ≤ sizeLine) (hdf : d.params.defaults = []) (hr : RoomG k callerA)
    (hY : ∀ (w : World) (h : Heap), YP w h → (K w.params).In h)
    (F : ∀ (w : World) (mg : Str → Option Value) (fa : Addr) (h : Heap), (K w.params).In h → h.Ns mainGlobals mg → mg d.name = some (.ref fa) →
      ∃ fd : FuncData, (∀ (s : Shared) (u : Value), BindsTo s fd ⟨[u], []⟩ [(x, u)]) ∧
        ∀ base : Heap, (K w.params).In base → base.Ns mainGlobals mg → FnG l.prog w (K w.params) mg base (CX w) k fa fd [x] (sp w))
    (hsp : ∀ (w : World) (H : Hp) (a : Addr) (ns : List Int), ns.length ≤ n → Only H → SqL (K w.params) H a (ns.map V.int) → sp w [.ref a] H (fun v _ => v = .bl true) fun _ _ _ => False)
    (hCX : ∀ (w : World) (H : Hp) (s : Shared) (e : Value) (s' : Shared), CX w [] H s (fun _ _ _ => False) e s' → False) :
    PySem.W.WalkO q loose XP YP l.row.toRowW d [] (fun f vs => PySem.call f vs) := by
  refine Att.attach_call hn hdf fun w s₀ s₁ mg mb fa o pm cd doc a vs ns G Y ho hd hcd hmg hobj hints hlen hg => ?_
  have KX := hY w _ Y
  obtain ⟨fd, hb, hF⟩ := F w mg fa _ KX G.T.g hmg
  exact law_callG KX G.T.g G.T.b G.T.builtins G.T.nolimit hg hobj hints (Nat.le_trans hlen hn2) hr hF hb (fun H hO hS => hsp w H a ns hlen hO hS) fun H e s' => hCX w H s₁ e s'
end L2

/-! Pl0x: tuples made anew, known to their objects. -/
namespace L2
open PySem PySem.Spec PyProof.Rows HT
/-- an object of the class tuple, made anew -/
def tupO (its : List Value) : Obj := { cls := .type "tuple", data := .seq its.toArray }
theorem tupX_ok {P : Program} {w : World} {H : Hp} {h : Heap} {a : Addr} {xs : List V} {its : List Value} (z : xs.length ≤ sizeLine) (r : Vals xs its) (e : h.get? a = some (tupO its)) : ObjOk P w H h a (.frz (tupO its) (.tup xs)) := ⟨e, z, its, r, _, e, rfl, _, rfl⟩
section
variable {X : Cx} {e : Expr} {es : List Expr} {te : TE} {t : TA} {pos : Pos}
def tTupX (t : TA) : TE := fun σ H Q => t σ H fun xs H1 => xs.length ≤ sizeLine ∧ ∀ p its, H1 p = none → Q (.ref p) (upd H1 p (.frz (tupO its) (.tup xs)))
theorem pe_tupX {x1} (h : PA X es t) : PE X (.Tuple es x1 pos) (tTupX t) := by
  refine ⟨fun pins s σ H Q I hq => ?_⟩
  refine wpAny_Tuple_spliced (thn (h.run pos pins s σ H _ I hq) fun us s1 ⟨xs, H1, I1, r, z, q⟩ => ⟨by rw [← r.length]; exact z, ?_⟩)
  have hf : H1 s1.heap.objs.size = none := I1.hok.fresh (Nat.le_refl _)
  exact ⟨.ref s1.heap.objs.size, upd H1 s1.heap.objs.size (.frz (tupO us) (.tup xs)), I1.laid (t' := s1.toks) (fun b u e => Heap.get?_push_of_some _ e) (Nat.le_refl _) (tupX_ok z r (Heap.get?_push_size _ rfl)), rfl, q _ us hf⟩
/-- t + u -/
def rCatX (K : PySem.W.Frag) : R2 := fun x y H Q => ∃ a b xs ys, x = .ref a ∧ y = .ref b ∧ SqT K H a xs ∧ SqT K H b ys ∧ xs.length + ys.length ≤ sizeLine ∧
  (xs = [] → Q (.ref b) H) ∧ (xs ≠ [] → ys = [] → Q (.ref a) H) ∧ (xs ≠ [] → ys ≠ [] → ∀ p its, H p = none → Q (.ref p) (upd H p (.frz (tupO its) (.tup (xs ++ ys)))))
theorem op_catX : OpR X (binaryOp .Add) (rCatX X.K) := by
  intro pins s σ H x y v u Q I rx ry h
  obtain ⟨a, b, xs, ys, rfl, rfl, ha, hb, hz, q0, q1, q2⟩ := h
  cases rx
  cases ry
  obtain ⟨its, r1, p1, _⟩ := I.tuple ha
  obtain ⟨its2, r2, p2, _⟩ := I.tuple hb
  by_cases hx : xs = []
  · subst hx
    cases r1
    exact cat_tup0 p1 p2 ⟨.ref b, H, I, rfl, q0 rfl⟩
  · refine HT.cat_tup p1 p2 (fun z => hx (r1.nil_iff.mp z)) (fun z => ⟨.ref a, H, I, rfl, q1 hx (r2.nil_iff.mp z)⟩) (fun z => ?_) (by rw [← r1.length, ← r2.length]; exact hz)
    exact ⟨.ref s.heap.objs.size, _, I.laid (t' := s.toks) (o := .frz (tupO (its ++ its2)) (.tup (xs ++ ys))) (fun b ob q => Heap.get?_push_of_some _ q) (Nat.le_refl _) (tupX_ok (by rw [List.length_append]; exact hz) (r1.append r2) (Heap.get?_push_size _ rfl)), rfl, q2 hx (fun w => z (r2.nil_iff.mpr w)) _ _ (I.hok.fresh (Nat.le_refl _))⟩
/-- t[lo:hi]: the whole of it is t itself -/
def rSlX (K : PySem.W.Frag) : V → Option Int → Option Int → Hp → VK → Prop := fun x lo hi H Q => ∃ a xs, x = .ref a ∧ SqT K H a xs ∧
  (HT.sIx xs.length 0 lo = 0 ∧ HT.sIx xs.length xs.length hi = xs.length → Q (.ref a) H) ∧ (¬ (HT.sIx xs.length 0 lo = 0 ∧ HT.sIx xs.length xs.length hi = xs.length) → ∀ p its, H p = none → Q (.ref p) (upd H p (.frz (tupO its) (.tup (cutV xs lo hi)))))
theorem sl_tupX : SlR X (rSlX X.K) := by
  intro pins s σ H x v vl vu lo hi sl Q I rx hs pl pu h
  obtain ⟨a, xs, rfl, hx, q1, q2⟩ := h
  cases rx
  obtain ⟨its, r, ht, hz⟩ := I.tuple hx
  have hlen : its.toArray.size = xs.length := by rw [List.size_toArray]; exact r.length.symm
  refine ⟨"tuple", _, PyProof.Rows.slot_tuple_getitem.lookup, ht.typeIs, ?_⟩
  by_cases hw : HT.sIx xs.length 0 lo = 0 ∧ HT.sIx xs.length xs.length hi = xs.length
  · exact getItem_tuple_whole ht hs pl pu (by rw [hlen]; exact hw) ⟨.ref a, H, I, rfl, q1 hw⟩
  · refine HT.getItem_tuple_cut ht hs pl pu (by rw [hlen]; exact hw) ?_ (by rw [hlen]; exact hz)
    rw [hlen]
    exact ⟨.ref s.heap.objs.size, _, I.laid (t' := s.toks) (o := .frz (tupO _) (.tup (cutV xs lo hi))) (fun b ob q => Heap.get?_push_of_some _ q) (Nat.le_refl _) (tupX_ok (Nat.le_trans (cutV_length xs lo hi) hz) ((r.drop (HT.sIx xs.length 0 lo)).take (HT.sIx xs.length xs.length hi - HT.sIx xs.length 0 lo)) (Heap.get?_push_size _ rfl)), rfl, q2 hw _ _ (I.hok.fresh (Nat.le_refl _))⟩
end
end L2

/-! Pl: a layer over HandS: pure data D, cells, and judgements by weakest wishes over them. -/
namespace Pl
open PySem L2 PyProof.Rows

/-! ### data -/
/-- a datum: immutable things as trees; `loc n` is the n-th mutable thing that is owned -/
inductive D where
  | non | bl (b : Bool) | int (i : Int) | str (s : Str)
  | tup (ds : List D) | lst (ds : List D) | fzl (ds : List D)
  | loc (n : Nat) | raw (v : V)
  | ins (C : Addr) (ns : List Str) (ds : List D)
  | dic (ks : List Key) (ds : List D)
  | exc (C : Addr) (ns : List Str) (ds : List D)
  deriving Inhabited
/-- at a: an exception of the class at C, its dict at d -/
def excHO (C a : Addr) (d : Option Addr) : HO := .ext fun h => ∃ (oe : Obj) (vs : Array Value), h.get? a = some oe ∧ Zc (.ref C) d oe ∧ oe.data = .fields vs

/-- extension of heaps -/
def Ex (H H' : Hp) : Prop := ∀ a o, H a = some o → H' a = some o
theorem Ex.refl (H : Hp) : Ex H H := fun _ _ h => h
theorem Ex.trans {H H1 H2 : Hp} (a : Ex H H1) (b : Ex H1 H2) : Ex H H2 := fun x o h => b x o (a x o h)
theorem Ex.new {H : Hp} {p : Addr} {o : HO} (h : H p = none) : Ex H (upd H p o) := fun a u e => by
  rw [upd_ne (ne_of_none e h)]; exact e
theorem Ex.back {H H' : Hp} {p : Addr} (e : Ex H H') (h : H' p = none) : H p = none := by
  cases h1 : H p with
  | none => rfl
  | some o => rw [e p o h1] at h; cases h
theorem Ex.rd {H H' : Hp} {a : Addr} {u : HO} (e : Ex H H') (h : Rd H a u) : Rd H' a u := by
  rcases h with h | ⟨o, h⟩
  · exact .inl (e a _ h)
  · exact .inr ⟨o, e a _ h⟩
theorem Ex.sqL {K : PySem.W.Frag} {H H' : Hp} {a : Addr} {xs : List V} (e : Ex H H') (h : SqL K H a xs) : SqL K H' a xs := by
  rcases h with h | h
  · exact .inl (e.rd h)
  · exact .inr h
theorem Ex.sqT {K : PySem.W.Frag} {H H' : Hp} {a : Addr} {xs : List V} (e : Ex H H') (h : SqT K H a xs) : SqT K H' a xs := by
  rcases h with h | h
  · exact .inl (e.rd h)
  · exact .inr h
/-- an object that H does not know is laid or changed -/
theorem Ex.mut {H H' : Hp} {p : Addr} {o : HO} (e : Ex H H') (h : H p = none) : Ex H (upd H' p o) := fun a u ha => by
  rw [upd_ne (ne_of_none ha h)]; exact e a u ha

/-- truths alone -/
def allBl : List D → Bool
  | [] => true
  | .bl _ :: ds => allBl ds
  | _ :: _ => false
/-- the thing at a is known to its object, which has no dict -/
def SqE (B : Hp) (a : Addr) : Prop := ∃ o u, B a = some (.frz o u) ∧ o.dict = none
/-- a tuple of these; one of truths alone is known to its object -/
def SqX (K : PySem.W.Frag) (B : Hp) (a : Addr) (vs : List V) (ds : List D) : Prop := SqT K B a vs ∧ (allBl ds = true → SqE B a)
theorem SqX.to {K : PySem.W.Frag} {B : Hp} {a : Addr} {vs : List V} {ds es : List D} (h : SqX K B a vs ds) (e : allBl es = true → allBl ds = true) : SqX K B a vs es := ⟨h.1, fun q => h.2 (e q)⟩
theorem SqX.new {K : PySem.W.Frag} {B : Hp} {a : Addr} {vs : List V} {ds : List D} {its : List Value} (h : B a = some (.frz (tupO its) (.tup vs))) : SqX K B a vs ds := ⟨.inl (.inr ⟨_, h⟩), fun _ => ⟨_, _, h, rfl⟩⟩
theorem SqX.ex {K : PySem.W.Frag} {B B' : Hp} {a : Addr} {vs : List V} {ds : List D} (e : Ex B B') (h : SqX K B a vs ds) : SqX K B' a vs ds := ⟨e.sqT h.1, fun q => by obtain ⟨o, u, z, d⟩ := h.2 q; exact ⟨o, u, e _ _ z, d⟩⟩
theorem SqX.odd {K : PySem.W.Frag} {B : Hp} {a : Addr} {vs : List V} {ds : List D} (h : SqT K B a vs) (e : allBl ds = false) : SqX K B a vs ds := ⟨h, fun q => by rw [e] at q; cases q⟩
mutual
/-- the value v bears the datum d, by the view B and the cells' addresses α -/
def Rep (K : PySem.W.Frag) (B : Hp) (α : List Addr) : D → V → Prop
  | .non, v => v = .non
  | .bl b, v => v = .bl b
  | .int i, v => v = .int i
  | .str s, v => v = .str s
  | .tup ds, v => ∃ a vs, v = .ref a ∧ SqX K B a vs ds ∧ Reps K B α ds vs
  | .lst ds, v => ∃ a vs, v = .ref a ∧ B a = some (.lst vs) ∧ Reps K B α ds vs
  | .fzl ds, v => ∃ a vs, v = .ref a ∧ SqL K B a vs ∧ Reps K B α ds vs
  | .loc n, v => ∃ a, v = .ref a ∧ α[n]? = some a
  | .raw u, v => v = u
  | .ins C ns ds, v => ∃ a dx vs, v = .ref a ∧ B a = some (.ins C dx (ns.zip vs)) ∧ Reps K B α ds vs ∧ ns.length = ds.length
  | .dic ks ds, v => ∃ a vs, v = .ref a ∧ Rd B a (.dK (ks.zip vs)) ∧ Reps K B α ds vs ∧ ks.length = ds.length
  | .exc C ns ds, v => ∃ a d vs, v = .ref a ∧ B a = some (excHO C a d) ∧ Reps K B α ds vs ∧ ns.length = ds.length ∧ (d = none → ns = []) ∧ ∀ dx, d = some dx → B dx = some (.xd (ns.zip vs))
def Reps (K : PySem.W.Frag) (B : Hp) (α : List Addr) : List D → List V → Prop
  | [], vs => vs = []
  | d :: ds, vs => ∃ v r, vs = v :: r ∧ Rep K B α d v ∧ Reps K B α ds r
end
section
variable {K : PySem.W.Frag} {B B' : Hp} {α α' : List Addr}
theorem pre_get {α α' : List Addr} {n : Nat} {a : Addr} (p : α <+: α') (h : α[n]? = some a) : α'[n]? = some a := by
  obtain ⟨t, rfl⟩ := p
  rw [List.getElem?_append_left]
  · exact h
  · exact (List.getElem?_eq_some_iff.mp h).1
mutual
theorem Rep.mono (e : Ex B B') (p : α <+: α') : ∀ (d : D) (v : V), Rep K B α d v → Rep K B' α' d v
  | .non, _, h => h
  | .bl _, _, h => h
  | .int _, _, h => h
  | .str _, _, h => h
  | .tup ds, v, h => by
    unfold Rep at h ⊢
    obtain ⟨a, vs, rfl, h1, h2⟩ := h
    exact ⟨a, vs, rfl, ⟨e.sqT h1.1, fun q => by obtain ⟨o, u, z, d⟩ := h1.2 q; exact ⟨o, u, e _ _ z, d⟩⟩, Reps.mono e p ds vs h2⟩
  | .lst ds, v, h => by
    unfold Rep at h ⊢
    obtain ⟨a, vs, rfl, h1, h2⟩ := h
    exact ⟨a, vs, rfl, e _ _ h1, Reps.mono e p ds vs h2⟩
  | .fzl ds, v, h => by
    unfold Rep at h ⊢
    obtain ⟨a, vs, rfl, h1, h2⟩ := h
    exact ⟨a, vs, rfl, e.sqL h1, Reps.mono e p ds vs h2⟩
  | .loc n, v, h => by
    unfold Rep at h ⊢
    obtain ⟨a, rfl, h1⟩ := h
    exact ⟨a, rfl, pre_get p h1⟩
  | .raw _, _, h => h
  | .ins C ns ds, v, h => by
    unfold Rep at h ⊢
    obtain ⟨a, dx, vs, rfl, h1, h2, h3⟩ := h
    exact ⟨a, dx, vs, rfl, e _ _ h1, Reps.mono e p ds vs h2, h3⟩
  | .dic ks ds, v, h => by
    unfold Rep at h ⊢
    obtain ⟨a, vs, rfl, h1, h2, h3⟩ := h
    exact ⟨a, vs, rfl, e.rd h1, Reps.mono e p ds vs h2, h3⟩
  | .exc C ns ds, v, h => by
    unfold Rep at h ⊢
    obtain ⟨a, d, vs, rfl, h1, h2, h3, h4⟩ := h
    exact ⟨a, d, vs, rfl, e _ _ h1, Reps.mono e p ds vs h2, h3, h4.1, fun dx q => e _ _ (h4.2 dx q)⟩
theorem Reps.mono (e : Ex B B') (p : α <+: α') : ∀ (ds : List D) (vs : List V), Reps K B α ds vs → Reps K B' α' ds vs
  | [], _, h => h
  | d :: ds, vs, h => by
    unfold Reps at h ⊢
    obtain ⟨v, r, rfl, h1, h2⟩ := h
    exact ⟨v, r, rfl, Rep.mono e p d v h1, Reps.mono e p ds r h2⟩
end
theorem Reps.length : ∀ {ds : List D} {vs : List V}, Reps K B α ds vs → vs.length = ds.length
  | [], _, h => by unfold Reps at h; subst h; rfl
  | _ :: _, _, h => by
    unfold Reps at h
    obtain ⟨v, r, rfl, _, h2⟩ := h
    simp [Reps.length h2]
theorem Reps.get : ∀ {ds : List D} {vs : List V} {i : Nat} {d : D}, Reps K B α ds vs → ds[i]? = some d → ∃ v, vs[i]? = some v ∧ Rep K B α d v
  | [], _, _, _, _, e => by simp at e
  | d :: ds, _, 0, _, h, e => by
    unfold Reps at h
    obtain ⟨v, r, rfl, h1, _⟩ := h
    simp at e; subst e
    exact ⟨v, rfl, h1⟩
  | d :: ds, _, i + 1, d', h, e => by
    unfold Reps at h
    obtain ⟨v, r, rfl, _, h2⟩ := h
    obtain ⟨u, e1, e2⟩ := Reps.get (i := i) h2 (by simpa using e)
    exact ⟨u, by simpa using e1, e2⟩
theorem Reps.append : ∀ {ds es : List D} {vs ws : List V}, Reps K B α ds vs → Reps K B α es ws → Reps K B α (ds ++ es) (vs ++ ws)
  | [], _, _, _, h, k => by unfold Reps at h; subst h; exact k
  | d :: ds, es, _, ws, h, k => by
    unfold Reps at h
    obtain ⟨v, r, rfl, h1, h2⟩ := h
    show Reps K B α (d :: (ds ++ es)) (v :: (r ++ ws))
    unfold Reps
    exact ⟨v, _, rfl, h1, h2.append k⟩
theorem Reps.cons {d : D} {v : V} {ds : List D} {vs : List V} (h : Rep K B α d v) (t : Reps K B α ds vs) : Reps K B α (d :: ds) (v :: vs) := by
  unfold Reps; exact ⟨v, vs, rfl, h, t⟩
theorem Reps.nil : Reps K B α [] [] := by unfold Reps; rfl
theorem Reps.one {d : D} {v : V} (h : Rep K B α d v) : Reps K B α [d] [v] := .cons h .nil
theorem Reps.take (n : Nat) : ∀ {ds : List D} {vs : List V}, Reps K B α ds vs → Reps K B α (ds.take n) (vs.take n) := by
  induction n with
  | zero => intro ds vs _; simp [Reps]
  | succ n ih =>
    intro ds vs h
    cases ds with
    | nil => unfold Reps at h; subst h; simp [Reps]
    | cons d ds =>
      unfold Reps at h
      obtain ⟨v, r, rfl, h1, h2⟩ := h
      exact .cons h1 (ih h2)
theorem Reps.drop (n : Nat) : ∀ {ds : List D} {vs : List V}, Reps K B α ds vs → Reps K B α (ds.drop n) (vs.drop n) := by
  induction n with
  | zero => intro ds vs h; exact h
  | succ n ih =>
    intro ds vs h
    cases ds with
    | nil => unfold Reps at h; subst h; simp [Reps]
    | cons d ds =>
      unfold Reps at h
      obtain ⟨v, r, rfl, h1, h2⟩ := h
      exact ih h2
theorem Reps.set {i : Nat} {d : D} {v : V} (hd : Rep K B α d v) : ∀ {ds : List D} {vs : List V}, Reps K B α ds vs → Reps K B α (ds.set i d) (vs.set i v) := by
  induction i with
  | zero =>
    intro ds vs h
    cases ds with
    | nil => unfold Reps at h; subst h; simp [Reps]
    | cons e ds =>
      unfold Reps at h
      obtain ⟨w, r, rfl, h1, h2⟩ := h
      exact .cons hd h2
  | succ n ih =>
    intro ds vs h
    cases ds with
    | nil => unfold Reps at h; subst h; simp [Reps]
    | cons e ds =>
      unfold Reps at h
      obtain ⟨w, r, rfl, h1, h2⟩ := h
      exact .cons h1 (ih h2)
end

/-! ### cells -/
/-- a mutable thing that is owned -/
inductive Cell where
  | lst (ds : List D)
  | dic (ks : List Key) (ds : List D)
  | ins (C : Addr) (ns : List Str) (ds : List D)
  | gone
  deriving Inhabited

def CellAt (K : PySem.W.Frag) (B : Hp) (α : List Addr) (H : Hp) (a : Addr) : Cell → Prop
  | .lst ds => ∃ vs, H a = some (.lst vs) ∧ Reps K B α ds vs
  | .dic ks ds => ∃ vs, H a = some (.dK (ks.zip vs)) ∧ Reps K B α ds vs ∧ ks.length = ds.length
  | .ins C ns ds => ∃ dx vs, H a = some (.ins C dx (ns.zip vs)) ∧ Reps K B α ds vs ∧ ns.length = ds.length
  | .gone => True
/-- no code object's table -/
def NoTbl (o : HO) : Prop := ∀ ps, o ≠ .tbl ps
/-- what a cell holds -/
def Celly : Option HO → Prop
  | some (.lst _) => True
  | some (.dK _) => True
  | some (.ins _ _ _) => True
  | _ => False
theorem celly_some {x : Option HO} (h : Celly x) : ∃ o, x = some o ∧ NoTbl o := by
  cases x with
  | none => exact h.elim
  | some o => cases o <;> first | exact h.elim | exact ⟨_, rfl, fun _ q => nomatch q⟩
theorem CellAt.celly {K : PySem.W.Frag} {B : Hp} {α : List Addr} {H : Hp} {a : Addr} {c : Cell} (h : CellAt K B α H a c) (hg : c ≠ .gone) : Celly (H a) := by
  cases c with
  | lst ds => obtain ⟨vs, q, _⟩ := h; rw [q]; trivial
  | dic ks ds => obtain ⟨vs, q, _⟩ := h; rw [q]; trivial
  | ins C ns ds => obtain ⟨dx, vs, q, _⟩ := h; rw [q]; trivial
  | gone => exact absurd rfl hg
theorem CellAt.mono {K : PySem.W.Frag} {B B' : Hp} {α α' : List Addr} {H H' : Hp} {a : Addr} (e : Ex B B') (p : α <+: α') (h : ∀ o, H a = some o → NoTbl o → H' a = some o) : ∀ {c : Cell}, CellAt K B α H a c → CellAt K B' α' H' a c
  | .lst ds, ⟨vs, h1, h2⟩ => ⟨vs, h _ h1 (fun _ q => nomatch q), h2.mono e p⟩
  | .dic ks ds, ⟨vs, h1, h2, h3⟩ => ⟨vs, h _ h1 (fun _ q => nomatch q), h2.mono e p, h3⟩
  | .ins C ns ds, ⟨dx, vs, h1, h2, h3⟩ => ⟨dx, vs, h _ h1 (fun _ q => nomatch q), h2.mono e p, h3⟩
  | .gone, _ => trivial

/-- the frame of a def's run: the heap and the view at its entry, the addresses of the cells that it was handed -/
structure Fm where
  H0 : Hp
  B0 : Hp
  α0 : List Addr

abbrev Env := List (Option D)
abbrev Cells := List Cell

/-- the tables of code objects that a lambda may write (each with the name that its code objects bear) -/
def Tbl.T : List (Addr × Str) := []
theorem tabs_upd {H : Hp} {a : Addr} {o : HO} (t : LamX.Tabs Tbl.T H) (c : Celly (H a)) : LamX.Tabs Tbl.T (upd H a o) := fun p hp => by
  obtain ⟨ps, h1, h2, h3⟩ := t p hp
  have na : p.1 ≠ a := fun e => by rw [← e, h1] at c; exact c
  refine ⟨ps, by rw [upd_ne na]; exact h1, h2, fun pos cv hc => ?_⟩
  obtain ⟨b, e1, e2⟩ := h3 pos cv hc
  have nb : b ≠ a := fun e => by
    rw [← e, e2] at c
    exact c
  exact ⟨b, e1, by rw [upd_ne nb]; exact e2⟩
structure Tb (F : Fm) (B : Hp) (α : List Addr) (H : Hp) : Prop where
  tabs : LamX.Tabs Tbl.T H
  h0 : ∀ p ∈ Tbl.T, F.H0 p.1 ≠ none
  nb : ∀ a ps, B a ≠ some (.tbl ps)
  ca : ∀ a ∈ α, Celly (H a)
section
variable {F : Fm} {B B' H H' : Hp} {α α1 α' : List Addr}
theorem celly_ext {x : Addr} (h : Celly (H x)) (e : ∀ o, H x = some o → NoTbl o → H' x = some o) : Celly (H' x) := by
  obtain ⟨o, h1, h2⟩ := celly_some h
  rw [e o h1 h2, ← h1]; exact h
theorem Tb.grow (t : Tb F B α H) (e : Ex H H') : Tb F B α H' := ⟨t.tabs.ext e, t.h0, t.nb, fun a ha => celly_ext (t.ca a ha) fun o h _ => e _ _ h⟩
theorem Tb.see {p : Addr} {o : HO} (t : Tb F B α H) (hn : NoTbl o) : Tb F (upd B p o) α H := ⟨t.tabs, t.h0, fun a ps h => by
  by_cases e : a = p
  · subst e; rw [upd_same] at h; exact hn ps (Option.some.inj h)
  · rw [upd_ne e] at h; exact t.nb a ps h, t.ca⟩
theorem Tb.own {p : Addr} (t : Tb F B α H) (h : Celly (H p)) : Tb F B (α ++ [p]) H := ⟨t.tabs, t.h0, t.nb, fun a ha => by
  rcases List.mem_append.mp ha with z | z
  · exact t.ca a z
  · rw [List.mem_singleton] at z; subst z; exact h⟩
theorem Tb.put {a : Addr} {o : HO} (t : Tb F B α H) (hc : Celly (H a)) (ho : a ∈ α → Celly (some o)) : Tb F B α (upd H a o) := ⟨tabs_upd t.tabs hc, t.h0, t.nb, fun b hb => by
  by_cases e : b = a
  · subst e; rw [upd_same]; exact ho hb
  · rw [upd_ne e]; exact t.ca b hb⟩
theorem Tb.sub (t : Tb F B α H) (h : ∀ a ∈ α1, a ∈ α) : Tb F B α1 H := ⟨t.tabs, t.h0, t.nb, fun a ha => t.ca a (h a ha)⟩
theorem Tb.start (t : Tb F B α H) (h : ∀ a ∈ α1, a ∈ α) : Tb ⟨H, B, α1⟩ B α1 H := ⟨t.tabs, fun p hp => by
  obtain ⟨ps, e, _⟩ := t.tabs p hp
  show H p.1 ≠ none
  rw [e]; simp, t.nb, fun a ha => t.ca a (h a ha)⟩
theorem Tb.back {H0 : Hp} {B0 : Hp} {β : List Addr} (t : Tb F B α H) (u : Tb ⟨H0, B0, α1⟩ B' α' H') (kp : ∀ a o, H a = some o → a ∉ α1 → NoTbl o → H' a = some o) (h1 : ∀ a ∈ α1, a ∈ α') (hβ : ∀ a ∈ β, a ∈ α ∨ a ∈ α') : Tb F B' β H' := ⟨u.tabs, t.h0, u.nb, fun a ha => by
  by_cases m : a ∈ α1
  · exact u.ca a (h1 a m)
  · rcases hβ a ha with z | z
    · exact celly_ext (t.ca a z) fun o h n => kp a o h m n
    · exact u.ca a z⟩
end
structure Sat (K : PySem.W.Frag) (F : Fm) (B : Hp) (α : List Addr) (Γ : Env) (Λ : Cells) (σ : L2.St) (H : Hp) : Prop where
  bb : Ex F.B0 B
  bh : Ex B H
  fr : ∀ (a : Addr) (o : HO), B a = some o → F.B0 a = some o ∨ F.H0 a = none
  kp : ∀ (a : Addr) (o : HO), F.H0 a = some o → a ∉ F.α0 → NoTbl o → H a = some o
  dm : ∀ a : Addr, H a = none → F.H0 a = none
  pf : F.α0 <+: α
  nd : α.Nodup
  al : α.length = Λ.length
  ce : ∀ (n : Nat) (c : Cell), Λ[n]? = some c → c ≠ .gone → ∃ a, α[n]? = some a ∧ B a = none ∧ (F.H0 a = none ∨ a ∈ F.α0) ∧ CellAt K B α H a c
  ah : ∀ a ∈ α, H a ≠ none ∧ (F.H0 a = none ∨ a ∈ F.α0)
  sl : ∀ (i : Nat) (d : D), Γ[i]? = some (some d) → ∃ v, σ[i]? = some (some v) ∧ Rep K B α d v
  ln : Γ.length = σ.length
  tb : Tb F B α H

section
variable {K : PySem.W.Frag} {F : Fm} {B B' : Hp} {α α' : List Addr} {Γ : Env} {Λ : Cells} {σ : L2.St} {H H' : Hp}

/-- a slot is stored -/
theorem Sat.set {i : Nat} {d : D} {v : V} (S : Sat K F B α Γ Λ σ H) (r : Rep K B α d v) : Sat K F B α (Γ.set i (some d)) Λ (σ.set i (some v)) H := by
  refine { S with sl := fun j e hj => ?_, ln := by simpa using S.ln }
  by_cases hij : i = j
  · subst hij
    have hi : i < Γ.length := by
      have := (List.getElem?_eq_some_iff.mp hj).1
      simpa using this
    rw [List.getElem?_set_self hi] at hj
    cases hj
    exact ⟨v, List.getElem?_set_self (by rw [← S.ln]; exact hi), r⟩
  · rw [List.getElem?_set_ne hij] at hj
    obtain ⟨w, h1, h2⟩ := S.sl j e hj
    exact ⟨w, by rw [List.getElem?_set_ne hij]; exact h1, h2⟩
/-- slots forgotten -/
theorem Sat.env {Γ' : Env} {σ' : L2.St} (S : Sat K F B α Γ Λ σ H) (hl : Γ'.length = σ'.length) (h : ∀ (i : Nat) (d : D), Γ'[i]? = some (some d) → ∃ v, σ'[i]? = some (some v) ∧ Rep K B α d v) : Sat K F B α Γ' Λ σ' H :=
  { S with sl := h, ln := hl }
theorem CellAt.some {H : Hp} {a : Addr} {c : Cell} (h : CellAt K B α H a c) (hg : c ≠ .gone) : H a ≠ none := by
  cases c with
  | lst ds => obtain ⟨vs, q, _⟩ := h; rw [q]; simp
  | dic ks ds => obtain ⟨vs, q, _⟩ := h; rw [q]; simp
  | ins C ns ds => obtain ⟨dx, vs, q, _⟩ := h; rw [q]; simp
  | gone => exact absurd rfl hg

/-- the heap has grown by things that the view does not see -/
theorem Sat.grow (S : Sat K F B α Γ Λ σ H) (e : Ex H H') : Sat K F B α Γ Λ σ H' :=
  { S with bh := S.bh.trans e, tb := S.tb.grow e, kp := fun a o h ha n => e _ _ (S.kp a o h ha n), dm := fun a h => S.dm a (e.back h)
           ce := fun n c h hg => by
            obtain ⟨a, h1, h2, h3, h4⟩ := S.ce n c h hg
            exact ⟨a, h1, h2, h3, h4.mono (Ex.refl B) (List.prefix_refl _) fun o q _ => e a o q⟩
           ah := fun a ha => ⟨fun h => (S.ah a ha).1 (e.back h), (S.ah a ha).2⟩ }
/-- the view grows by a thing of the heap that is new and no cell -/
theorem Sat.see {p : Addr} {o : HO} (S : Sat K F B α Γ Λ σ H) (hp : H p = some o) (hB : B p = none) (h0 : F.H0 p = none) (hα : p ∉ α) (hn : NoTbl o := by intro _ q; cases q) : Sat K F (upd B p o) α Γ Λ σ H := by
  refine ⟨S.bb.mut ?_, fun a u h => ?_, fun a u h => ?_, S.kp, S.dm, S.pf, S.nd, S.al, fun n c h hg => ?_, S.ah, fun i d h => ?_, S.ln, S.tb.see hn⟩
  · exact S.bb.back hB
  · by_cases e : a = p
    · subst e; rw [upd_same] at h; rw [← h]; exact hp
    · rw [upd_ne e] at h; exact S.bh a u h
  · by_cases e : a = p
    · subst e; exact .inr h0
    · rw [upd_ne e] at h; exact S.fr a u h
  · obtain ⟨a, h1, h2, h3, h4⟩ := S.ce n c h hg
    have hap : a ≠ p := fun e => hα (e ▸ List.mem_of_getElem? h1)
    exact ⟨a, h1, by rw [upd_ne hap]; exact h2, h3, h4.mono (Ex.new hB) (List.prefix_refl _) fun u q _ => q⟩
  · obtain ⟨v, h1, h2⟩ := S.sl i d h
    exact ⟨v, h1, h2.mono (Ex.new hB) (List.prefix_refl _)⟩
/-- a new object that is seen by the view -/
theorem Sat.lay {p : Addr} {o : HO} (S : Sat K F B α Γ Λ σ H) (hp : H p = none) (hn : NoTbl o := by intro _ q; cases q) : Sat K F (upd B p o) α Γ Λ σ (upd H p o) :=
  (S.grow (Ex.new hp)).see upd_same (S.bh.back hp) (S.dm p hp) (fun ha => (S.ah p ha).1 hp) hn
/-- a new object that is a cell -/
theorem Sat.own {p : Addr} {c : Cell} (S : Sat K F B α Γ Λ σ H) (hp : H p = none) (e : Ex H H') (hc : H' p ≠ none) (hh : ∀ α', α <+: α' → CellAt K B α' H' p c) (hg0 : c ≠ .gone := by intro q; cases q) : Sat K F B (α ++ [p]) Γ (Λ ++ [c]) σ H' := by
  have S' := S.grow e
  have hpa : p ∉ α := fun ha => (S.ah p ha).1 hp
  refine { S' with pf := S.pf.trans (List.prefix_append _ _), nd := ?_, al := by simp [S.al], ce := fun n c' h hg => ?_, ah := fun a ha => ?_, sl := fun i d h => ?_, tb := S'.tb.own ((hh α (List.prefix_refl _)).celly hg0) }
  · rw [List.nodup_append]
    refine ⟨S.nd, List.nodup_cons.mpr ⟨by simp, List.nodup_nil⟩, fun a ha b hb e => ?_⟩
    simp at hb; subst hb; subst e; exact hpa ha
  · by_cases hn : n < Λ.length
    · rw [List.getElem?_append_left hn] at h
      obtain ⟨a, h1, h2, h3, h4⟩ := S'.ce n c' h hg
      exact ⟨a, pre_get (List.prefix_append _ _) h1, h2, h3, h4.mono (Ex.refl B) (List.prefix_append _ _) fun u q _ => q⟩
    · have hlt : n < (Λ ++ [c]).length := (List.getElem?_eq_some_iff.mp h).1
      have hn' : n = Λ.length := by simp at hlt; omega
      subst hn'
      rw [List.getElem?_append_right (Nat.le_refl _)] at h
      simp at h; subst h
      refine ⟨p, by rw [← S.al, List.getElem?_append_right (Nat.le_refl _)]; simp, S.bh.back hp, .inl (S.dm p hp), hh _ (List.prefix_append _ _)⟩
  · rcases List.mem_append.mp ha with h | h
    · exact S'.ah a h
    · simp at h; subst h; exact ⟨hc, .inl (S.dm _ hp)⟩
  · obtain ⟨v, h1, h2⟩ := S.sl i d h
    exact ⟨v, h1, h2.mono (Ex.refl B) (List.prefix_append _ _)⟩
/-- a cell is written -/
theorem Sat.put {n : Nat} {a : Addr} {o : HO} {c : Cell} (S : Sat K F B α Γ Λ σ H) (hn : α[n]? = some a) (hB : B a = none) (hc : CellAt K B α (upd H a o) a c) (hg0 : c ≠ .gone := by intro q; cases q) : Sat K F B α Γ (Λ.set n c) σ (upd H a o) := by
  have ha := List.mem_of_getElem? hn
  have nl : n < Λ.length := by rw [← S.al]; exact (List.getElem?_eq_some_iff.mp hn).1
  refine { S with bh := S.bh.mut hB, tb := S.tb.put (S.tb.ca a ha) (fun _ => by have := hc.celly hg0; rw [upd_same] at this; exact this), kp := fun b u h hb nt => ?_, dm := fun b h => ?_, al := by simp [S.al], ce := fun m c' h hg => ?_, ah := fun b hb => ?_ }
  · have hab : b ≠ a := fun e => by
      subst e
      rcases (S.ah b ha).2 with q | q
      · rw [h] at q; cases q
      · exact hb q
    rw [upd_ne hab]; exact S.kp b u h hb nt
  · by_cases e : b = a
    · subst e; rw [upd_same] at h; cases h
    · rw [upd_ne e] at h; exact S.dm b h
  · by_cases e : n = m
    · subst e
      rw [List.getElem?_set_self nl] at h
      cases h
      exact ⟨a, hn, hB, (S.ah a ha).2, hc⟩
    · rw [List.getElem?_set_ne e] at h
      obtain ⟨b, h1, h2, h3, h4⟩ := S.ce m c' h hg
      have hba : b ≠ a := fun q => by
        subst q
        exact e ((List.getElem?_inj (by rw [S.al]; exact nl) S.nd).mp (hn.trans h1.symm))
      exact ⟨b, h1, h2, h3, h4.mono (Ex.refl B) (List.prefix_refl _) fun u q _ => by rw [upd_ne hba]; exact q⟩
  · by_cases e : b = a
    · subst e; exact ⟨by rw [upd_same]; simp, (S.ah b hb).2⟩
    · rw [upd_ne e]; exact S.ah b hb
end
end Pl

namespace Pl
open PySem L2 PyProof.Rows

/-! ### contexts -/
/-- what is known of the code that runs: the program's facts, the names by slot, which of them may be read and stored here, the global names -/
structure Ctx where
  P : Program
  w : World
  K : PySem.W.Frag
  mg : Str → Option Value
  base : Heap
  N : List Str
  sc : Scope
  vs : List Bool
  ls : List Bool
  gl : List Str
  k : Nat
  m : Nat := 0
  /-- a def's own body, no comprehension's block -/
  tp : Bool := true
  /-- of a def that makes lambdas: how its names begin, its code object -/
  cd : Option (Str × Addr) := none
  /-- an exception is being handled -/
  hot : Bool := false

/-- the scope is as told -/
structure Ctx.Good (C : Ctx) : Prop where
  nd : C.N.Nodup
  vis : ∀ (i : Nat) (x : Str), C.N[i]? = some x → C.vs[i]? = some true → Vis C.sc x
  sto : ∀ (i : Nat) (x : Str), C.N[i]? = some x → C.ls[i]? = some true → Loc C.sc x
  glo : ∀ (j : Nat) (x : Str), C.gl[j]? = some x → C.sc.names.lookup x = some .globalImplicit

structure Ctx.Is (C : Ctx) (X : Cx) : Prop where
  prog : X.prog = C.P
  w : X.w = C.w
  K : X.K = C.K
  mg : X.mg = C.mg
  base : X.base = C.base
  N : X.N = C.N
  sc : X.env.scope = C.sc
  calmW : C.hot = false → X.calm = true
  hdW : C.hot = false → X.A.handled = none
  roomW : RoomW C.k X.A
  fn : ∀ (i : Nat) (x : Str), C.N[i]? = some x → C.ls[i]? = some true → X.fn x = true ∨ X.env.scope.names.lookup x = some .local
  good : C.Good
  po : PassesOwn (model X.prog X.w) X.A X.env X.xe
  tp : C.tp = true → X.stack = X.env :: X.outer ∧ X.env.frame = some X.env.locals ∧ X.ex = []
  cdv : ∀ (q : Str) (c : Addr), C.cd = some (q, c) → X.env.qual = q ∧ X.env.code = .ref c

/-- no exception is being handled -/
class Cool (C : Ctx) : Prop where
  h : C.hot = false
instance {P : Program} {w : World} {K : PySem.W.Frag} {mg : Str → Option Value} {base : Heap} {N : List Str} {sc : Scope} {vs ls : List Bool} {gl : List Str} {k m : Nat} {tp : Bool} {cd : Option (Str × Addr)} : Cool ⟨P, w, K, mg, base, N, sc, vs, ls, gl, k, m, tp, cd, false⟩ := ⟨rfl⟩
section
variable {C : Ctx} {X : Cx}
theorem Ctx.Is.calm [Cool C] (h : C.Is X) : X.calm = true := h.calmW Cool.h
theorem Ctx.Is.room [Cool C] (h : C.Is X) : RoomG C.k X.A := ⟨h.hdW Cool.h, h.roomW.gd, h.roomW.dp, h.roomW.un⟩
theorem Ctx.Is.vis (h : C.Is X) {i : Nat} {x : Str} (hi : C.N[i]? = some x) (hv : C.vs[i]? = some true) : Vis X.env.scope x := by rw [h.sc]; exact h.good.vis i x hi hv
theorem Ctx.Is.loc (h : C.Is X) {i : Nat} {x : Str} (hi : C.N[i]? = some x) (hv : C.ls[i]? = some true) : Loc X.env.scope x := by rw [h.sc]; exact h.good.sto i x hi hv
/-- a global name of this code -/
def GlAt (C : Ctx) (x : Str) : Prop := ∃ j : Nat, C.gl[j]? = some x
theorem Ctx.Is.gl (h : C.Is X) {x : Str} (hj : GlAt C x) : Gl X x := by
  obtain ⟨j, hj⟩ := hj
  show X.env.scope.names.lookup x = _
  rw [h.sc]; exact h.good.glo j x hj
theorem Ctx.Is.ni (h : C.Is X) {i : Nat} {x : Str} (hi : C.N[i]? = some x) : X.N[i]? = some x := by rw [h.N]; exact hi
theorem Ctx.Is.nd (h : C.Is X) : X.N.Nodup := by rw [h.N]; exact h.good.nd
end

/-! ### errors -/
/-- an exception: its class, its fields -/
structure Err where
  cls : Value
  fs : Option (List Str × List D)
def ErrAt (K : PySem.W.Frag) (F : Fm) (B : Hp) (α : List Addr) (H : Hp) (e : Err) (c : Value) (dx : Option Addr) : Prop :=
  c = e.cls ∧ match e.fs with
    | none => dx = none
    | some (ns, ds) => ∃ a vs, dx = some a ∧ H a = some (.xd (ns.zip vs)) ∧ Reps K B α ds vs ∧ ns.length = ds.length ∧ (B a = none → F.H0 a = none ∧ a ∉ α)
abbrev ER := Err → Env → Cells → Prop
abbrev ER.none : ER := fun _ _ _ => False

/-! ### judgements -/
section
variable (K : PySem.W.Frag) (F : Fm) (W : WX)
/-- what is wanted of an error -/
def ErOk (B : Hp) (σ : L2.St) (Γ : Env) (E : ER) : Prop :=
  ∀ err Λ' B' α' H' c dx, E err Γ Λ' → Sat K F B' α' Γ Λ' σ H' → Ex B B' → ErrAt K F B' α' H' err c dx → W c dx σ H'
def rdE (E : ER) (Γ : Env) (Λ : Cells) (P : D → Cells → Prop) : TE := fun σ H Q => ∃ B α, Sat K F B α Γ Λ σ H ∧
  (∀ d Λ' v B' α' H', P d Λ' → Sat K F B' α' Γ Λ' σ H' → Ex B B' → α <+: α' → Rep K B' α' d v → Q v H') ∧ ErOk K F W B σ Γ E
/-- a new list -/
def rdN (E : ER) (Γ : Env) (Λ : Cells) (P : List D → Cells → Prop) : TE := fun σ H Q => ∃ B α, Sat K F B α Γ Λ σ H ∧
  (∀ ds Λ' p vs B' α' H', P ds Λ' → Sat K F B' α' Γ Λ' σ H' → Ex B B' → α <+: α' → H' p = some (.lst vs) → B' p = none → F.H0 p = none → p ∉ α' → Reps K B' α' ds vs → Q (.ref p) H') ∧ ErOk K F W B σ Γ E
def rdA (E : ER) (Γ : Env) (Λ : Cells) (P : List D → Cells → Prop) : TA := fun σ H Q => ∃ B α, Sat K F B α Γ Λ σ H ∧
  (∀ ds Λ' vs B' α' H', P ds Λ' → Sat K F B' α' Γ Λ' σ H' → Ex B B' → α <+: α' → Reps K B' α' ds vs → Q vs H') ∧ ErOk K F W B σ Γ E
def rdT (E : ER) (Γ : Env) (Λ : Cells) (P : Bool → Cells → Prop) : TT := fun σ H Q => ∃ B α, Sat K F B α Γ Λ σ H ∧
  (∀ b Λ' B' α' H', P b Λ' → Sat K F B' α' Γ Λ' σ H' → Ex B B' → α <+: α' → Q b H') ∧ ErOk K F W B σ Γ E
end
/-- what a def hands back: a datum; a new list -/
inductive Res where
  | val (d : D)
  | new (ds : List D)
def ResAt (K : PySem.W.Frag) (F : Fm) (B : Hp) (α : List Addr) (H : Hp) (v : V) : Res → Prop
  | .val d => Rep K B α d v
  | .new ds => ∃ p vs, v = .ref p ∧ H p = some (.lst vs) ∧ B p = none ∧ F.H0 p = none ∧ p ∉ α ∧ Reps K B α ds vs
/-- the wishes of a statement -/
structure Rs where
  nx : Env → Cells → Prop
  rt : Res → Cells → Prop
  bk : Env → Cells → Prop := fun _ _ => False
  ct : Env → Cells → Prop := fun _ _ => False
  er : ER := ER.none
section
variable (K : PySem.W.Frag) (F : Fm) (W : WX)
def nxOk (B : Hp) (R : Env → Cells → Prop) (q : L2.St → Hp → Prop) : Prop := ∀ Γ' Λ' B' α' σ' H', R Γ' Λ' → Sat K F B' α' Γ' Λ' σ' H' → Ex B B' → q σ' H'
def rtOk (B : Hp) (R : Res → Cells → Prop) (q : VK) : Prop := ∀ d Λ' v Γ' B' α' σ' H', R d Λ' → Sat K F B' α' Γ' Λ' σ' H' → Ex B B' → ResAt K F B' α' H' v d → q v H'
def erOk (B : Hp) (E : ER) : Prop := ∀ err Γ' Λ' B' α' σ' H' c dx, E err Γ' Λ' → Sat K F B' α' Γ' Λ' σ' H' → Ex B B' → ErrAt K F B' α' H' err c dx → W c dx σ' H'
structure EndsOk (B : Hp) (R : Rs) (D : Ends) : Prop where
  nx : nxOk K F B R.nx D.nx
  rt : rtOk K F B R.rt D.rt
  bk : nxOk K F B R.bk D.bk
  ct : nxOk K F B R.ct D.ct
  er : erOk K F W B R.er
def rdS (Γ : Env) (Λ : Cells) (R : Rs) : TS := fun D σ H => ∃ B α, Sat K F B α Γ Λ σ H ∧ EndsOk K F W B R D
end
section
variable {K : PySem.W.Frag} {F : Fm} {W : WX} {B B' : Hp} {σ : L2.St} {Γ : Env} {E : ER} {R : Rs} {D' : Ends}
theorem erOk.at (h : erOk K F W B E) : ErOk K F W B σ Γ E := fun err Λ' B' α' H' c dx e S x q => h err Γ Λ' B' α' σ H' c dx e S x q
theorem ErOk.mono (h : ErOk K F W B σ Γ E) (e : Ex B B') : ErOk K F W B' σ Γ E := fun err Λ' B1 α' H' c dx q S x r => h err Λ' B1 α' H' c dx q S (e.trans x) r
theorem nxOk.mono {R : Env → Cells → Prop} {q : L2.St → Hp → Prop} (h : nxOk K F B R q) (e : Ex B B') : nxOk K F B' R q := fun Γ' Λ' B1 α' σ' H' r S x => h Γ' Λ' B1 α' σ' H' r S (e.trans x)
theorem rtOk.mono {R : Res → Cells → Prop} {q : VK} (h : rtOk K F B R q) (e : Ex B B') : rtOk K F B' R q := fun d Λ' v Γ' B1 α' σ' H' r S x p => h d Λ' v Γ' B1 α' σ' H' r S (e.trans x) p
theorem erOk.mono (h : erOk K F W B E) (e : Ex B B') : erOk K F W B' E := fun err Γ' Λ' B1 α' σ' H' c dx q S x r => h err Γ' Λ' B1 α' σ' H' c dx q S (e.trans x) r
theorem EndsOk.mono (h : EndsOk K F W B R D') (e : Ex B B') : EndsOk K F W B' R D' := ⟨h.nx.mono e, h.rt.mono e, h.bk.mono e, h.ct.mono e, h.er.mono e⟩
end

def WE (C : Ctx) (E : ER) (Γ : Env) (Λ : Cells) (e : Expr) (P : D → Cells → Prop) : Prop := ∀ X F W, C.Is X → Takes X W → PE X e (rdE C.K F W E Γ Λ P)
def WN (C : Ctx) (E : ER) (Γ : Env) (Λ : Cells) (e : Expr) (P : List D → Cells → Prop) : Prop := ∀ X F W, C.Is X → Takes X W → PE X e (rdN C.K F W E Γ Λ P)
def WA (C : Ctx) (E : ER) (Γ : Env) (Λ : Cells) (es : List Expr) (P : List D → Cells → Prop) : Prop := ∀ X F W, C.Is X → Takes X W → PA X es (rdA C.K F W E Γ Λ P)
def WT (C : Ctx) (E : ER) (Γ : Env) (Λ : Cells) (e : Expr) (P : Bool → Cells → Prop) : Prop := ∀ X F W, C.Is X → Takes X W → PT X e (rdT C.K F W E Γ Λ P)
def WS (C : Ctx) (Γ : Env) (Λ : Cells) (s : Stmt) (R : Rs) : Prop := ∀ X F W, C.Is X → F.α0.length ≤ C.m → Takes X W → PS X s (rdS C.K F W Γ Λ R)
def WSs (C : Ctx) (Γ : Env) (Λ : Cells) (s : List Stmt) (R : Rs) : Prop := ∀ X F W, C.Is X → F.α0.length ≤ C.m → Takes X W → PSs X s (rdS C.K F W Γ Λ R)

/-! ### the union of all readings -/
section
variable {X : Cx}
def UE (X : Cx) (e : Expr) : TE := fun σ H Q => ∃ t, PE X e t ∧ t σ H Q
def UA (X : Cx) (e : List Expr) : TA := fun σ H Q => ∃ t, PA X e t ∧ t σ H Q
def UT (X : Cx) (e : Expr) : TT := fun σ H Q => ∃ t, PT X e t ∧ t σ H Q
def UW (X : Cx) (e : Expr) : TT := fun σ H Q => ∃ t, PW X e t ∧ t σ H Q
def US (X : Cx) (s : Stmt) : TS := fun D σ H => ∃ t, PS X s t ∧ t D σ H
def USs (X : Cx) (s : List Stmt) : TS := fun D σ H => ∃ t, PSs X s t ∧ t D σ H
theorem pe_U {e : Expr} : PE X e (UE X e) := ⟨fun pins s σ H Q I ⟨_, h, q⟩ => h.run pins s σ H Q I q⟩
theorem pa_U {e : List Expr} : PA X e (UA X e) := ⟨fun pos pins s σ H Q I ⟨_, h, q⟩ => h.run pos pins s σ H Q I q⟩
theorem pt_U {e : Expr} : PT X e (UT X e) := ⟨fun pins s σ H Q I ⟨_, h, q⟩ => h.run pins s σ H Q I q⟩
theorem pw_U {e : Expr} : PW X e (UW X e) := ⟨fun wh pins s σ H Q I ⟨_, h, q⟩ => h.run wh pins s σ H Q I q⟩
theorem ps_U {s : Stmt} : PS X s (US X s) := ⟨fun pins s σ H D I ⟨_, h, q⟩ => h.run pins s σ H D I q⟩
theorem pss_U {s : List Stmt} : PSs X s (USs X s) := ⟨fun pins s σ H D I ⟨_, h, q⟩ => h.run pins s σ H D I q⟩
theorem pe_imp {e : Expr} {t t' : TE} (h : PE X e t) (i : ∀ σ H Q, t' σ H Q → t σ H Q) : PE X e t' := ⟨fun pins s σ H Q I q => h.run pins s σ H Q I (i σ H Q q)⟩
theorem pa_imp {e : List Expr} {t t' : TA} (h : PA X e t) (i : ∀ σ H Q, t' σ H Q → t σ H Q) : PA X e t' := ⟨fun pos pins s σ H Q I q => h.run pos pins s σ H Q I (i σ H Q q)⟩
theorem pt_imp {e : Expr} {t t' : TT} (h : PT X e t) (i : ∀ σ H Q, t' σ H Q → t σ H Q) : PT X e t' := ⟨fun pins s σ H Q I q => h.run pins s σ H Q I (i σ H Q q)⟩
theorem pw_imp {e : Expr} {t t' : TT} (h : PW X e t) (i : ∀ σ H Q, t' σ H Q → t σ H Q) : PW X e t' := ⟨fun wh pins s σ H Q I q => h.run wh pins s σ H Q I (i σ H Q q)⟩
theorem ps_imp {s : Stmt} {t t' : TS} (h : PS X s t) (i : ∀ D σ H, t' D σ H → t D σ H) : PS X s t' := ⟨fun pins s σ H D I q => h.run pins s σ H D I (i D σ H q)⟩
theorem pss_imp {s : List Stmt} {t t' : TS} (h : PSs X s t) (i : ∀ D σ H, t' D σ H → t D σ H) : PSs X s t' := ⟨fun pins s σ H D I q => h.run pins s σ H D I (i D σ H q)⟩
end

section
variable {C : Ctx} {E : ER} {Γ : Env} {Λ : Cells} {X : Cx} {F : Fm} {W : WX} {B : Hp} {α : List Addr} {σ : L2.St} {H : Hp}
theorem WE.use {e : Expr} {P : D → Cells → Prop} {Q : VK} (h : WE C E Γ Λ e P) (is : C.Is X) (tk : Takes X W) (S : Sat C.K F B α Γ Λ σ H) (er : ErOk C.K F W B σ Γ E)
    (q : ∀ d Λ' v B' α' H', P d Λ' → Sat C.K F B' α' Γ Λ' σ H' → Ex B B' → α <+: α' → Rep C.K B' α' d v → Q v H') : UE X e σ H Q := ⟨_, h X F W is tk, B, α, S, q, er⟩
theorem WN.use {e : Expr} {P : List D → Cells → Prop} {Q : VK} (h : WN C E Γ Λ e P) (is : C.Is X) (tk : Takes X W) (S : Sat C.K F B α Γ Λ σ H) (er : ErOk C.K F W B σ Γ E)
    (q : ∀ ds Λ' p vs B' α' H', P ds Λ' → Sat C.K F B' α' Γ Λ' σ H' → Ex B B' → α <+: α' → H' p = some (.lst vs) → B' p = none → F.H0 p = none → p ∉ α' → Reps C.K B' α' ds vs → Q (.ref p) H') : UE X e σ H Q := ⟨_, h X F W is tk, B, α, S, q, er⟩
theorem WA.use {e : List Expr} {P : List D → Cells → Prop} {Q : List V → Hp → Prop} (h : WA C E Γ Λ e P) (is : C.Is X) (tk : Takes X W) (S : Sat C.K F B α Γ Λ σ H) (er : ErOk C.K F W B σ Γ E)
    (q : ∀ ds Λ' vs B' α' H', P ds Λ' → Sat C.K F B' α' Γ Λ' σ H' → Ex B B' → α <+: α' → Reps C.K B' α' ds vs → Q vs H') : UA X e σ H Q := ⟨_, h X F W is tk, B, α, S, q, er⟩
theorem WT.use {e : Expr} {P : Bool → Cells → Prop} {Q : Bool → Hp → Prop} (h : WT C E Γ Λ e P) (is : C.Is X) (tk : Takes X W) (S : Sat C.K F B α Γ Λ σ H) (er : ErOk C.K F W B σ Γ E)
    (q : ∀ b Λ' B' α' H', P b Λ' → Sat C.K F B' α' Γ Λ' σ H' → Ex B B' → α <+: α' → Q b H') : UT X e σ H Q := ⟨_, h X F W is tk, B, α, S, q, er⟩
theorem WS.use {s : Stmt} {R : Rs} {D : Ends} (h : WS C Γ Λ s R) (is : C.Is X) (hm : F.α0.length ≤ C.m) (tk : Takes X W) (S : Sat C.K F B α Γ Λ σ H) (q : EndsOk C.K F W B R D) : US X s D σ H := ⟨_, h X F W is hm tk, B, α, S, q⟩
theorem WSs.use {s : List Stmt} {R : Rs} {D : Ends} (h : WSs C Γ Λ s R) (is : C.Is X) (hm : F.α0.length ≤ C.m) (tk : Takes X W) (S : Sat C.K F B α Γ Λ σ H) (q : EndsOk C.K F W B R D) : USs X s D σ H := ⟨_, h X F W is hm tk, B, α, S, q⟩
end

/-! ### weaker wishes -/
section
variable {C : Ctx} {E : ER} {Γ : Env} {Λ : Cells}
theorem we_mono {e : Expr} {P P' : D → Cells → Prop} (h : WE C E Γ Λ e P) (i : ∀ d Λ', P d Λ' → P' d Λ') : WE C E Γ Λ e P' := fun X F W is tk =>
  pe_imp (h X F W is tk) fun σ H Q ⟨B, α, S, q, er⟩ => ⟨B, α, S, fun d Λ' v B' α' H' p => q d Λ' v B' α' H' (i d Λ' p), er⟩
theorem wa_mono {e : List Expr} {P P' : List D → Cells → Prop} (h : WA C E Γ Λ e P) (i : ∀ d Λ', P d Λ' → P' d Λ') : WA C E Γ Λ e P' := fun X F W is tk =>
  pa_imp (h X F W is tk) fun σ H Q ⟨B, α, S, q, er⟩ => ⟨B, α, S, fun ds Λ' vs B' α' H' hp => q ds Λ' vs B' α' H' (i ds Λ' hp), er⟩
theorem wt_mono {e : Expr} {P P' : Bool → Cells → Prop} (h : WT C E Γ Λ e P) (i : ∀ d Λ', P d Λ' → P' d Λ') : WT C E Γ Λ e P' := fun X F W is tk =>
  pt_imp (h X F W is tk) fun σ H Q ⟨B, α, S, q, er⟩ => ⟨B, α, S, fun b Λ' B' α' H' hp => q b Λ' B' α' H' (i b Λ' hp), er⟩
structure Rs.Le (R R' : Rs) : Prop where
  nx : ∀ Γ Λ, R.nx Γ Λ → R'.nx Γ Λ := by intros; assumption
  rt : ∀ d Λ, R.rt d Λ → R'.rt d Λ := by intros; assumption
  bk : ∀ Γ Λ, R.bk Γ Λ → R'.bk Γ Λ := by intros; assumption
  ct : ∀ Γ Λ, R.ct Γ Λ → R'.ct Γ Λ := by intros; assumption
  er : ∀ e Γ Λ, R.er e Γ Λ → R'.er e Γ Λ := by intros; assumption
theorem EndsOk.le {K : PySem.W.Frag} {F : Fm} {W : WX} {B : Hp} {R R' : Rs} {D : Ends} (h : EndsOk K F W B R' D) (i : R.Le R') : EndsOk K F W B R D :=
  ⟨fun Γ' Λ' B' α' σ' H' r => h.nx Γ' Λ' B' α' σ' H' (i.nx _ _ r), fun d Λ' v Γ' B' α' σ' H' r => h.rt d Λ' v Γ' B' α' σ' H' (i.rt _ _ r), fun Γ' Λ' B' α' σ' H' r => h.bk Γ' Λ' B' α' σ' H' (i.bk _ _ r), fun Γ' Λ' B' α' σ' H' r => h.ct Γ' Λ' B' α' σ' H' (i.ct _ _ r),
   fun err Γ' Λ' B' α' σ' H' c dx r => h.er err Γ' Λ' B' α' σ' H' c dx (i.er _ _ _ r)⟩
theorem ws_mono {s : Stmt} {R R' : Rs} (h : WS C Γ Λ s R) (i : R.Le R') : WS C Γ Λ s R' := fun X F W is hm tk =>
  ps_imp (h X F W is hm tk) fun D σ H ⟨B, α, S, q⟩ => ⟨B, α, S, q.le i⟩
theorem wss_mono {s : List Stmt} {R R' : Rs} (h : WSs C Γ Λ s R) (i : R.Le R') : WSs C Γ Λ s R' := fun X F W is hm tk =>
  pss_imp (h X F W is hm tk) fun D σ H ⟨B, α, S, q⟩ => ⟨B, α, S, q.le i⟩
end

/-! ### names, constants -/
section
variable {C : Ctx} {E : ER} {Γ : Env} {Λ : Cells} {P : D → Cells → Prop} {pos : Pos}
theorem we_name {i : Nat} {x : Str} {d : D} (hi : C.N[i]? = some x) (hv : C.vs[i]? = some true) (hg : Γ[i]? = some (some d)) (p : P d Λ)
    (hd : (x == ("__debug__" : Str)) = false := by decide) (hcd : (x == ("__classdict__" : Str)) = false := by decide) : WE C E Γ Λ (.Name x pos) P := fun X F W is tk => by
  refine pe_imp (pe_var (is.ni hi) (is.vis hi hv) hd hcd) fun σ H Q ⟨B, α, S, q, er⟩ => ?_
  obtain ⟨v, h1, h2⟩ := S.sl i d hg
  exact ⟨v, h1, q d Λ v B α H p S (Ex.refl B) (List.prefix_refl _) h2⟩
theorem we_int {i : Int} {j : Nat} (p : P (.int i) Λ) : WE C E Γ Λ (.Constant (.int i) j pos) P := fun X F W is tk =>
  pe_imp pe_int fun σ H Q ⟨B, α, S, q, er⟩ => q _ Λ _ B α H p S (Ex.refl B) (List.prefix_refl _) rfl
theorem we_bl {b : Bool} {j : Nat} (p : P (.bl b) Λ) : WE C E Γ Λ (.Constant (.bool b) j pos) P := fun X F W is tk =>
  pe_imp pe_bl fun σ H Q ⟨B, α, S, q, er⟩ => q _ Λ _ B α H p S (Ex.refl B) (List.prefix_refl _) rfl
theorem we_non {j : Nat} (p : P .non Λ) : WE C E Γ Λ (.Constant .none j pos) P := fun X F W is tk =>
  pe_imp pe_non fun σ H Q ⟨B, α, S, q, er⟩ => q _ Λ _ B α H p S (Ex.refl B) (List.prefix_refl _) rfl
theorem we_str {s : Str} {j : Nat} (p : P (.str s) Λ) : WE C E Γ Λ (.Constant (.str s) j pos) P := fun X F W is tk =>
  pe_imp pe_str fun σ H Q ⟨B, α, S, q, er⟩ => q _ Λ _ B α H p S (Ex.refl B) (List.prefix_refl _) rfl
theorem we_blt {x : Str} {v : V} {u : Value} (hj : GlAt C x) (hm : C.mg x = none) (hv : bootBuiltins x = some u) (r : RelV v u) (p : P (.raw v) Λ) (hn : x ≠ "__name__" := by decide) (hd : (x == ("__debug__" : Str)) = false := by decide) : WE C E Γ Λ (.Name x pos) P := fun X F W is tk =>
  pe_imp (pe_bltn (is.gl hj) (by rw [is.mg]; exact hm) hv r hn hd) fun σ H Q ⟨B, α, S, q, er⟩ => q _ Λ _ B α H p S (Ex.refl B) (List.prefix_refl _) rfl

/-- a new list: seen from now on by the view; or owned -/
theorem we_f {e : Expr} (h : WN C E Γ Λ e fun ds Λ' => P (.lst ds) Λ') : WE C E Γ Λ e P := fun X F W is tk => by
  refine pe_imp (h X F W is tk) fun σ H Q ⟨B, α, S, q, er⟩ => ⟨B, α, S, fun ds Λ' p vs B' α' H' hp S' e pf h1 h2 h3 h4 h5 => ?_, er⟩
  have hx : Ex B' (upd B' p (.lst vs)) := Ex.new h2
  refine q _ Λ' _ (upd B' p (.lst vs)) α' H' hp (S'.see h1 h2 h3 h4) (e.trans hx) pf ?_
  show Rep C.K _ α' (.lst ds) (.ref p)
  unfold Rep
  exact ⟨p, vs, rfl, upd_same, h5.mono hx (List.prefix_refl _)⟩
end
/-- a thing of the heap that is new is owned from now on -/
theorem Sat.adopt {K : PySem.W.Frag} {F : Fm} {B : Hp} {α : List Addr} {Γ : Env} {Λ : Cells} {σ : L2.St} {H : Hp} {p : Addr} {c : Cell} (S : Sat K F B α Γ Λ σ H) (hB : B p = none) (h0 : F.H0 p = none) (hα : p ∉ α) (hH : H p ≠ none)
    (hc : CellAt K B (α ++ [p]) H p c) (hg0 : c ≠ .gone := by intro q; cases q) : Sat K F B (α ++ [p]) Γ (Λ ++ [c]) σ H := by
  refine { S with pf := S.pf.trans (List.prefix_append _ _), nd := ?_, al := by simp [S.al], ce := fun n c' h hg => ?_, ah := fun a ha => ?_, sl := fun i d h => ?_, tb := S.tb.own (hc.celly hg0) }
  · rw [List.nodup_append]
    refine ⟨S.nd, List.nodup_cons.mpr ⟨by simp, List.nodup_nil⟩, fun a ha b hb e => ?_⟩
    simp at hb; subst hb; subst e; exact hα ha
  · by_cases hn : n < Λ.length
    · rw [List.getElem?_append_left hn] at h
      obtain ⟨a, h1, h2, h3, h4⟩ := S.ce n c' h hg
      exact ⟨a, pre_get (List.prefix_append _ _) h1, h2, h3, h4.mono (Ex.refl B) (List.prefix_append _ _) fun u q _ => q⟩
    · have hlt : n < (Λ ++ [c]).length := (List.getElem?_eq_some_iff.mp h).1
      have hn' : n = Λ.length := by simp at hlt; omega
      subst hn'
      rw [List.getElem?_append_right (Nat.le_refl _)] at h
      simp at h; subst h
      refine ⟨p, by rw [← S.al, List.getElem?_append_right (Nat.le_refl _)]; simp, hB, .inl h0, hc⟩
  · rcases List.mem_append.mp ha with h | h
    · exact S.ah a h
    · simp at h; subst h; exact ⟨hH, .inl h0⟩
  · obtain ⟨v, h1, h2⟩ := S.sl i d h
    exact ⟨v, h1, h2.mono (Ex.refl B) (List.prefix_append _ _)⟩
section
variable {C : Ctx} {E : ER} {Γ : Env} {Λ : Cells} {P : D → Cells → Prop} {pos : Pos}
theorem we_o {e : Expr} (h : WN C E Γ Λ e fun ds Λ' => P (.loc Λ'.length) (Λ' ++ [.lst ds])) : WE C E Γ Λ e P := fun X F W is tk => by
  refine pe_imp (h X F W is tk) fun σ H Q ⟨B, α, S, q, er⟩ => ⟨B, α, S, fun ds Λ' p vs B' α' H' hp S' e pf h1 h2 h3 h4 h5 => ?_, er⟩
  refine q _ _ _ B' (α' ++ [p]) H' hp (S'.adopt h2 h3 h4 (by rw [h1]; simp) ⟨vs, h1, h5.mono (Ex.refl _) (List.prefix_append _ _)⟩) e (pf.trans (List.prefix_append _ _)) ?_
  show Rep C.K _ _ (.loc _) (.ref p)
  unfold Rep
  exact ⟨p, rfl, by rw [← S'.al, List.getElem?_append_right (Nat.le_refl _)]; simp⟩
end

/-! ### argument lists -/
section
variable {C : Ctx} {E : ER} {Γ : Env} {Λ : Cells}
/-- no star stands there -/
def plainE : Expr → Bool
  | .Starred _ _ => false
  | _ => true
theorem star_plain {e : Expr} {es : List Expr} {env : PySem.Env} (h : plainE e = true) : starEach (e :: es) env = (false, eval e env) :: starEach es env := by
  cases e <;> first | rfl | cases h
theorem wa_nil {P : List D → Cells → Prop} (p : P [] Λ) : WA C E Γ Λ [] P := fun X F W is tk =>
  pa_imp pa_nil fun σ H Q ⟨B, α, S, q, er⟩ => q [] Λ [] B α H p S (Ex.refl B) (List.prefix_refl _) .nil
theorem wa_cons {e : Expr} {es : List Expr} {P : List D → Cells → Prop} (h : WE C E Γ Λ e fun d Λ1 => WA C E Γ Λ1 es fun ds Λ2 => P (d :: ds) Λ2) (he : plainE e = true := by rfl) : WA C E Γ Λ (e :: es) P := fun X F W is tk => by
  refine pa_imp (pa_cons pe_U pa_U (star_plain he)) fun σ H Q ⟨B, α, S, q, er⟩ => ?_
  refine WE.use h is tk S er fun d Λ1 v B1 α1 H1 p1 S1 e1 f1 r1 => ?_
  refine WA.use p1 is tk S1 (er.mono e1) fun ds Λ2 vs B2 α2 H2 p2 S2 e2 f2 r2 => ?_
  exact q _ Λ2 _ B2 α2 H2 p2 S2 (e1.trans e2) (f1.trans f2) (.cons (r1.mono e2 f2) r2)
/-- a list of written items -/
theorem wn_lst {es : List Expr} {pos : Pos} {P : List D → Cells → Prop} (h : WA C E Γ Λ es fun ds Λ' => ds.length ≤ sizeLine ∧ P ds Λ') : WN C E Γ Λ (.List es pos) P := fun X F W is tk => by
  refine pe_imp (pe_lst pa_U) fun σ H Q ⟨B, α, S, q, er⟩ => ?_
  refine WA.use h is tk S er fun ds Λ1 vs B1 α1 H1 p1 S1 e1 f1 r1 => ⟨by rw [r1.length]; exact p1.1, fun p hp => ?_⟩
  exact q ds Λ1 p vs B1 α1 _ p1.2 (S1.grow (Ex.new hp)) e1 f1 upd_same (S1.bh.back hp) (S1.dm p hp) (fun ha => (S1.ah p ha).1 hp) r1
theorem we_tup {es : List Expr} {x1} {pos : Pos} {P : D → Cells → Prop} (h : WA C E Γ Λ es fun ds Λ' => ds.length ≤ sizeLine ∧ P (.tup ds) Λ') : WE C E Γ Λ (.Tuple es x1 pos) P := fun X F W is tk => by
  refine pe_imp (pe_tupX pa_U) fun σ H Q ⟨B, α, S, q, er⟩ => ?_
  refine WA.use h is tk S er fun ds Λ1 vs B1 α1 H1 p1 S1 e1 f1 r1 => ⟨by rw [r1.length]; exact p1.1, fun p its hp => ?_⟩
  have hx : Ex B1 (upd B1 p (.frz (tupO its) (.tup vs))) := Ex.new (S1.bh.back hp)
  refine q _ Λ1 _ (upd B1 p (.frz (tupO its) (.tup vs))) α1 _ p1.2 (S1.lay hp) (e1.trans hx) f1 ?_
  show Rep C.K _ α1 (.tup ds) (.ref p)
  unfold Rep
  exact ⟨p, vs, rfl, SqX.new upd_same, r1.mono hx (List.prefix_refl _)⟩
end

/-! ### two-place operations by data -/
/-- what a two-place operation by values does to data -/
def OpK (K : PySem.W.Frag) (r : R2) (x y : D) (Γ : Env) (Λ : Cells) (P : D → Cells → Prop) : Prop := ∀ F B α σ H vx vy (Q : VK), Sat K F B α Γ Λ σ H → Rep K B α x vx → Rep K B α y vy →
  (∀ d Λ' v B' α' H', P d Λ' → Sat K F B' α' Γ Λ' σ H' → Ex B B' → α <+: α' → Rep K B' α' d v → Q v H') → r vx vy H Q
/-- .. to a value that is no new thing -/
theorem OpK.val {K : PySem.W.Frag} {r : R2} {x y z : D} {Γ : Env} {Λ : Cells} {P : D → Cells → Prop} (p : P z Λ) (h : ∀ F B α σ H vx vy (Q : VK), Sat K F B α Γ Λ σ H → Rep K B α x vx → Rep K B α y vy → (∀ v, Rep K B α z v → Q v H) → r vx vy H Q) : OpK K r x y Γ Λ P :=
  fun F B α σ H vx vy Q S rx ry q => h F B α σ H vx vy Q S rx ry fun v rv => q z Λ v B α H p S (Ex.refl B) (List.prefix_refl _) rv
section
variable {C : Ctx} {E : ER} {Γ : Env} {Λ : Cells} {P : D → Cells → Prop} {pos : Pos} {a b : Expr}
theorem we_opK {op : Operator} {r : R2} (ho : ∀ X, C.Is X → OpR X (binaryOp op) r) (h : WE C E Γ Λ a fun x Λ1 => WE C E Γ Λ1 b fun y Λ2 => OpK C.K r x y Γ Λ2 P) : WE C E Γ Λ (.BinOp a op b pos) P := fun X F W is tk => by
  refine pe_imp (pe_op (ho X is) pe_U pe_U) fun σ H Q ⟨B, α, S, q, er⟩ => ?_
  refine WE.use h is tk S er fun x Λ1 vx B1 α1 H1 p1 S1 e1 f1 r1 => ?_
  refine WE.use p1 is tk S1 (er.mono e1) fun y Λ2 vy B2 α2 H2 p2 S2 e2 f2 r2 => ?_
  exact p2 F B2 α2 σ H2 vx vy Q S2 (r1.mono e2 f2) r2 fun d Λ' v B' α' H' p' S' e' f' r' => q d Λ' v B' α' H' p' S' ((e1.trans e2).trans e') ((f1.trans f2).trans f') r'
theorem we_cmpK {op : CmpOp} {r : R2} (ho : ∀ X, C.Is X → OpR X (compareOp op) r) (h : WE C E Γ Λ a fun x Λ1 => WE C E Γ Λ1 b fun y Λ2 => OpK C.K r x y Γ Λ2 P) (hm : behindInMarks op b = false) : WE C E Γ Λ (.Compare a [op] [b] pos) P := fun X F W is tk => by
  refine pe_imp (pe_cmpR (ho X is) pe_U pe_U hm) fun σ H Q ⟨B, α, S, q, er⟩ => ?_
  refine WE.use h is tk S er fun x Λ1 vx B1 α1 H1 p1 S1 e1 f1 r1 => ?_
  refine WE.use p1 is tk S1 (er.mono e1) fun y Λ2 vy B2 α2 H2 p2 S2 e2 f2 r2 => ?_
  exact p2 F B2 α2 σ H2 vx vy Q S2 (r1.mono e2 f2) r2 fun d Λ' v B' α' H' p' S' e' f' r' => q d Λ' v B' α' H' p' S' ((e1.trans e2).trans e') ((f1.trans f2).trans f') r'
/-- a test that is a comparison -/
theorem wt_cmpK {op : CmpOp} {r : R2} {P : Bool → Cells → Prop} (ho : ∀ X, C.Is X → OpR X (compareOp op) r) (h : WE C E Γ Λ a fun x Λ1 => WE C E Γ Λ1 b fun y Λ2 => OpK C.K r x y Γ Λ2 fun d Λ3 => ∃ c, d = .bl c ∧ P c Λ3) (hm : behindInMarks op b = false) : WT C E Γ Λ (.Compare a [op] [b] pos) P := fun X F W is tk => by
  refine pt_imp (pt_cmpR (ho X is) pe_U pe_U hm) fun σ H Q ⟨B, α, S, q, er⟩ => ?_
  refine WE.use h is tk S er fun x Λ1 vx B1 α1 H1 p1 S1 e1 f1 r1 => ?_
  refine WE.use p1 is tk S1 (er.mono e1) fun y Λ2 vy B2 α2 H2 p2 S2 e2 f2 r2 => ?_
  refine p2 F B2 α2 σ H2 vx vy _ S2 (r1.mono e2 f2) r2 fun d Λ' v B' α' H' p' S' e' f' r' => ?_
  obtain ⟨c, rfl, p'⟩ := p'
  exact ⟨c, r', q c Λ' B' α' H' p' S' ((e1.trans e2).trans e') ((f1.trans f2).trans f')⟩
end
end Pl

namespace Pl
open PySem L2 PyProof.Rows

/-! ### looking through a cell -/
/-- a cell's number is read as what stands in the cell -/
def vw (Λ : Cells) : D → D
  | .loc n => match Λ[n]? with
    | some (.lst ds) => .lst ds
    | some (.dic ks ds) => .dic ks ds
    | some (.ins C ns ds) => .ins C ns ds
    | _ => .loc n
  | d => d
section
variable {K : PySem.W.Frag} {F : Fm} {B : Hp} {α : List Addr} {Γ : Env} {Λ : Cells} {σ : L2.St} {H : Hp}
/-- a list, wherever it stands -/
theorem Sat.lst (S : Sat K F B α Γ Λ σ H) {x : D} {v : V} {ds : List D} (r : Rep K B α x v) (e : vw Λ x = .lst ds) : ∃ a vs, v = .ref a ∧ H a = some (.lst vs) ∧ Reps K B α ds vs := by
  cases x with
  | lst es =>
    cases e
    unfold Rep at r
    obtain ⟨a, vs, h1, h2, h3⟩ := r
    exact ⟨a, vs, h1, S.bh _ _ h2, h3⟩
  | loc n =>
    unfold Rep at r
    obtain ⟨a, h1, h2⟩ := r
    simp only [vw] at e
    cases hc : Λ[n]? with
    | none => rw [hc] at e; cases e
    | some c =>
      rw [hc] at e
      cases c <;> simp at e
      subst e
      obtain ⟨a', q1, q2, q3, q4⟩ := S.ce n _ hc (by simp)
      rw [h2] at q1; cases q1
      obtain ⟨vs, q5, q6⟩ := q4
      exact ⟨a, vs, h1, q5, q6⟩
  | _ => cases e
/-- a sequence: a list, a locked list, a tuple -/
def seqD (Λ : Cells) (x : D) : Option (List D) := match vw Λ x with
  | .lst ds => some ds
  | .fzl ds => some ds
  | .tup ds => some ds
  | _ => none
theorem Sat.seq (S : Sat K F B α Γ Λ σ H) {x : D} {v : V} {ds : List D} (r : Rep K B α x v) (e : seqD Λ x = some ds) : ∃ a vs, v = .ref a ∧ (SqL K H a vs ∨ SqT K H a vs) ∧ Reps K B α ds vs := by
  unfold seqD at e
  split at e
  · rename_i es he
    cases e
    obtain ⟨a, vs, h1, h2, h3⟩ := S.lst r he
    exact ⟨a, vs, h1, .inl (SqL.of h2), h3⟩
  · rename_i es he
    cases e
    cases x with
    | fzl es' =>
      cases he
      unfold Rep at r
      obtain ⟨a, vs, h1, h2, h3⟩ := r
      exact ⟨a, vs, h1, .inl (S.bh.sqL h2), h3⟩
    | loc n =>
      simp only [vw] at he
      cases hc : Λ[n]? with
      | none => rw [hc] at he; cases he
      | some c => rw [hc] at he; cases c <;> simp at he
    | _ => cases he
  · rename_i es he
    cases e
    cases x with
    | tup es' =>
      cases he
      unfold Rep at r
      obtain ⟨a, vs, h1, h2, h3⟩ := r
      exact ⟨a, vs, h1, .inr (S.bh.sqT h2.1), h3⟩
    | loc n =>
      simp only [vw] at he
      cases hc : Λ[n]? with
      | none => rw [hc] at he; cases he
      | some c => rw [hc] at he; cases c <;> simp at he
    | _ => cases he
  · cases e
/-- .. a list alone -/
def lstD (Λ : Cells) (x : D) : Option (List D) := match vw Λ x with
  | .lst ds => some ds
  | .fzl ds => some ds
  | _ => none
theorem Sat.seqL (S : Sat K F B α Γ Λ σ H) {x : D} {v : V} {ds : List D} (r : Rep K B α x v) (e : lstD Λ x = some ds) : ∃ a vs, v = .ref a ∧ SqL K H a vs ∧ Reps K B α ds vs := by
  unfold lstD at e
  split at e
  · rename_i es he
    cases e
    obtain ⟨a, vs, h1, h2, h3⟩ := S.lst r he
    exact ⟨a, vs, h1, SqL.of h2, h3⟩
  · rename_i es he
    cases e
    cases x with
    | fzl es' =>
      cases he
      unfold Rep at r
      obtain ⟨a, vs, h1, h2, h3⟩ := r
      exact ⟨a, vs, h1, S.bh.sqL h2, h3⟩
    | loc n =>
      simp only [vw] at he
      cases hc : Λ[n]? with
      | none => rw [hc] at he; cases he
      | some c => rw [hc] at he; cases c <;> simp at he
    | _ => cases he
  · cases e
end

/-! ### arithmetic -/
section
variable {C : Ctx} {E : ER} {Γ : Env} {Λ : Cells} {P : D → Cells → Prop} {pos : Pos} {a b : Expr}
/-- what + does -/
def addP (Λ : Cells) (x y : D) (P : D → Prop) : Prop := match vw Λ x, vw Λ y with
  | .int i, .int j => P (.int (i + j))
  | .str s, .str t => s.length + t.length ≤ sizeLine ∧ P (.str (s ++ t))
  | .tup xs, .tup ys => xs.length + ys.length ≤ sizeLine ∧ P (.tup (xs ++ ys))
  | .lst xs, .lst ys => xs.length + ys.length ≤ sizeLine ∧ P (.lst (xs ++ ys))
  | _, _ => False
def rAdd (K : PySem.W.Frag) : R2 := fun x y H Q => (rI0 (fun i j => .int (i + j)) x y H Q) ∨ ((∃ i j, x = .str i ∧ y = .str j ∧ i.length + j.length ≤ sizeLine ∧ Q (.str (i ++ j)) H) ∨ (rCatX K x y H Q ∨ rCat x y H Q))
theorem op_addA {X : Cx} : OpR X (binaryOp .Add) (rAdd X.K) := op_add.or (op_add_str.or (op_catX.or op_cat))
theorem add_K {K : PySem.W.Frag} {x y : D} (h : addP Λ x y fun d => P d Λ) : OpK K (rAdd K) x y Γ Λ P := by
  intro F B α σ H vx vy Q S rx ry q
  have keep : ∀ {z : D} {v : V}, P z Λ → Rep K B α z v → Q v H := fun {z v} p r => q z Λ v B α H p S (Ex.refl B) (List.prefix_refl _) r
  have noc : ∀ {z w : D}, vw Λ z = w → (∀ n, w ≠ .loc n) → (∀ ds, w ≠ .lst ds) → (∀ ks ds, w ≠ .dic ks ds) → (∀ c ns ds, w ≠ .ins c ns ds) → z = w := fun {z w} e h1 h2 h3 h4 => by
    cases z with
    | loc n =>
      simp only [vw] at e
      cases hc : Λ[n]? with
      | none => rw [hc] at e; exact absurd e.symm (h1 n)
      | some c =>
        rw [hc] at e
        cases c with
        | lst ds => exact absurd e.symm (h2 ds)
        | dic ks ds => exact absurd e.symm (h3 ks ds)
        | ins c ns ds => exact absurd e.symm (h4 c ns ds)
        | gone => exact absurd e.symm (h1 n)
    | _ => exact e
  unfold addP at h
  split at h
  · rename_i i j hx hy
    have ex := noc hx (by simp) (by simp) (by simp) (by simp)
    have ey := noc hy (by simp) (by simp) (by simp) (by simp)
    subst ex; subst ey
    unfold Rep at rx ry
    exact .inl ⟨i, j, rx, ry, keep h rfl⟩
  · rename_i s t hx hy
    have ex := noc hx (by simp) (by simp) (by simp) (by simp)
    have ey := noc hy (by simp) (by simp) (by simp) (by simp)
    subst ex; subst ey
    unfold Rep at rx ry
    exact .inr (.inl ⟨s, t, rx, ry, h.1, keep h.2 rfl⟩)
  · rename_i xs ys hx hy
    have ex := noc hx (by simp) (by simp) (by simp) (by simp)
    have ey := noc hy (by simp) (by simp) (by simp) (by simp)
    subst ex; subst ey
    unfold Rep at rx ry
    obtain ⟨p1, v1, rfl, q1, r1⟩ := rx
    obtain ⟨p2, v2, rfl, q2, r2⟩ := ry
    refine .inr (.inr (.inl ⟨p1, p2, v1, v2, rfl, rfl, S.bh.sqT q1.1, S.bh.sqT q2.1, by rw [r1.length, r2.length]; exact h.1, fun e => ?_, fun _ e => ?_, fun _ _ t its ht => ?_⟩))
    · have ex : xs = [] := by
        have := r1.length
        rw [e] at this
        exact List.length_eq_zero_iff.mp this.symm
      subst ex
      refine keep h.2 ?_
      rw [List.nil_append]
      unfold Rep
      exact ⟨p2, v2, rfl, q2, r2⟩
    · have ey : ys = [] := by
        have := r2.length
        rw [e] at this
        exact List.length_eq_zero_iff.mp this.symm
      subst ey
      refine keep h.2 ?_
      rw [List.append_nil]
      unfold Rep
      exact ⟨p1, v1, rfl, q1, r1⟩
    · exact q _ Λ _ (upd B t (.frz (tupO its) (.tup (v1 ++ v2)))) α _ h.2 (S.lay ht) (Ex.new (S.bh.back ht)) (List.prefix_refl _) (by
            show Rep K _ α (.tup (xs ++ ys)) (.ref t)
            unfold Rep
            exact ⟨t, v1 ++ v2, rfl, SqX.new upd_same, (r1.append r2).mono (Ex.new (S.bh.back ht)) (List.prefix_refl _)⟩)
  · rename_i xs ys hx hy
    obtain ⟨p1, v1, rfl, q1, r1⟩ := S.lst rx hx
    obtain ⟨p2, v2, rfl, q2, r2⟩ := S.lst ry hy
    refine .inr (.inr (.inr ⟨p1, p2, v1, v2, rfl, rfl, q1, q2, by rw [r1.length, r2.length]; exact h.1, fun t ht => ?_⟩))
    exact q _ Λ _ (upd B t (.lst (v1 ++ v2))) α _ h.2 (S.lay ht) (Ex.new (S.bh.back ht)) (List.prefix_refl _) (by
            show Rep K _ α (.lst (xs ++ ys)) (.ref t)
            unfold Rep
            exact ⟨t, v1 ++ v2, rfl, upd_same, (r1.append r2).mono (Ex.new (S.bh.back ht)) (List.prefix_refl _)⟩)
  · exact h.elim
theorem we_add (h : WE C E Γ Λ a fun x Λ1 => WE C E Γ Λ1 b fun y Λ2 => addP Λ2 x y fun d => P d Λ2) : WE C E Γ Λ (.BinOp a .Add b pos) P :=
  we_opK (r := rAdd C.K) (fun X is => by rw [← is.K]; exact op_addA) (we_mono h fun x Λ1 p => we_mono p fun y Λ2 q => add_K q)

/-- what an operation on two ints does -/
def intP (g : Int → Int → Prop) (f : Int → Int → D) (x y : D) (P : D → Prop) : Prop := match x, y with
  | .int i, .int j => g i j ∧ P (f i j)
  | _, _ => False
theorem int_K {K : PySem.W.Frag} {g : Int → Int → Prop} {f : Int → Int → V} {f' : Int → Int → D} (hf : ∀ i j B α, Rep K B α (f' i j) (f i j)) {x y : D} (h : intP g f' x y fun d => P d Λ) : OpK K (rI g f) x y Γ Λ P := by
  intro F B α σ H vx vy Q S rx ry q
  unfold intP at h
  split at h
  · rename_i i j
    unfold Rep at rx ry
    exact ⟨i, j, rx, ry, h.1, q _ Λ _ B α H h.2 S (Ex.refl B) (List.prefix_refl _) (hf i j B α)⟩
  · exact h.elim
theorem we_intK {op : Operator} {g : Int → Int → Prop} {f : Int → Int → Int} (ho : ∀ X, C.Is X → OpR X (binaryOp op) (rI g fun i j => .int (f i j))) (h : WE C E Γ Λ a fun x Λ1 => WE C E Γ Λ1 b fun y Λ2 => intP g (fun i j => .int (f i j)) x y fun d => P d Λ2) : WE C E Γ Λ (.BinOp a op b pos) P :=
  we_opK ho (we_mono h fun x Λ1 p => we_mono p fun y Λ2 q => int_K (fun i j B α => by unfold Rep; rfl) q)
theorem we_sub (h : WE C E Γ Λ a fun x Λ1 => WE C E Γ Λ1 b fun y Λ2 => intP (fun _ _ => True) (fun i j => .int (i - j)) x y fun d => P d Λ2) : WE C E Γ Λ (.BinOp a .Sub b pos) P :=
  we_intK (fun X is => opI fun _ _ _ _ _ _ _ _ q => sub_int q) h
theorem we_mul (h : WE C E Γ Λ a fun x Λ1 => WE C E Γ Λ1 b fun y Λ2 => intP CMul (fun i j => .int (i * j)) x y fun d => P d Λ2) : WE C E Γ Λ (.BinOp a .Mult b pos) P :=
  we_intK (fun X is => op_mul) h
theorem we_fdiv (h : WE C E Γ Λ a fun x Λ1 => WE C E Γ Λ1 b fun y Λ2 => intP CDivW (fun i j => .int (i / j)) x y fun d => P d Λ2) : WE C E Γ Λ (.BinOp a .FloorDiv b pos) P :=
  we_intK (fun X is => op_fdivW) h
theorem we_mod (h : WE C E Γ Λ a fun x Λ1 => WE C E Γ Λ1 b fun y Λ2 => intP (fun _ j => 0 < j) (fun i j => .int (i % j)) x y fun d => P d Λ2) : WE C E Γ Λ (.BinOp a .Mod b pos) P :=
  we_intK (fun X is => op_mod) h
end

/-! ### data as the library's -/
mutual
def py : D → PyData
  | .non => .none
  | .bl b => .bool b
  | .int i => .int i
  | .str s => .str s
  | .tup ds => .tuple (pys ds)
  | .lst ds => .list (pys ds)
  | .fzl ds => .list (pys ds)
  | .loc _ => .dict []
  | .raw _ => .dict []
  | .ins _ _ _ => .dict []
  | .dic _ _ => .dict []
  | .exc _ _ _ => .dict []
def pys : List D → List PyData
  | [] => []
  | d :: ds => py d :: pys ds
end
mutual
theorem Rep.dp {K : PySem.W.Frag} {B H : Hp} {α : List Addr} (e : Ex B H) : ∀ (d : D) (v : V), (py d).plain = true → Rep K B α d v → Dp K H v (py d)
  | .non, _, _, h => by unfold Rep at h; subst h; exact .non
  | .bl b, _, _, h => by unfold Rep at h; subst h; exact .bl b
  | .int i, _, _, h => by unfold Rep at h; subst h; exact .int i
  | .str s, _, _, h => by unfold Rep at h; subst h; exact .str s
  | .tup ds, _, p, h => by
    unfold Rep at h
    obtain ⟨a, vs, rfl, h1, h2⟩ := h
    exact .tup (e.sqT h1.1) (Reps.dp e ds vs p h2)
  | .lst ds, _, p, h => by
    unfold Rep at h
    obtain ⟨a, vs, rfl, h1, h2⟩ := h
    exact .lst (SqL.of (e _ _ h1)) (Reps.dp e ds vs p h2)
  | .fzl ds, _, p, h => by
    unfold Rep at h
    obtain ⟨a, vs, rfl, h1, h2⟩ := h
    exact .lst (e.sqL h1) (Reps.dp e ds vs p h2)
  | .loc _, _, p, _ => nomatch p
  | .raw _, _, p, _ => nomatch p
  | .ins _ _ _, _, p, _ => nomatch p
  | .dic _ _, _, p, _ => nomatch p
  | .exc _ _ _, _, p, _ => nomatch p
theorem Reps.dp {K : PySem.W.Frag} {B H : Hp} {α : List Addr} (e : Ex B H) : ∀ (ds : List D) (vs : List V), PyData.plainAll (pys ds) = true → Reps K B α ds vs → DpAll K H vs (pys ds)
  | [], _, _, h => by unfold Reps at h; subst h; exact .nil
  | d :: ds, _, p, h => by
    unfold Reps at h
    obtain ⟨v, r, rfl, h1, h2⟩ := h
    have p' : ((py d).plain && PyData.plainAll (pys ds)) = true := p
    rw [Bool.and_eq_true] at p'
    exact .cons (Rep.dp e d v p'.1 h1) (Reps.dp e ds r p'.2 h2)
end
theorem Sat.dp {K : PySem.W.Frag} {F : Fm} {B : Hp} {α : List Addr} {Γ : Env} {Λ : Cells} {σ : L2.St} {H : Hp} (S : Sat K F B α Γ Λ σ H) {x : D} {v : V} (r : Rep K B α x v) (p : (py (vw Λ x)).plain = true) : Dp K H v (py (vw Λ x)) := by
  cases x with
  | loc n =>
    simp only [vw] at p ⊢
    cases hc : Λ[n]? with
    | none => rw [hc] at p; cases p
    | some c =>
      rw [hc] at p
      cases c with
      | lst ds =>
        simp only at p ⊢
        obtain ⟨a, vs, rfl, h1, h2⟩ := S.lst r (ds := ds) (by simp [vw, hc])
        exact .lst (SqL.of h1) (Reps.dp S.bh ds vs p h2)
      | _ => cases p
  | _ => exact Rep.dp S.bh _ v p r

/-! ### comparisons -/
section
variable {C : Ctx} {E : ER} {Γ : Env} {Λ : Cells} {P : D → Cells → Prop} {pos : Pos} {a b : Expr}
/-- what == needs of two data, and what it says -/
def eqP (Λ : Cells) (x y : D) (P : Bool → Prop) : Prop := match x, y with
  | .int i, .int j => P (decide (i = j))
  | .str s, .str t => P (decide (s = t))
  | .bl c, .bl d => P (decide (c = d))
  | x, y => (py (vw Λ x)).plain = true ∧ (py (vw Λ y)).plain = true ∧ min (py (vw Λ x)).depth (py (vw Λ y)).depth ≤ 190 ∧ P (PyData.eqv (py (vw Λ x)) (py (vw Λ y)))
def rEqP (K : PySem.W.Frag) (neg : Bool → Bool) : R2 := fun x y H Q => ∃ d e, Dp K H x d ∧ Dp K H y e ∧ d.plain = true ∧ e.plain = true ∧ min d.depth e.depth ≤ 190 ∧ Q (.bl (neg (PyData.eqv d e))) H
theorem Ctx.Is.u200 {X : Cx} (h : C.Is X) : X.A.units + 200 < cLine := by have := h.roomW.un; omega
theorem op_eqP {X : Cx} (is : C.Is X) : OpR X (compareOp .Eq) (rEqP X.K id) := by
  intro pins s σ H x y v u Q I rx ry h
  obtain ⟨d, e, hd, he, sd, se, hu, q⟩ := h
  obtain ⟨as, r1⟩ := Dp.reads I d x v hd rx
  obtain ⟨bs, r2⟩ := Dp.reads I e y u he ry
  have := is.u200
  refine SeqAt.eq_plain r1 r2 sd se (by omega) ⟨.bl _, H, I, rfl, q⟩
theorem op_neP {X : Cx} (is : C.Is X) : OpR X (compareOp .NotEq) (rEqP X.K not) := by
  intro pins s σ H x y v u Q I rx ry h
  obtain ⟨d, e, hd, he, sd, se, hu, q⟩ := h
  obtain ⟨as, r1⟩ := Dp.reads I d x v hd rx
  obtain ⟨bs, r2⟩ := Dp.reads I e y u he ry
  have := is.u200
  refine SeqAt.ne_plain r1 r2 sd se (by omega) ⟨.bl _, H, I, rfl, q⟩
theorem eq_K {K : PySem.W.Frag} {neg : Bool → Bool} {x y : D} (h : eqP Λ x y fun c => P (.bl (neg c)) Λ) : OpK K (rEqP K neg) x y Γ Λ P := by
  intro F B α σ H vx vy Q S rx ry q
  have fin : ∀ {c : Bool}, P (.bl (neg c)) Λ → Q (.bl (neg c)) H := fun {c} p => q _ Λ _ B α H p S (Ex.refl B) (List.prefix_refl _) (by unfold Rep; rfl)
  have gen : ∀ {x y : D}, Rep K B α x vx → Rep K B α y vy → ((py (vw Λ x)).plain = true ∧ (py (vw Λ y)).plain = true ∧ min (py (vw Λ x)).depth (py (vw Λ y)).depth ≤ 190 ∧ P (.bl (neg (PyData.eqv (py (vw Λ x)) (py (vw Λ y))))) Λ) → rEqP K neg vx vy H Q := fun {x y} rx ry ⟨h1, h2, h3, h4⟩ =>
    ⟨_, _, S.dp rx h1, S.dp ry h2, h1, h2, h3, fin h4⟩
  unfold eqP at h
  split at h
  · refine gen rx ry ⟨rfl, rfl, (by show min 0 0 ≤ 190; decide), ?_⟩
    show P (.bl (neg (PyData.eqv (.int _) (.int _)))) Λ
    rw [PyData.eqv, Bool.beq_eq_decide_eq]; exact h
  · refine gen rx ry ⟨rfl, rfl, (by show min 0 0 ≤ 190; decide), ?_⟩
    show P (.bl (neg (PyData.eqv (.str _) (.str _)))) Λ
    rw [PyData.eqv, Bool.beq_eq_decide_eq]; exact h
  · refine gen rx ry ⟨rfl, rfl, (by show min 0 0 ≤ 190; decide), ?_⟩
    show P (.bl (neg (PyData.eqv (.bool _) (.bool _)))) Λ
    rw [PyData.eqv, Bool.beq_eq_decide_eq]; exact h
  · exact gen rx ry h
theorem we_eq (h : WE C E Γ Λ a fun x Λ1 => WE C E Γ Λ1 b fun y Λ2 => eqP Λ2 x y fun c => P (.bl c) Λ2) : WE C E Γ Λ (.Compare a [.Eq] [b] pos) P :=
  we_cmpK (r := rEqP C.K id) (fun X is => by rw [← is.K]; exact op_eqP is) (we_mono h fun x Λ1 p => we_mono p fun y Λ2 q => eq_K (neg := id) q) (nomark _)
theorem eqP_mono {x y : D} {P P' : Bool → Prop} (h : eqP Λ x y P) (i : ∀ c, P c → P' c) : eqP Λ x y P' := by
  unfold eqP at h ⊢
  split at h
  · exact i _ h
  · exact i _ h
  · exact i _ h
  · exact ⟨h.1, h.2.1, h.2.2.1, i _ h.2.2.2⟩
theorem wt_eq {P : Bool → Cells → Prop} (h : WE C E Γ Λ a fun x Λ1 => WE C E Γ Λ1 b fun y Λ2 => eqP Λ2 x y fun c => P c Λ2) : WT C E Γ Λ (.Compare a [.Eq] [b] pos) P :=
  wt_cmpK (r := rEqP C.K id) (fun X is => by rw [← is.K]; exact op_eqP is) (we_mono h fun x Λ1 p => we_mono p fun y Λ2 q => eq_K (neg := id) (eqP_mono q fun c p => ⟨_, rfl, p⟩)) (nomark _)
theorem wt_ne {P : Bool → Cells → Prop} (h : WE C E Γ Λ a fun x Λ1 => WE C E Γ Λ1 b fun y Λ2 => eqP Λ2 x y fun c => P (!c) Λ2) : WT C E Γ Λ (.Compare a [.NotEq] [b] pos) P :=
  wt_cmpK (r := rEqP C.K not) (fun X is => by rw [← is.K]; exact op_neP is) (we_mono h fun x Λ1 p => we_mono p fun y Λ2 q => eq_K (neg := not) (eqP_mono q fun c p => ⟨_, rfl, p⟩)) (nomark _)

/-- <, <=, >, >= of ints, < of texts -/
def ordP (f : Int → Int → Bool) (g : Str → Str → Bool) (ok : Bool) (x y : D) (P : Bool → Prop) : Prop := match x, y with
  | .int i, .int j => P (f i j)
  | .str s, .str t => ok = true ∧ P (g s t)
  | _, _ => False
def ltP := ordP (fun i j => decide (i < j)) (fun s t => decide (s.cps.toList < t.cps.toList)) true
def gtP := ordP (fun i j => decide (j < i)) (fun _ _ => false) false
def rOrd (f : Int → Int → Bool) (g : Str → Str → Bool) (ok : Bool) : R2 := fun x y H Q => (rI0 (fun i j => .bl (f i j)) x y H Q) ∨ (ok = true ∧ ∃ i j, x = .str i ∧ y = .str j ∧ Q (.bl (g i j)) H)
theorem ord_K {K : PySem.W.Frag} {f : Int → Int → Bool} {g : Str → Str → Bool} {ok : Bool} {x y : D} (h : ordP f g ok x y fun c => P (.bl c) Λ) : OpK K (rOrd f g ok) x y Γ Λ P := by
  intro F B α σ H vx vy Q S rx ry q
  have fin : ∀ {c : Bool}, P (.bl c) Λ → Q (.bl c) H := fun {c} p => q _ Λ _ B α H p S (Ex.refl B) (List.prefix_refl _) (by unfold Rep; rfl)
  unfold ordP at h
  split at h
  · unfold Rep at rx ry
    exact .inl ⟨_, _, rx, ry, fin h⟩
  · unfold Rep at rx ry
    exact .inr ⟨h.1, _, _, rx, ry, fin h.2⟩
  · exact h.elim
theorem OpR.ff {X : Cx} {f : Value → Value → Sem Value} {r : R2} (h : OpR X f r) {g : Str → Str → Bool} : OpR X f (fun x y H Q => r x y H Q ∨ (false = true ∧ ∃ i j, x = .str i ∧ y = .str j ∧ Q (.bl (g i j)) H)) := by
  intro pins s σ H x y v u Q I rx ry q
  rcases q with q | q
  · exact h pins s σ H x y v u Q I rx ry q
  · exact absurd q.1 (by decide)
theorem op_ltA {X : Cx} : OpR X (compareOp .Lt) (rOrd (fun i j => decide (i < j)) (fun s t => decide (s.cps.toList < t.cps.toList)) true) := by
  intro pins s σ H x y v u Q I rx ry q
  rcases q with q | q
  · exact op_lt pins s σ H x y v u Q I rx ry q
  · exact op_lt_str pins s σ H x y v u Q I rx ry q.2
theorem op_gtA {X : Cx} : OpR X (compareOp .Gt) (rOrd (fun i j => decide (j < i)) (fun _ _ => false) false) := OpR.ff op_gt
theorem wt_ltK {op : CmpOp} {f : Int → Int → Bool} {g : Str → Str → Bool} {ok : Bool} {P : Bool → Cells → Prop} (ho : ∀ X, OpR X (compareOp op) (rOrd f g ok)) (hm : ∀ b, behindInMarks op b = false)
    (h : WE C E Γ Λ a fun x Λ1 => WE C E Γ Λ1 b fun y Λ2 => ordP f g ok x y fun c => P c Λ2) : WT C E Γ Λ (.Compare a [op] [b] pos) P :=
  wt_cmpK (fun X is => ho X) (we_mono h fun x Λ1 p => we_mono p fun y Λ2 q => ord_K (by
    unfold ordP at q ⊢
    split at q
    · exact ⟨_, rfl, q⟩
    · exact ⟨q.1, _, rfl, q.2⟩
    · exact q)) (hm b)
theorem wt_lt {P : Bool → Cells → Prop} (h : WE C E Γ Λ a fun x Λ1 => WE C E Γ Λ1 b fun y Λ2 => ltP x y fun c => P c Λ2) : WT C E Γ Λ (.Compare a [.Lt] [b] pos) P := wt_ltK (fun _ => op_ltA) (fun b => nomark b) h
theorem wt_gt {P : Bool → Cells → Prop} (h : WE C E Γ Λ a fun x Λ1 => WE C E Γ Λ1 b fun y Λ2 => gtP x y fun c => P c Λ2) : WT C E Γ Λ (.Compare a [.Gt] [b] pos) P := wt_ltK (fun _ => op_gtA) (fun b => nomark b) h
/-- is None, is not None -/
def isN : D → Option Bool
  | .non => some true
  | .loc _ => some false
  | .raw _ => none
  | _ => some false
theorem isN_rep {K : PySem.W.Frag} {B : Hp} {α : List Addr} {x : D} {v : V} {c : Bool} (r : Rep K B α x v) (e : isN x = some c) : decide (v = .non) = c := by
  cases x <;> simp only [isN] at e <;> (try cases e) <;> unfold Rep at r
  · subst r; rfl
  all_goals first
    | (subst r; rfl)
    | (obtain ⟨_, _, rfl, _⟩ := r; rfl)
    | (obtain ⟨_, rfl, _⟩ := r; rfl)
    | (obtain ⟨_, _, _, rfl, _⟩ := r; rfl)
end
end Pl

namespace Pl
open PySem L2 PyProof.Rows

/-! ### in, not in -/
section
variable {C : Ctx} {E : ER} {Γ : Env} {Λ : Cells} {P : D → Cells → Prop} {pos : Pos} {a b : Expr}
/-- a text in a text -/
def strIn (x y : Str) : Bool := !(Builtin.Str.occurrences y x 0 y.length 1).isEmpty
def dLook (ks : List Key) (ds : List D) (k : Key) : Option D := ((ks.zip ds).find? fun kv => decide (kv.1 = k)).map (·.2)
def keyD : D → Option Key
  | .int i => some (.inl i)
  | .str s => some (.inr s)
  | _ => none
theorem keyD_rep {K : PySem.W.Frag} {B : Hp} {α : List Addr} {x : D} {v : V} {k : Key} (r : Rep K B α x v) (e : keyD x = some k) : v = kV k := by
  cases x <;> simp only [keyD] at e <;> cases e <;> (unfold Rep at r; subst r; rfl)
theorem dLook_rep {K : PySem.W.Frag} {B : Hp} {α : List Addr} : ∀ {ks : List Key} {ds : List D} {vs : List V} (k : Key), Reps K B α ds vs → 
    (∀ d, dLook ks ds k = some d → ∃ v, valV (ks.zip vs) k = some v ∧ Rep K B α d v) ∧ (dLook ks ds k = none → valV (ks.zip vs) k = none)
  | [], _, _, _, _ => by simp [dLook, valV]
  | _ :: _, [], vs, k, r => by unfold Reps at r; subst r; simp [dLook, valV]
  | q :: ks, d :: ds, vs, k, r => by
    unfold Reps at r
    obtain ⟨v, r', rfl, h1, h2⟩ := r
    have ih := dLook_rep (ks := ks) k h2
    simp only [dLook, valV, List.zip_cons_cons, List.find?_cons] at ih ⊢
    by_cases e : q = k
    · simp only [e, decide_true, Option.map_some]
      exact ⟨fun d' q => by cases q; exact ⟨v, rfl, h1⟩, fun q => by cases q⟩
    · simp only [e, decide_false]
      exact ih
def inP (Λ : Cells) (x y : D) (P : Bool → Prop) : Prop := match vw Λ y with
  | .str t => ∃ s, x = .str s ∧ P (strIn s t)
  | .dic ks ds => ∃ k, keyD x = some k ∧ P (dLook ks ds k).isSome
  | .tup ds => PyData.plainAll (pys ds) = true ∧ (py (vw Λ x)).plain = true ∧ min (PyData.depthAll (pys ds)) (py (vw Λ x)).depth ≤ 190 ∧ P ((pys ds).any fun e => PyData.eqv e (py (vw Λ x)))
  | .lst ds => PyData.plainAll (pys ds) = true ∧ (py (vw Λ x)).plain = true ∧ min (PyData.depthAll (pys ds)) (py (vw Λ x)).depth ≤ 190 ∧ P ((pys ds).any fun e => PyData.eqv e (py (vw Λ x)))
  | .fzl ds => PyData.plainAll (pys ds) = true ∧ (py (vw Λ x)).plain = true ∧ min (PyData.depthAll (pys ds)) (py (vw Λ x)).depth ≤ 190 ∧ P ((pys ds).any fun e => PyData.eqv e (py (vw Λ x)))
  | _ => False
theorem inP_mono {x y : D} {P P' : Bool → Prop} (h : inP Λ x y P) (i : ∀ c, P c → P' c) : inP Λ x y P' := by
  unfold inP at h ⊢
  split at h
  · obtain ⟨s, e, p⟩ := h; exact ⟨s, e, i _ p⟩
  · obtain ⟨s, e, p⟩ := h; exact ⟨s, e, i _ p⟩
  · exact ⟨h.1, h.2.1, h.2.2.1, i _ h.2.2.2⟩
  · exact ⟨h.1, h.2.1, h.2.2.1, i _ h.2.2.2⟩
  · exact ⟨h.1, h.2.1, h.2.2.1, i _ h.2.2.2⟩
  · exact h
def rInP (K : PySem.W.Frag) (f : Bool → Bool) : R2 := fun x y H Q => (∃ s t, x = .str s ∧ y = .str t ∧ Q (.bl (f (strIn s t))) H) ∨ (∃ p o, y = .ref p ∧ DGet H p x o ∧ Q (.bl (f o.isSome)) H) ∨
  (∃ d ds, Dp K H x d ∧ (Dp K H y (.list ds) ∨ Dp K H y (.tuple ds)) ∧ d.plain = true ∧ PyData.plainAll ds = true ∧ min (PyData.depthAll ds) d.depth ≤ 190 ∧ Q (.bl (f (ds.any fun e => PyData.eqv e d))) H)
theorem op_inP {X : Cx} (is : C.Is X) : OpR X (compareOp .In) (rInP X.K id) := by
  intro pins s σ H x y v u Q I rx ry h
  have hu := is.u200
  rcases h with ⟨s', t, rfl, rfl, q⟩ | ⟨p, o, rfl, g, q⟩ | ⟨d, ds, hd, hl, sd, se, hm, q⟩
  · exact op_in_str pins s σ H _ _ v u Q I rx ry ⟨s', t, rfl, rfl, q⟩
  · cases ry
    exact d_in (by omega) I g rx fun s' I' => ⟨.bl _, H, I', rfl, q⟩
  · obtain ⟨as, r1⟩ := Dp.reads I d x v hd rx
    rcases hl with hl | hl
    · obtain ⟨bs, r2⟩ := Dp.reads I _ y u hl ry
      exact SeqAt.in_list_data r2 r1 se sd (by omega) ⟨.bl _, H, I, rfl, q⟩
    · obtain ⟨bs, r2⟩ := Dp.reads I _ y u hl ry
      exact SeqAt.in_tuple_data r2 r1 se sd (by omega) ⟨.bl _, H, I, rfl, q⟩
theorem op_ninP {X : Cx} (is : C.Is X) : OpR X (compareOp .NotIn) (rInP X.K not) := by
  intro pins s σ H x y v u Q I rx ry h
  have hu := is.u200
  rcases h with ⟨s', t, rfl, rfl, q⟩ | ⟨p, o, rfl, g, q⟩ | ⟨d, ds, hd, hl, sd, se, hm, q⟩
  · exact op_notIn_str pins s σ H _ _ v u Q I rx ry ⟨s', t, rfl, rfl, q⟩
  · cases ry
    exact d_notIn (by omega) I g rx fun s' I' => ⟨.bl _, H, I', rfl, q⟩
  · obtain ⟨as, r1⟩ := Dp.reads I d x v hd rx
    rcases hl with hl | hl
    · obtain ⟨bs, r2⟩ := Dp.reads I _ y u hl ry
      exact SeqAt.notIn_list_data r2 r1 se sd (by omega) ⟨.bl _, H, I, rfl, q⟩
    · obtain ⟨bs, r2⟩ := Dp.reads I _ y u hl ry
      exact SeqAt.notIn_tuple_data r2 r1 se sd (by omega) ⟨.bl _, H, I, rfl, q⟩
theorem vw_noc {z w : D} (e : vw Λ z = w) (h1 : ∀ n, w ≠ .loc n) (h2 : ∀ ds, w ≠ .lst ds) (h3 : ∀ ks ds, w ≠ .dic ks ds) (h4 : ∀ c ns ds, w ≠ .ins c ns ds) : z = w := by
  cases z with
  | loc n =>
    simp only [vw] at e
    cases hc : Λ[n]? with
    | none => rw [hc] at e; exact absurd e.symm (h1 n)
    | some c =>
      rw [hc] at e
      cases c with
      | lst ds => exact absurd e.symm (h2 ds)
      | dic ks ds => exact absurd e.symm (h3 ks ds)
      | ins c ns ds => exact absurd e.symm (h4 c ns ds)
      | gone => exact absurd e.symm (h1 n)
  | _ => exact e
/-- a dict, wherever it stands -/
theorem Sat.dic {K : PySem.W.Frag} {F : Fm} {B : Hp} {α : List Addr} {Γ : Env} {Λ : Cells} {σ : L2.St} {H : Hp} (S : Sat K F B α Γ Λ σ H) {x : D} {v : V} {ks : List Key} {ds : List D} (r : Rep K B α x v) (e : vw Λ x = .dic ks ds) : ∃ a vs, v = .ref a ∧ Rd H a (.dK (ks.zip vs)) ∧ Reps K B α ds vs := by
  cases x with
  | dic ks' es =>
    cases e
    unfold Rep at r
    obtain ⟨a, vs, h1, h2, h3, _⟩ := r
    exact ⟨a, vs, h1, S.bh.rd h2, h3⟩
  | loc n =>
    unfold Rep at r
    obtain ⟨a, h1, h2⟩ := r
    simp only [vw] at e
    cases hc : Λ[n]? with
    | none => rw [hc] at e; cases e
    | some c =>
      rw [hc] at e
      cases c <;> simp at e
      obtain ⟨rfl, rfl⟩ := e
      obtain ⟨a', q1, q2, q3, q4⟩ := S.ce n _ hc (by simp)
      rw [h2] at q1; cases q1
      obtain ⟨vs, q5, q6, _⟩ := q4
      exact ⟨a, vs, h1, .inl q5, q6⟩
  | _ => cases e
theorem in_K {K : PySem.W.Frag} {f : Bool → Bool} {x y : D} (h : inP Λ x y fun c => P (.bl (f c)) Λ) : OpK K (rInP K f) x y Γ Λ P := by
  intro F B α σ H vx vy Q S rx ry q
  have fin : ∀ {c : Bool}, P (.bl (f c)) Λ → Q (.bl (f c)) H := fun {c} p => q _ Λ _ B α H p S (Ex.refl B) (List.prefix_refl _) (by unfold Rep; rfl)
  unfold inP at h
  split at h
  · rename_i t hy
    have ey := vw_noc hy (by simp) (by simp) (by simp) (by simp)
    subst ey
    obtain ⟨s, rfl, p⟩ := h
    unfold Rep at rx ry
    exact .inl ⟨s, t, rx, ry, fin p⟩
  · rename_i ks ds hy
    obtain ⟨k, hk, p⟩ := h
    obtain ⟨a, vs, rfl, h1, h2⟩ := S.dic ry hy
    have hl := dLook_rep (ks := ks) k h2
    refine .inr (.inl ⟨a, valV (ks.zip vs) k, rfl, .inl ⟨_, k, h1, keyD_rep rx hk, rfl⟩, ?_⟩)
    have e : (valV (ks.zip vs) k).isSome = (dLook ks ds k).isSome := by
      cases hd : dLook ks ds k with
      | none => rw [hl.2 hd]; rfl
      | some d =>
        obtain ⟨v, e, _⟩ := hl.1 d hd
        rw [e]; rfl
    rw [e]
    exact fin p
  · rename_i ds hy
    have e := S.dp ry (by rw [hy]; exact h.1)
    rw [hy] at e
    exact .inr (.inr ⟨_, _, S.dp rx h.2.1, .inr e, h.2.1, h.1, h.2.2.1, fin h.2.2.2⟩)
  · rename_i ds hy
    have e := S.dp ry (by rw [hy]; exact h.1)
    rw [hy] at e
    exact .inr (.inr ⟨_, _, S.dp rx h.2.1, .inl e, h.2.1, h.1, h.2.2.1, fin h.2.2.2⟩)
  · rename_i ds hy
    have e := S.dp ry (by rw [hy]; exact h.1)
    rw [hy] at e
    exact .inr (.inr ⟨_, _, S.dp rx h.2.1, .inl e, h.2.1, h.1, h.2.2.1, fin h.2.2.2⟩)
  · exact h.elim
theorem wt_in {P : Bool → Cells → Prop} (h : WE C E Γ Λ a fun x Λ1 => WE C E Γ Λ1 b fun y Λ2 => inP Λ2 x y fun c => P c Λ2) (hm : behindInMarks .In b = false := by rfl) : WT C E Γ Λ (.Compare a [.In] [b] pos) P :=
  wt_cmpK (r := rInP C.K id) (fun X is => by rw [← is.K]; exact op_inP is) (we_mono h fun x Λ1 p => we_mono p fun y Λ2 q => in_K (f := id) (inP_mono q fun c p => ⟨_, rfl, p⟩)) hm
theorem wt_nin {P : Bool → Cells → Prop} (h : WE C E Γ Λ a fun x Λ1 => WE C E Γ Λ1 b fun y Λ2 => inP Λ2 x y fun c => P (!c) Λ2) (hm : behindInMarks .NotIn b = false := by rfl) : WT C E Γ Λ (.Compare a [.NotIn] [b] pos) P :=
  wt_cmpK (r := rInP C.K not) (fun X is => by rw [← is.K]; exact op_ninP is) (we_mono h fun x Λ1 p => we_mono p fun y Λ2 q => in_K (f := not) (inP_mono q fun c p => ⟨_, rfl, p⟩)) hm

/-! ### a <= b < c over ints -/
/-! ### and, or, not, if .. else -/
def boolP (x : D) (P : Bool → Prop) : Prop := match x with
  | .bl c => P c
  | _ => False
theorem we_one {op} (h : WE C E Γ Λ a P) : WE C E Γ Λ (.BoolOp op [a] pos) P := fun X F W is tk => pe_one (h X F W is tk)
theorem we_and {rest : List Expr} (h : WE C E Γ Λ a fun x Λ1 => boolP x fun c => if c = true then WE C E Γ Λ1 (.BoolOp .And (b :: rest) pos) P else P (.bl false) Λ1) : WE C E Γ Λ (.BoolOp .And (a :: b :: rest) pos) P := fun X F W is tk => by
  refine pe_imp (pe_and pe_U pe_U) fun σ H Q ⟨B, α, S, q, er⟩ => ?_
  refine WE.use h is tk S er fun x Λ1 vx B1 α1 H1 p1 S1 e1 f1 r1 => ?_
  unfold boolP at p1
  split at p1
  · rename_i c
    unfold Rep at r1
    refine ⟨c, r1, ?_⟩
    cases c with
    | true =>
      rw [if_pos rfl] at p1 ⊢
      exact WE.use p1 is tk S1 (er.mono e1) fun y Λ2 vy B2 α2 H2 p2 S2 e2 f2 r2 => q _ _ _ _ _ _ p2 S2 (e1.trans e2) (f1.trans f2) r2
    | false =>
      rw [if_neg (by simp)] at p1 ⊢
      exact q _ _ _ _ _ _ p1 S1 e1 f1 (by unfold Rep; rfl)
  · exact p1.elim
theorem we_not (h : WE C E Γ Λ a fun x Λ1 => boolP x fun c => P (.bl (!c)) Λ1) : WE C E Γ Λ (.UnaryOp .Not a pos) P := fun X F W is tk => by
  refine pe_imp (pe_not pe_U) fun σ H Q ⟨B, α, S, q, er⟩ => ?_
  refine WE.use h is tk S er fun x Λ1 vx B1 α1 H1 p1 S1 e1 f1 r1 => ?_
  unfold boolP at p1
  split at p1
  · rename_i c
    unfold Rep at r1
    exact ⟨c, r1, q _ _ _ _ _ _ p1 S1 e1 f1 (by unfold Rep; rfl)⟩
  · exact p1.elim
theorem we_neg (h : WE C E Γ Λ a fun x Λ1 => ∃ i, x = .int i ∧ P (.int (-i)) Λ1) : WE C E Γ Λ (.UnaryOp .USub a pos) P := fun X F W is tk => by
  refine pe_imp (pe_un un_neg pe_U) fun σ H Q ⟨B, α, S, q, er⟩ => ?_
  refine WE.use h is tk S er fun x Λ1 vx B1 α1 H1 p1 S1 e1 f1 r1 => ?_
  obtain ⟨i, rfl, p⟩ := p1
  unfold Rep at r1
  exact ⟨i, r1, q _ _ _ _ _ _ p S1 e1 f1 (by unfold Rep; rfl)⟩
/-! tests -/
theorem wt_val {P : Bool → Cells → Prop} (h : WE C E Γ Λ a fun x Λ1 => boolP x fun c => P c Λ1) (he : ∀ (env : PySem.Env) whole, isTrue a env whole = (do let v ← whole; standAt a.pos; holding [v] (truthy v)) := by intro _ _; rfl) : WT C E Γ Λ a P := fun X F W is tk => by
  refine pt_imp (pt_val pe_U (he X.env)) fun σ H Q ⟨B, α, S, q, er⟩ => ?_
  refine WE.use h is tk S er fun x Λ1 vx B1 α1 H1 p1 S1 e1 f1 r1 => ?_
  unfold boolP at p1
  split at p1
  · rename_i c
    unfold Rep at r1
    exact ⟨c, r1, q _ _ _ _ _ p1 S1 e1 f1⟩
  · exact p1.elim
theorem wt_not {P : Bool → Cells → Prop} (h : WT C E Γ Λ a fun c Λ1 => P (!c) Λ1) : WT C E Γ Λ (.UnaryOp .Not a pos) P := fun X F W is tk => by
  refine pt_imp (pt_not pt_U) fun σ H Q ⟨B, α, S, q, er⟩ => ?_
  exact WT.use h is tk S er fun c Λ1 B1 α1 H1 p1 S1 e1 f1 => q _ _ _ _ _ p1 S1 e1 f1
/-- a chain of and, or as a test -/
def WW (C : Ctx) (E : ER) (Γ : Env) (Λ : Cells) (e : Expr) (P : Bool → Cells → Prop) : Prop := ∀ X F W, C.Is X → Takes X W → PW X e (rdT C.K F W E Γ Λ P)
theorem wt_ww {P : Bool → Cells → Prop} (h : WW C E Γ Λ a P) : WT C E Γ Λ a P := fun X F W is tk => (h X F W is tk).pt
theorem WW.use {X : Cx} {F : Fm} {W : WX} {B : Hp} {α : List Addr} {σ : L2.St} {H : Hp} {e : Expr} {P : Bool → Cells → Prop} {Q : Bool → Hp → Prop} (h : WW C E Γ Λ e P) (is : C.Is X) (tk : Takes X W) (S : Sat C.K F B α Γ Λ σ H) (er : ErOk C.K F W B σ Γ E)
    (q : ∀ b Λ' B' α' H', P b Λ' → Sat C.K F B' α' Γ Λ' σ H' → Ex B B' → α <+: α' → Q b H') : UW X e σ H Q := ⟨_, h X F W is tk, B, α, S, q, er⟩
theorem ww_or1 {P : Bool → Cells → Prop} (h : WT C E Γ Λ a P) : WW C E Γ Λ (.BoolOp .Or [a] pos) P := fun X F W is tk => pw_or1 (h X F W is tk)
theorem ww_or {P : Bool → Cells → Prop} {rest : List Expr} (h : WT C E Γ Λ a fun c Λ1 => if c = true then P true Λ1 else WW C E Γ Λ1 (.BoolOp .Or (b :: rest) pos) P) : WW C E Γ Λ (.BoolOp .Or (a :: b :: rest) pos) P := fun X F W is tk => by
  refine pw_imp (pw_or pt_U pw_U) fun σ H Q ⟨B, α, S, q, er⟩ => ?_
  refine WT.use h is tk S er fun c Λ1 B1 α1 H1 p1 S1 e1 f1 => ?_
  cases c with
  | false =>
    rw [if_neg (by simp)] at p1 ⊢
    exact WW.use p1 is tk S1 (er.mono e1) fun y Λ2 B2 α2 H2 p2 S2 e2 f2 => q _ _ _ _ _ p2 S2 (e1.trans e2) (f1.trans f2)
  | true =>
    rw [if_pos rfl] at p1 ⊢
    exact q _ _ _ _ _ p1 S1 e1 f1
/-! ### subscripts, slices -/
def ixP (Λ : Cells) (x y : D) (P : D → Prop) : Prop := match y with
  | .int i => match x with
    | .str s => s.length ≤ sizeLine ∧ ∃ c, atI s.cps.toList i = some c ∧ P (.str ⟨#[c]⟩)
    | x => ∃ ds, seqD Λ x = some ds ∧ ∃ d, atI ds i = some d ∧ P d
  | _ => False
theorem Reps.atI {K : PySem.W.Frag} {B : Hp} {α : List Addr} {ds : List D} {vs : List V} {i : Int} {d : D} (r : Reps K B α ds vs) (h : atI ds i = some d) : ∃ v, L2.atI vs i = some v ∧ Rep K B α d v := by
  unfold L2.atI at h ⊢
  rw [r.length]
  cases e : ixN ds.length i with
  | none => rw [e] at h; cases h
  | some j =>
    rw [e] at h
    exact r.get h
theorem ix_K {K : PySem.W.Frag} {x y : D} (h : ixP Λ x y fun d => P d Λ) : OpK K (rIx K) x y Γ Λ P := by
  intro F B α σ H vx vy Q S rx ry q
  unfold ixP at h
  split at h
  · rename_i i
    unfold Rep at ry
    split at h
    · rename_i s
      unfold Rep at rx
      obtain ⟨hl, c, hc, p⟩ := h
      exact .inr (.inr ⟨s, i, c, rx, ry, hl, hc, q _ _ _ _ _ _ p S (Ex.refl B) (List.prefix_refl _) (by unfold Rep; rfl)⟩)
    · obtain ⟨ds, hs, d, hd, p⟩ := h
      obtain ⟨a, vs, rfl, h1, h2⟩ := S.seq rx hs
      obtain ⟨v, hv, rv⟩ := h2.atI hd
      have fin := q _ _ _ _ _ _ p S (Ex.refl B) (List.prefix_refl _) rv
      rcases h1 with h1 | h1
      · exact .inl ⟨a, vs, i, v, rfl, ry, h1, hv, fin⟩
      · exact .inr (.inl ⟨a, vs, i, v, rfl, ry, h1, hv, fin⟩)
  · exact h.elim
theorem we_ix (h : WE C E Γ Λ a fun x Λ1 => WE C E Γ Λ1 b fun y Λ2 => ixP Λ2 x y fun d => P d Λ2) (hs : PlainIx b := by intro _ _; rfl) : WE C E Γ Λ (.Subscript a b pos) P := fun X F W is tk => by
  refine pe_imp (pe_ix ix_seq pe_U pe_U hs) fun σ H Q ⟨B, α, S, q, er⟩ => ?_
  refine WE.use h is tk S er fun x Λ1 vx B1 α1 H1 p1 S1 e1 f1 r1 => ?_
  refine WE.use p1 is tk S1 (er.mono e1) fun y Λ2 vy B2 α2 H2 p2 S2 e2 f2 r2 => ?_
  rw [is.K]
  exact ix_K (K := C.K) p2 F B2 α2 σ H2 vx vy Q S2 (r1.mono e2 f2) r2 fun d Λ' v B' α' H' p' S' e' f' r' => q d Λ' v B' α' H' p' S' ((e1.trans e2).trans e') ((f1.trans f2).trans f') r'
/-- d[k] -/
theorem we_ixd (h : WE C E Γ Λ a fun x Λ1 => WE C E Γ Λ1 b fun y Λ2 => ∃ ks ds k d, vw Λ2 x = .dic ks ds ∧ keyD y = some k ∧ dLook ks ds k = some d ∧ P d Λ2) (hs : NoSl b := by intro _ _; rfl) : WE C E Γ Λ (.Subscript a b pos) P := fun X F W is tk => by
  have hu := is.u200
  refine pe_imp (pe_dget (by omega) pe_U pe_U hs) fun σ H Q ⟨B, α, S, q, er⟩ => ?_
  refine WE.use h is tk S er fun x Λ1 vx B1 α1 H1 p1 S1 e1 f1 r1 => ?_
  refine WE.use p1 is tk S1 (er.mono e1) fun y Λ2 vy B2 α2 H2 p2 S2 e2 f2 r2 => ?_
  obtain ⟨ks, ds, k, d, hx, hk, hd, p⟩ := p2
  obtain ⟨p', vs, rfl, h1, h2⟩ := S2.dic (r1.mono e2 f2) hx
  obtain ⟨v, hv, rv⟩ := (dLook_rep (ks := ks) k h2).1 d hd
  exact ⟨p', v, rfl, .inl ⟨_, k, h1, keyD_rep r2 hk, hv.symm⟩, q _ _ _ _ _ _ p S2 (e1.trans e2) (f1.trans f2) rv⟩
/-- what stands at a slice's end -/
def WO (C : Ctx) (E : ER) (Γ : Env) (Λ : Cells) : Option Expr → (Option Int → Cells → Prop) → Prop
  | none, P => P none Λ
  | some e, P => WE C E Γ Λ e fun d Λ' => ∃ i, d = .int i ∧ P (some i) Λ'
def cutD (xs : List D) (lo hi : Option Int) : List D := (xs.drop (HT.sIx xs.length 0 lo)).take (HT.sIx xs.length xs.length hi - HT.sIx xs.length 0 lo)
theorem Reps.cut {K : PySem.W.Frag} {B : Hp} {α : List Addr} {ds : List D} {vs : List V} (r : Reps K B α ds vs) (lo hi : Option Int) : Reps K B α (cutD ds lo hi) (cutV vs lo hi) := by
  unfold cutD cutV
  rw [r.length]
  exact (r.drop _).take _
def UO (X : Cx) (o : Option Expr) : TO := match o with
  | none => tNoPart
  | some e => tPart (UE X e)
theorem po_U {X : Cx} {o : Option Expr} : PO X o (UO X o) := by
  cases o with
  | none => exact po_none
  | some e => exact po_some pe_U
theorem WO.use {X : Cx} {F : Fm} {W : WX} {B : Hp} {α : List Addr} {σ : L2.St} {H : Hp} {o : Option Expr} {P : Option Int → Cells → Prop} {Q : Option Int → Hp → Prop} (h : WO C E Γ Λ o P) (is : C.Is X) (tk : Takes X W) (S : Sat C.K F B α Γ Λ σ H) (er : ErOk C.K F W B σ Γ E)
    (q : ∀ i Λ' B' α' H', P i Λ' → Sat C.K F B' α' Γ Λ' σ H' → Ex B B' → α <+: α' → Q i H') : UO X o σ H Q := by
  cases o with
  | none => exact q none Λ B α H h S (Ex.refl B) (List.prefix_refl _)
  | some e =>
    refine WE.use (C := C) (E := E) (Γ := Γ) (Λ := Λ) h is tk S er fun d Λ' v B' α' H' p S' e f r => ?_
    obtain ⟨i, rfl, p⟩ := p
    unfold Rep at r
    exact ⟨i, r, q _ _ _ _ _ p S' e f⟩
end
end Pl

namespace Pl
open PySem L2 PyProof.Rows

/-! ### data without cells -/
mutual
def nl : D → Bool
  | .tup ds => nls ds
  | .lst ds => nls ds
  | .fzl ds => nls ds
  | .loc _ => false
  | .ins _ _ ds => nls ds
  | .dic _ ds => nls ds
  | .exc _ _ ds => nls ds
  | _ => true
def nls : List D → Bool
  | [] => true
  | d :: ds => nl d && nls ds
end
section
variable {K : PySem.W.Frag} {B : Hp} {α α' : List Addr}
mutual
theorem Rep.nl : ∀ (d : D) (v : V), Pl.nl d = true → Rep K B α d v → Rep K B α' d v
  | .non, _, _, h => h
  | .bl _, _, _, h => h
  | .int _, _, _, h => h
  | .str _, _, _, h => h
  | .tup ds, v, n, h => by
    unfold Rep at h ⊢
    obtain ⟨a, vs, rfl, h1, h2⟩ := h
    exact ⟨a, vs, rfl, h1, Reps.nl ds vs n h2⟩
  | .lst ds, v, n, h => by
    unfold Rep at h ⊢
    obtain ⟨a, vs, rfl, h1, h2⟩ := h
    exact ⟨a, vs, rfl, h1, Reps.nl ds vs n h2⟩
  | .fzl ds, v, n, h => by
    unfold Rep at h ⊢
    obtain ⟨a, vs, rfl, h1, h2⟩ := h
    exact ⟨a, vs, rfl, h1, Reps.nl ds vs n h2⟩
  | .loc _, _, n, _ => nomatch n
  | .raw _, _, _, h => h
  | .ins C ns ds, v, n, h => by
    unfold Rep at h ⊢
    obtain ⟨a, dx, vs, rfl, h1, h2, h3⟩ := h
    exact ⟨a, dx, vs, rfl, h1, Reps.nl ds vs n h2, h3⟩
  | .dic ks ds, v, n, h => by
    unfold Rep at h ⊢
    obtain ⟨a, vs, rfl, h1, h2, h3⟩ := h
    exact ⟨a, vs, rfl, h1, Reps.nl ds vs n h2, h3⟩
  | .exc C ns ds, v, n, h => by
    unfold Rep at h ⊢
    obtain ⟨a, d, vs, rfl, h1, h2, h3, h4⟩ := h
    exact ⟨a, d, vs, rfl, h1, Reps.nl ds vs n h2, h3, h4⟩
theorem Reps.nl : ∀ (ds : List D) (vs : List V), nls ds = true → Reps K B α ds vs → Reps K B α' ds vs
  | [], _, _, h => h
  | d :: ds, vs, n, h => by
    have n' : (Pl.nl d && nls ds) = true := n
    rw [Bool.and_eq_true] at n'
    unfold Reps at h ⊢
    obtain ⟨v, r, rfl, h1, h2⟩ := h
    exact ⟨v, r, rfl, Rep.nl d v n'.1 h1, Reps.nl ds r n'.2 h2⟩
end
end

/-! ### what a def promises -/
abbrev Spec := List D → Cells → (Res → Cells → Prop) → (Err → Cells → Prop) → Prop
def spOf (K : PySem.W.Frag) (n : Nat) (S : Spec) : Sp := fun vs H Q E => ∃ F ds Λ, vs.length = n ∧ F.H0 = H ∧ Sat K F F.B0 F.α0 [] Λ [] H ∧ Reps K F.B0 F.α0 ds vs ∧
  S ds Λ (fun r Λ' => ∀ v H' B' α', Sat K F B' α' [] Λ' [] H' → ResAt K F B' α' H' v r → Q v H')
    (fun err Λ' => ∀ B' α' H' c dx, Sat K F B' α' [] Λ' [] H' → ErrAt K F B' α' H' err c dx → E c dx H')

/-- a def of the module, by its name: n arguments, at most level k -/
structure Fn (P : Program) (w : World) (K : PySem.W.Frag) (mg : Str → Option Value) (base : Heap) (k : Nat) (x : Str) (n : Nat) (S : Spec) : Prop where
  ex : ∃ f fd ps, FnG P w K mg base (L2.CX P w) k f fd ps (spOf K n S) ∧ mg x = some (.ref f) ∧ PySem.W.keepIn K (.ref f) = true ∧ Binds K fd ps [] ∧ ps.length = n
theorem Fn.mono {P : Program} {w : World} {K : PySem.W.Frag} {mg : Str → Option Value} {base : Heap} {k k' : Nat} {x : Str} {n : Nat} {S : Spec} (h : Fn P w K mg base k x n S) (hk : k ≤ k') : Fn P w K mg base k' x n S := by
  obtain ⟨f, fd, ps, h1, h2⟩ := h.ex
  exact ⟨f, fd, ps, h1.mono hk, h2⟩
abbrev Ctx.fn (C : Ctx) (k : Nat) (x : Str) (n : Nat) (S : Spec) : Prop := Fn C.P C.w C.K C.mg C.base k x n S

/-! ### a call: the callee's state behind it, told for the caller -/
section
variable {K : PySem.W.Frag} {F : Fm} {B B' : Hp} {α : List Addr} {Γ : Env} {Λ : Cells} {σ : L2.St} {H H' : Hp}
/-- the callee's entry -/
theorem Sat.enter (S : Sat K F B α Γ Λ σ H) : Sat K ⟨H, B, []⟩ B [] [] [] [] H :=
  ⟨Ex.refl B, S.bh, fun a o h => .inl h, fun a o h _ _ => h, fun a h => h, List.prefix_refl _, List.nodup_nil, rfl, fun n c h => by simp at h, fun a h => by simp at h, fun i d h => by simp at h, rfl, S.tb.start fun a h => by simp at h⟩
/-- behind a call that leaves no cells -/
theorem Sat.back (S : Sat K F B α Γ Λ σ H) (T : Sat K ⟨H, B, []⟩ B' [] [] [] [] H') : Sat K F B' α Γ Λ σ H' := by
  have hB : ∀ a, H a ≠ none → B a = none → B' a = none := fun a h1 h2 => by
    cases q : B' a with
    | none => rfl
    | some o =>
      rcases T.fr a o q with z | z
      · have : B a = some o := z
        rw [h2] at this; cases this
      · exact absurd z h1
  refine ⟨S.bb.trans T.bb, T.bh, fun a o h => ?_, fun a o h ha n => T.kp a o (S.kp a o h ha n) (by simp) n, fun a h => S.dm a (T.dm a h), S.pf, S.nd, S.al, fun n c h hg => ?_, fun a ha => ⟨fun z => (S.ah a ha).1 (T.dm a z), (S.ah a ha).2⟩, fun i d h => ?_, S.ln, S.tb.back T.tb T.kp (fun a h => by simp at h) fun a h => .inl h⟩
  · rcases T.fr a o h with z | z
    · exact S.fr a o z
    · exact .inr (S.dm a z)
  · obtain ⟨a, h1, h2, h3, h4⟩ := S.ce n c h hg
    exact ⟨a, h1, hB a (S.ah a (List.mem_of_getElem? h1)).1 h2, h3, h4.mono T.bb (List.prefix_refl _) fun o q n => T.kp a o q (by simp) n⟩
  · obtain ⟨v, h1, h2⟩ := S.sl i d h
    exact ⟨v, h1, h2.mono T.bb (List.prefix_refl _)⟩
theorem Sat.nil_al (S : Sat K F B α Γ [] σ H) : α = [] := List.length_eq_zero_iff.mp S.al
end

section
variable {C : Ctx} {E : ER} {Γ : Env} {Λ : Cells} {pos p : Pos}
theorem back_plain : ∀ {es : List Expr} {env : PySem.Env}, es.all plainE = true → (backTo pos (starEach es env)).any (·.1) = false
  | [], _, _ => rfl
  | e :: es, env, h => by
    rw [List.all_cons, Bool.and_eq_true] at h
    rw [star_plain h.1]
    show (false || (backTo pos (starEach es env)).any (·.1)) = false
    rw [back_plain h.2]; rfl
/-- what the callee wants of the caller -/
theorem call_sp {F : Fm} {W : WX} {B : Hp} {α : List Addr} {σ : L2.St} {H : Hp} {ds : List D} {vs : List V} {n : Nat} {S : Spec} {Q : VK} {Pr : Res → Prop} {E' : ER} (T : Sat C.K F B α Γ Λ σ H) (r : Reps C.K B α ds vs) (hn : nls ds = true) (hl : ds.length = n)
    (h : S ds [] (fun r Λ' => Λ' = [] ∧ Pr r) fun err Λ' => Λ' = [] ∧ E' err Γ Λ)
    (mono : ∀ Q Q' E E', S ds [] Q E → (∀ r Λ', Q r Λ' → Q' r Λ') → (∀ e Λ', E e Λ' → E' e Λ') → S ds [] Q' E')
    (er : ErOk C.K F W B σ Γ E')
    (q : ∀ r v B' H', Pr r → Sat C.K F B' α Γ Λ σ H' → Ex B B' → ResAt C.K ⟨H, B, []⟩ B' [] H' v r → Q v H') : spOf C.K n S (vs ++ []) H Q fun c dx H' => W c dx σ H' := by
  refine ⟨⟨H, B, []⟩, ds, [], by rw [List.append_nil, r.length, hl], rfl, T.enter, by rw [List.append_nil]; exact Reps.nl ds vs hn r, mono _ _ _ _ h (fun r Λ' p v H' B' α' T' ra => ?_) fun err Λ' p B' α' H' c dx T' ea => ?_⟩
  · obtain ⟨rfl, p⟩ := p
    have e := T'.nil_al
    subst e
    exact q r v B' H' p (T.back T') T'.bb ra
  · obtain ⟨rfl, p⟩ := p
    have e := T'.nil_al
    subst e
    refine er err Λ B' α H' c dx p (T.back T') T'.bb ?_
    obtain ⟨e1, e2⟩ := ea
    refine ⟨e1, ?_⟩
    cases hf : err.fs with
    | none => rw [hf] at e2; exact e2
    | some z =>
      rw [hf] at e2
      obtain ⟨a, vs, q1, q2, q3, q4, q5⟩ := e2
      exact ⟨a, vs, q1, q2, q3.mono (Ex.refl _) List.nil_prefix, q4, fun z => have h : H a = none := (q5 z).1; ⟨T.dm a h, fun hm => (T.ah a hm).1 h⟩⟩
/-- a promise that asks less where less is wished -/
def Mono (S : Spec) : Prop := ∀ ds Λ Q Q' E E', S ds Λ Q E → (∀ r Λ', Q r Λ' → Q' r Λ') → (∀ e Λ', E e Λ' → E' e Λ') → S ds Λ Q' E'

/-- f(e, ..) of a def of the module that takes and leaves no cells: a value -/
theorem we_call [Cool C] {k n : Nat} {x : Str} {S : Spec} {e : Expr} {es : List Expr} {P : D → Cells → Prop} (G : C.fn k x n S) (hk : k ≤ C.k) (hj : GlAt C x) (m : Mono S)
    (h : WA C E Γ Λ (e :: es) fun ds Λ1 => nls ds = true ∧ ds.length = n ∧ S ds [] (fun r Λ' => Λ' = [] ∧ ∃ d, r = .val d ∧ P d Λ1) fun err Λ' => Λ' = [] ∧ E err Γ Λ1)
    (he : plainE e = true := by rfl) (hes : es.all plainE = true := by rfl) (hdb : (x == ("__debug__" : Str)) = false := by decide) : WE C E Γ Λ (.Call (.Name x p) (e :: es) [] pos) P := fun X F W is tk => by
  obtain ⟨f, fd, ps, h1, h2, h3, h4, h5⟩ := G.ex
  have e1 := is.prog; have e2 := is.w; have e3 := is.K; have e4 := is.mg; have e5 := is.base
  refine pe_imp (pe_callSDG (E := fun σ c dx H' => W c dx σ H') (dvs := []) (ds := []) (by rw [e1, e2, e3, e4, e5]; exact h1) (is.room.mono hk) (is.gl hj) (by rw [e4]; exact h2) (by rw [e3]; exact h3) (by rw [e3]; exact h4) .nil
    (fun σ => by rw [← e1, ← e2]; exact passAt tk σ) pa_U hdb (star_plain he) (back_plain hes)) fun σ H Q ⟨B, α, T, q, er⟩ => ?_
  refine WA.use h is tk T er fun ds Λ1 vs B1 α1 H1 p1 T1 x1 f1 r1 => ?_
  obtain ⟨n1, n2, s1⟩ := p1
  refine call_sp T1 r1 n1 n2 s1 (m ds []) (er.mono x1) fun r v B' H' p' T' x' ra => ?_
  obtain ⟨d, rfl, p'⟩ := p'
  exact q d Λ1 v B' α1 H' p' T' (x1.trans x') f1 (Rep.mono (Ex.refl _) List.nil_prefix d v ra)
end

/-! ### statements -/
section
variable {C : Ctx} {Γ : Env} {Λ : Cells} {R : Rs} {pos : Pos}
theorem wss_nil (h : R.nx Γ Λ) : WSs C Γ Λ [] R := fun X F W is hm tk => pss_imp pss_nil fun D σ H ⟨B, α, S, q⟩ => q.nx Γ Λ B α σ H h S (Ex.refl B)
theorem wss_cons {s : Stmt} {rest : List Stmt} (h : WS C Γ Λ s { R with nx := fun Γ' Λ' => WSs C Γ' Λ' rest R }) : WSs C Γ Λ (s :: rest) R := fun X F W is hm tk => by
  refine pss_imp (pss_cons ps_U pss_U) fun D σ H ⟨B, α, S, q⟩ => ?_
  refine WS.use h is hm tk S ⟨fun Γ' Λ' B' α' σ' H' r S' e => ?_, q.rt, q.bk, q.ct, q.er⟩
  exact WSs.use r is hm tk S' (q.mono e)
theorem ws_continue (h : R.ct Γ Λ) : WS C Γ Λ (.Continue pos) R := fun X F W is hm tk => ps_imp ps_continue fun D σ H ⟨B, α, S, q⟩ => q.ct Γ Λ B α σ H h S (Ex.refl B)
theorem ws_if {c : Expr} {a b : List Stmt} (h : WT C R.er Γ Λ c fun k Λ1 => if k = true then WSs C Γ Λ1 a R else WSs C Γ Λ1 b R) : WS C Γ Λ (.If c a b pos) R := fun X F W is hm tk => by
  refine ps_imp (ps_if pt_U pss_U pss_U) fun D σ H ⟨B, α, S, q⟩ => ?_
  refine WT.use h is tk S q.er.at fun k Λ1 B1 α1 H1 p1 S1 e1 f1 => ?_
  cases k with
  | true =>
    rw [if_pos rfl] at p1 ⊢
    exact WSs.use p1 is hm tk S1 (q.mono e1)
  | false =>
    rw [if_neg (by simp)] at p1 ⊢
    exact WSs.use p1 is hm tk S1 (q.mono e1)
/-- no comprehension stands there -/
def noComp : Expr → Bool
  | .ListComp _ _ _ _ => false
  | .SetComp _ _ _ _ => false
  | .DictComp _ _ _ _ _ => false
  | _ => true
theorem noSwap {e : Expr} {t : Option Expr} {l : Nat} {env : PySem.Env} (h : noComp e = true) : swapsWith e t l env = pure false := by
  cases e <;> first | rfl | cases h
theorem ws_expr {e : Expr} (h : WE C R.er Γ Λ e fun _ Λ' => R.nx Γ Λ') (hc : noComp e = true := by rfl) : WS C Γ Λ (.Expr e pos) R := fun X F W is hm tk => by
  refine ps_imp (ps_expr pe_U (noSwap hc)) fun D σ H ⟨B, α, S, q⟩ => ?_
  exact WE.use h is tk S q.er.at fun d Λ' v B' α' H' p S' e f r => q.nx Γ Λ' B' α' σ H' p S' e
theorem ws_set {i : Nat} {x : Str} {e : Expr} {pos' : Pos} (hi : C.N[i]? = some x) (hl : C.ls[i]? = some true) (h : WE C R.er Γ Λ e fun d Λ' => R.nx (Γ.set i (some d)) Λ') (hc : noComp e = true := by rfl) : WS C Γ Λ (.Assign [.Name x pos'] e pos) R := fun X F W is hm tk => by
  refine ps_imp (ps_set is.nd (is.ni hi) (is.loc hi hl) pe_U (noSwap hc) (is.fn i x hi hl)) fun D σ H ⟨B, α, S, q⟩ => ?_
  exact WE.use h is tk S q.er.at fun d Λ' v B' α' H' p S' e f r => q.nx _ Λ' B' α' _ H' p (S'.set r) e
theorem ws_ret {e : Expr} (h : WE C R.er Γ Λ e fun d Λ' => R.rt (.val d) Λ') : WS C Γ Λ (.Return (some e) pos) R := fun X F W is hm tk => by
  refine ps_imp (ps_ret pe_U) fun D σ H ⟨B, α, S, q⟩ => ?_
  exact WE.use h is tk S q.er.at fun d Λ' v B' α' H' p S' e f r => q.rt _ Λ' v Γ B' α' σ H' p S' e r
end

/-! ### cells thrown away -/
/-- the last cells are dropped, the slots that told them forgotten -/
theorem Sat.cut {K : PySem.W.Frag} {F : Fm} {B : Hp} {α : List Addr} {Γ Γ' : Env} {Λ : Cells} {σ σ' : L2.St} {H : Hp} {m : Nat} (S : Sat K F B α Γ Λ σ H) (hm : F.α0.length ≤ m) 
    (hc : ∀ c ∈ Λ.take m, match c with | .lst ds => nls ds = true | .dic _ ds => nls ds = true | .ins _ _ ds => nls ds = true | .gone => True) (hl : Γ'.length = σ'.length)
    (hs : ∀ (i : Nat) (d : D), Γ'[i]? = some (some d) → ∃ v, σ'[i]? = some (some v) ∧ Rep K B (α.take m) d v) : Sat K F B (α.take m) Γ' (Λ.take m) σ' H := by
  refine { S with pf := ?_, nd := S.nd.sublist (List.take_sublist _ _), al := by simp [S.al], ce := fun n c h hg => ?_, ah := fun a ha => S.ah a (List.mem_of_mem_take ha), sl := hs, ln := hl, tb := S.tb.sub fun a ha => List.mem_of_mem_take ha }
  · obtain ⟨t, ht⟩ := S.pf
    rw [← ht, List.take_append]
    rw [List.take_of_length_le hm]
    exact List.prefix_append _ _
  · have hn : n < m := by
      by_cases z : n < m
      · exact z
      · have := (List.getElem?_eq_some_iff.mp h).1
        rw [List.length_take] at this; omega
    rw [List.getElem?_take_of_lt hn] at h
    obtain ⟨a, h1, h2, h3, h4⟩ := S.ce n c h hg
    refine ⟨a, by rw [List.getElem?_take_of_lt hn]; exact h1, h2, h3, ?_⟩
    have hm' := hc c (by rw [← List.getElem?_take_of_lt hn] at h; exact List.mem_of_getElem? h)
    cases c with
    | lst ds => obtain ⟨vs, q1, q2⟩ := h4; exact ⟨vs, q1, Reps.nl ds vs hm' q2⟩
    | dic ks ds => obtain ⟨vs, q1, q2, q3⟩ := h4; exact ⟨vs, q1, Reps.nl ds vs hm' q2, q3⟩
    | ins C ns ds => obtain ⟨dx, vs, q1, q2, q3⟩ := h4; exact ⟨dx, vs, q1, Reps.nl ds vs hm' q2, q3⟩
    | gone => trivial

def nlC : Cell → Bool
  | .lst ds => nls ds
  | .dic _ ds => nls ds
  | .ins _ _ ds => nls ds
  | .gone => true
def nlR : Res → Bool
  | .val d => nl d
  | .new ds => nls ds
def nlE (e : Err) : Bool := match e.fs with
  | none => true
  | some (_, ds) => nls ds
/-- what a def's body is to reach: the wish at the cells that it was handed -/
def rtX (Λ0 : Cells) (Q : Res → Cells → Prop) (r : Res) (Λ' : Cells) : Prop := nlR r = true ∧ (Λ'.take Λ0.length).all nlC = true ∧ Q r (Λ'.take Λ0.length)
def erX (Λ0 : Cells) (Q : Err → Cells → Prop) (e : Err) (_ : Env) (Λ' : Cells) : Prop := nlE e = true ∧ (Λ'.take Λ0.length).all nlC = true ∧ Q e (Λ'.take Λ0.length)
theorem all_nlC {Λ : Cells} (h : Λ.all nlC = true) : ∀ c ∈ Λ, match c with | .lst ds => nls ds = true | .dic _ ds => nls ds = true | .ins _ _ ds => nls ds = true | .gone => True := fun c hc => by
  have := List.all_eq_true.mp h c hc
  cases c <;> first | exact this | trivial
/-- a def's slots at its entry -/
def Γ0 (N : List Str) (ds : List D) : Env := ds.map some ++ List.replicate (N.length - ds.length) none

/-- THE RULE: a def of the module keeps its promise, by its body -/
theorem fn_ok {P : Program} {w : World} {K : PySem.W.Frag} {mg : Str → Option Value} {base : Heap} {x qual : Str} {st : Stmt} {f : Addr} {fd : FuncData} {N ps : List Str} {k : Nat} {S : Spec} (F : Fun K x qual st f fd) (sc : FnScope N ps (defScope st)) (C : Ctx)
    (hC : C.P = P ∧ C.w = w ∧ C.K = K ∧ C.mg = mg ∧ C.base = base ∧ C.N = N ∧ C.sc = defScope st ∧ C.k = k) (good : C.Good) (hm : ∀ ds Λ Q E, S ds Λ Q E → Λ.length ≤ C.m)
    (hb : ∀ ds Λ Q E, ds.length = ps.length → S ds Λ Q E → WSs C (Γ0 N ds) Λ (defBody st) ⟨fun _ Λ' => rtX Λ Q (.val .non) Λ', rtX Λ Q, fun _ _ => False, fun _ _ => False, erX Λ E⟩)
    (hcd : ∀ q c, C.cd = some (q, c) → qual ++ ".<locals>." = q ∧ fd.code = .ref c := by intro _ _ h; cases h) : FnG P w K mg base (L2.CX P w) (k + 1) f fd ps (spOf K ps.length S) := by
  obtain ⟨rfl, rfl, rfl, rfl, rfl, rfl, hsc, rfl⟩ := hC
  refine F.okXG sc (fun vs H Q E h => by obtain ⟨_, _, _, h, _⟩ := h; exact h) fun cdv A outer s H vs Q E ecd hr h => ?_
  obtain ⟨Fm', ds, Λ, hl, hH, T, r, sp⟩ := h
  have hds : ds.length = ps.length := by rw [← r.length]; exact hl
  have hN : ps.length ≤ C.N.length := by have := congrArg List.length sc.pre; rw [List.length_take] at this; omega
  let X := cxOf (L2.CX C.P C.w) C.P C.w C.K C.mg C.base C.N qual (defScope st) f cdv A outer s H E
  have is : C.Is X := ⟨rfl, rfl, rfl, rfl, rfl, rfl, hsc.symm, fun _ => rfl, fun _ => hr.hd, hr.w, fun _ _ _ _ => .inl rfl, good, passes_of rfl, fun _ => ⟨rfl, rfl, rfl⟩, fun q c e => ⟨(hcd q c e).1, ecd.symm.trans (hcd q c e).2⟩⟩
  have tk : Takes X (fun c d _ H => E c d H) := takes_of rfl rfl rfl rfl
  have T' : Sat C.K Fm' Fm'.B0 Fm'.α0 (Γ0 C.N ds) Λ (L2.start C.N vs) H := by
    refine T.env ?_ fun i d hi => ?_
    · unfold Γ0 L2.start
      simp only [List.length_append, List.length_map, List.length_replicate]
      omega
    · unfold Γ0 at hi
      by_cases hlt : i < ds.length
      · rw [List.getElem?_append_left (by simpa using hlt), List.getElem?_map] at hi
        cases q : ds[i]? with
        | none => rw [q] at hi; cases hi
        | some e =>
          rw [q] at hi
          cases hi
          obtain ⟨v, h1, h2⟩ := r.get q
          refine ⟨v, ?_, h2⟩
          unfold L2.start
          rw [List.getElem?_append_left (by have := (List.getElem?_eq_some_iff.mp h1).1; simpa using this), List.getElem?_map, h1]
          rfl
      · rw [List.getElem?_append_right (by simpa using hlt), List.getElem?_replicate] at hi
        split at hi <;> cases hi
  have hlen : Fm'.α0.length = Λ.length := T.al
  have cut : ∀ {Γ' : Env} {Λ' : Cells} {B' : Hp} {α' : List Addr} {σ' : L2.St} {H' : Hp}, Sat C.K Fm' B' α' Γ' Λ' σ' H' → (Λ'.take Λ.length).all nlC = true → Sat C.K Fm' B' (α'.take Λ.length) [] (Λ'.take Λ.length) [] H' := fun S' h =>
    S'.cut (by omega) (all_nlC h) rfl fun i d h => by simp at h
  refine ⟨_, hb ds Λ _ _ hds sp X Fm' _ is (by rw [T.al]; exact hm _ _ _ _ sp) tk, Fm'.B0, Fm'.α0, T', ⟨fun Γ' Λ' B' α' σ' H' h S' e => ?_, fun r Λ' v Γ' B' α' σ' H' h S' e ra => ?_, fun Γ' Λ' B' α' σ' H' h => h.elim, fun Γ' Λ' B' α' σ' H' h => h.elim, fun err Γ' Λ' B' α' σ' H' c dx h S' e ea => ?_⟩⟩
  · obtain ⟨h1, h2, h3⟩ := h
    exact h3 .non H' B' _ (cut S' h2) (by unfold ResAt Rep; rfl)
  · obtain ⟨h1, h2, h3⟩ := h
    refine h3 v H' B' _ (cut S' h2) ?_
    cases r with
    | val d => exact Rep.nl d v h1 ra
    | new ds =>
      obtain ⟨p, vs, q1, q2, q3, q4, q5, q6⟩ := ra
      exact ⟨p, vs, q1, q2, q3, q4, fun hm => q5 (List.mem_of_mem_take hm), Reps.nl ds vs h1 q6⟩
  · obtain ⟨h1, h2, h3⟩ := h
    refine h3 B' _ H' c dx (cut S' h2) ?_
    obtain ⟨e1, e2⟩ := ea
    refine ⟨e1, ?_⟩
    unfold nlE at h1
    cases hf : err.fs with
    | none => rw [hf] at e2; exact e2
    | some z =>
      obtain ⟨ns, ds⟩ := z
      rw [hf] at e2 h1
      obtain ⟨a, vs, q1, q2, q3, q4, q5⟩ := e2
      exact ⟨a, vs, q1, q2, Reps.nl ds vs h1 q3, q4, fun z => ⟨(q5 z).1, fun hm => (q5 z).2 (List.mem_of_mem_take hm)⟩⟩
theorem fn_mk {P : Program} {w : World} {K : PySem.W.Frag} {mg : Str → Option Value} {base : Heap} {k : Nat} {x : Str} {f : Addr} {fd : FuncData} {ps : List Str} {S : Spec} (h : FnG P w K mg base (L2.CX P w) k f fd ps (spOf K ps.length S)) (hm : mg x = some (.ref f)) (hk : PySem.W.keepIn K (.ref f) = true) (hb : Binds K fd ps []) :
    Fn P w K mg base k x ps.length S := ⟨f, fd, ps, h, hm, hk, hb, rfl⟩
end Pl

namespace Pl
open PySem L2 PyProof.Rows

/-! ### the frame told anew -/
section
variable {K : PySem.W.Frag} {F : Fm} {B B' : Hp} {α α' : List Addr} {Γ Γ' : Env} {Λ Λ' : Cells} {σ σ' : L2.St} {H H' : Hp}
theorem pre_mem {l l' : List Addr} {a : Addr} (h : l <+: l') (m : a ∈ l) : a ∈ l' := by
  obtain ⟨t, rfl⟩ := h
  exact List.mem_append_left _ m
theorem Sat.rebase (S : Sat K F B α Γ Λ σ H) : Sat K ⟨H, B, α⟩ B α Γ Λ σ H :=
  ⟨Ex.refl B, S.bh, fun a o h => .inl h, fun a o h _ _ => h, fun a h => h, List.prefix_refl _, S.nd, S.al, fun n c h hg => by
    obtain ⟨a, h1, h2, _, h4⟩ := S.ce n c h hg
    exact ⟨a, h1, h2, .inr (List.mem_of_getElem? h1), h4⟩, fun a ha => ⟨(S.ah a ha).1, .inr ha⟩, S.sl, S.ln, S.tb.start fun a h => h⟩
theorem Sat.unbase (S : Sat K F B α Γ Λ σ H) (T : Sat K ⟨H, B, α⟩ B' α' Γ' Λ' σ' H') : Sat K F B' α' Γ' Λ' σ' H' := by
  have al : ∀ a ∈ α, F.H0 a = none ∨ a ∈ F.α0 := fun a ha => (S.ah a ha).2
  have al' : ∀ a ∈ α', F.H0 a = none ∨ a ∈ F.α0 := fun a ha => by
    rcases (T.ah a ha).2 with z | z
    · exact .inl (S.dm a z)
    · exact al a z
  refine ⟨S.bb.trans T.bb, T.bh, fun a o h => ?_, fun a o h ha n => ?_, fun a h => S.dm a (T.dm a h), S.pf.trans T.pf, T.nd, T.al, fun n c h hg => ?_, fun a ha => ⟨(T.ah a ha).1, al' a ha⟩, T.sl, T.ln, S.tb.back T.tb T.kp (fun a h => pre_mem T.pf h) fun a h => .inr h⟩
  · rcases T.fr a o h with z | z
    · exact S.fr a o z
    · exact .inr (S.dm a z)
  · refine T.kp a o (S.kp a o h ha n) (fun z => ?_) n
    rcases al a z with q | q
    · rw [h] at q; cases q
    · exact ha q
  · obtain ⟨a, h1, h2, h3, h4⟩ := T.ce n c h hg
    exact ⟨a, h1, h2, al' a (List.mem_of_getElem? h1), h4⟩
end

/-! ### targets -/
/-- all slots but those told are as they were -/
def Agree (vs : List Nat) (σ σ' : L2.St) : Prop := σ'.length = σ.length ∧ ∀ j : Nat, j ∉ vs → σ'[j]? = σ[j]?
theorem Agree.refl (vs : List Nat) (σ : L2.St) : Agree vs σ σ := ⟨rfl, fun _ _ => rfl⟩
theorem Agree.trans {vs ws : List Nat} {σ σ' σ'' : L2.St} (h : Agree vs σ σ') (k : Agree ws σ' σ'') : Agree (vs ++ ws) σ σ'' := ⟨k.1.trans h.1, fun j hj => by
  rw [k.2 j (fun z => hj (List.mem_append_right _ z)), h.2 j (fun z => hj (List.mem_append_left _ z))]⟩
def WG (C : Ctx) (Γ : Env) (Λ : Cells) (tg : Expr) (d : D) (vs : List Nat) (P : Env → Prop) : Prop := ∀ X F, C.Is X → PG X tg fun v σ H Q => ∃ B α, Sat C.K F B α Γ Λ σ H ∧ Rep C.K B α d v ∧
  ∀ Γ' σ', P Γ' → Sat C.K F B α Γ' Λ σ' H → Agree vs σ σ' → Q σ' H
def WGs (C : Ctx) (Γ : Env) (Λ : Cells) (tg : List Expr) (ds : List D) (vs : List Nat) (P : Env → Prop) : Prop := ∀ X F, C.Is X → PGs X tg fun us σ H Q => ∃ B α, Sat C.K F B α Γ Λ σ H ∧ Reps C.K B α ds us ∧
  ∀ Γ' σ', P Γ' → Sat C.K F B α Γ' Λ σ' H → Agree vs σ σ' → Q σ' H
def UG (X : Cx) (e : Expr) : TG := fun v σ H Q => ∃ t, PG X e t ∧ t v σ H Q
def UGs (X : Cx) (e : List Expr) : TGs := fun v σ H Q => ∃ t, PGs X e t ∧ t v σ H Q
theorem pg_U {X : Cx} {e : Expr} : PG X e (UG X e) := ⟨fun pins s σ H v u Q I r ⟨_, h, q⟩ => h.run pins s σ H v u Q I r q⟩
theorem pgs_U {X : Cx} {e : List Expr} : PGs X e (UGs X e) := ⟨fun pins s σ H v u Q I r ⟨_, h, q⟩ => h.run pins s σ H v u Q I r q⟩
theorem pg_imp {X : Cx} {e : Expr} {t t' : TG} (h : PG X e t) (i : ∀ v σ H Q, t' v σ H Q → t v σ H Q) : PG X e t' := ⟨fun pins s σ H v u Q I r q => h.run pins s σ H v u Q I r (i v σ H Q q)⟩
theorem pgs_imp {X : Cx} {e : List Expr} {t t' : TGs} (h : PGs X e t) (i : ∀ v σ H Q, t' v σ H Q → t v σ H Q) : PGs X e t' := ⟨fun pins s σ H v u Q I r q => h.run pins s σ H v u Q I r (i v σ H Q q)⟩
section
variable {C : Ctx} {Γ : Env} {Λ : Cells} {P : Env → Prop} {pos : Pos}
theorem wg_name {i : Nat} {x : Str} {d : D} (hi : C.N[i]? = some x) (hl : C.ls[i]? = some true) (p : P (Γ.set i (some d))) : WG C Γ Λ (.Name x pos) d [i] P := fun X F is =>
  pg_imp (pg_name is.nd (is.ni hi) (is.loc hi hl) (is.fn i x hi hl)) fun v σ H Q ⟨B, α, S, r, q⟩ => q _ _ p (S.set r) ⟨by simp, fun j hj => by rw [List.getElem?_set_ne (fun e => hj (by simp [e]))]⟩
theorem wgs_nil (p : P Γ) : WGs C Γ Λ [] [] [] P := fun X F is => pgs_imp pgs_nil fun v σ H Q ⟨B, α, S, r, q⟩ => ⟨by unfold Reps at r; exact r, q _ _ p S (Agree.refl _ _)⟩
/-- no star, no attribute .. : stored by itself -/
def plainT : Expr → Bool
  | .Starred _ _ => false
  | _ => true
theorem each_plain {e : Expr} {es : List Expr} {env : PySem.Env} (h : plainT e = true) : (assignEach (e :: es) env).map (·.2) = assign e env :: (assignEach es env).map (·.2) := by
  cases e <;> first | rfl | cases h
theorem wgs_cons {e : Expr} {es : List Expr} {d : D} {ds : List D} {vs ws : List Nat} (h : WG C Γ Λ e d vs fun Γ' => WGs C Γ' Λ es ds ws P) (he : plainT e = true := by rfl) : WGs C Γ Λ (e :: es) (d :: ds) (vs ++ ws) P := fun X F is => by
  refine pgs_imp (pgs_cons pg_U pgs_U (each_plain he)) fun us σ H Q ⟨B, α, S, r, q⟩ => ?_
  unfold Reps at r
  obtain ⟨v, r', rfl, h1, h2⟩ := r
  refine ⟨v, r', rfl, _, h X F is, B, α, S, h1, fun Γ' σ' p S' ag => ?_⟩
  exact ⟨_, p X F is, B, α, S', h2, fun Γ'' σ'' p' S'' ag' => q Γ'' σ'' p' S'' (ag.trans ag')⟩
theorem each_len {es : List Expr} {env : PySem.Env} : (assignEach es env).length = es.length := by
  induction es with
  | nil => rfl
  | cons e es ih => cases e <;> (show (assignEach es env).length + 1 = es.length + 1; rw [ih])
theorem each_star {es : List Expr} {env : PySem.Env} (h : es.all plainT = true) : (assignEach es env).findIdx? (·.1) = none := by
  induction es with
  | nil => rfl
  | cons e es ih =>
    rw [List.all_cons, Bool.and_eq_true] at h
    have q := ih h.2
    cases e <;> first
      | (cases h.1; done)
      | (rw [List.findIdx?_eq_none_iff] at q ⊢
         intro y hy
         rcases List.mem_cons.mp hy with z | z
         · rw [z]
         · exact q y z)
/-- (a, b, ..): a tuple's items -/
theorem wg_tup [Cool C] {es : List Expr} {k : Nat} {ds : List D} {vs : List Nat} (h : WGs C Γ Λ es ds vs P) (hl : es.length = ds.length) (hp : es.all plainT = true := by rfl) : WG C Γ Λ (.Tuple es k pos) (.tup ds) vs P := fun X F is => by
  refine pg_imp (pg_tup is.calm pgs_U (n := ds.length) (by rw [each_len, hl]) (each_star hp)) fun v σ H Q ⟨B, α, S, r, q⟩ => ?_
  unfold Rep at r
  obtain ⟨a, us, rfl, h1, h2⟩ := r
  exact ⟨a, us, rfl, by rw [is.K]; exact S.bh.sqT h1.1, h2.length, _, h X F is, B, α, S, h2, q⟩
end

/-! ### what is walked -/
/-- a tuple made anew: known to its object, or one not of truths alone -/
def TupHO (o : HO) (vs : List V) (es : List D) : Prop := (o = .tup vs ∧ allBl es = false) ∨ ∃ its, o = .frz (tupO its) (.tup vs)
theorem TupHO.nt {o : HO} {vs : List V} {es : List D} (h : TupHO o vs es) : NoTbl o := fun ps q => by
  rcases h with ⟨rfl, _⟩ | ⟨its, rfl⟩ <;> cases q
theorem TupHO.sq {K : PySem.W.Frag} {B : Hp} {a : Addr} {o : HO} {vs : List V} {es : List D} (h : TupHO o vs es) (e : B a = some o) : SqX K B a vs es := by
  rcases h with ⟨rfl, q⟩ | ⟨its, rfl⟩
  · exact .odd (SqT.of e) q
  · exact .new e
structure ItsOk (K : PySem.W.Frag) (B : Hp) (J : It) (ds : List D) : Prop where
  go : ∀ (i : Nat) (H : Hp), i < ds.length → Ex B H → J.go i H
  stop : ∀ H : Hp, Ex B H → J.stop ds.length H
  yld : ∀ (i : Nat) (H : Hp) (x : V) (H' : Hp) (d : D), ds[i]? = some d → Ex B H → J.yld i H x H' →
    (H' = H ∧ Rep K B [] d x) ∨ (∃ p o vs es, x = .ref p ∧ H p = none ∧ H' = upd H p o ∧ TupHO o vs es ∧ d = .tup es ∧ Reps K B [] es vs)
def WI (C : Ctx) (E : ER) (Γ : Env) (Λ : Cells) (tg iter : Expr) (P : List D → Cells → Prop) : Prop := ∀ X F W, C.Is X → Takes X W → PI X tg iter fun σ H R => ∃ B α, Sat C.K F B α Γ Λ σ H ∧
  (∀ ds Λ' J B' α' H', P ds Λ' → Sat C.K F B' α' Γ Λ' σ H' → Ex B B' → α <+: α' → ItsOk C.K B' J ds → R J H') ∧ ErOk C.K F W B σ Γ E
def UI (X : Cx) (tg e : Expr) : TI := fun σ H R => ∃ t, PI X tg e t ∧ t σ H R
theorem pi_U {X : Cx} {tg e : Expr} : PI X tg e (UI X tg e) := ⟨fun pins s σ H R I ⟨_, h, q⟩ => h.run pins s σ H R I q⟩
theorem pi_imp {X : Cx} {tg e : Expr} {t t' : TI} (h : PI X tg e t) (i : ∀ σ H R, t' σ H R → t σ H R) : PI X tg e t' := ⟨fun pins s σ H R I q => h.run pins s σ H R I (i σ H R q)⟩
/-- what a turn's item is, for the body -/
theorem ItsOk.take {K : PySem.W.Frag} {F : Fm} {B B0 : Hp} {α : List Addr} {Γ : Env} {Λ : Cells} {σ : L2.St} {H H' : Hp} {J : It} {ds : List D} {i : Nat} {d : D} {x : V} (I : ItsOk K B0 J ds) (S : Sat K F B α Γ Λ σ H) (e : Ex B0 B) (hd : ds[i]? = some d) (y : J.yld i H x H') :
    ∃ B', Sat K F B' α Γ Λ σ H' ∧ Ex B B' ∧ Rep K B' α d x := by
  rcases I.yld i H x H' d hd (e.trans S.bh) y with ⟨rfl, r⟩ | ⟨p, o, vs, es, rfl, hp, rfl, ho, rfl, r⟩
  · exact ⟨B, S, Ex.refl B, r.mono e List.nil_prefix⟩
  · have hB := S.bh.back hp
    refine ⟨upd B p o, S.lay hp ho.nt, Ex.new hB, ?_⟩
    unfold Rep
    exact ⟨p, vs, rfl, ho.sq upd_same, r.mono (e.trans (Ex.new hB)) List.nil_prefix⟩
section
variable {C : Ctx} {E : ER} {Γ : Env} {Λ : Cells} {tg : Expr} {P : List D → Cells → Prop} {pos p : Pos}
/-- lo, lo + 1, .. n of them -/
def rangeD (lo : Int) (n : Nat) : List D := (List.range n).map fun i => .int (lo + (i : Nat))
theorem itr_ok {K : PySem.W.Frag} {B : Hp} {lo : Int} {n : Nat} : ItsOk K B (Itr lo n) (rangeD lo n) where
  go := fun i H hi _ => by show i < n; unfold rangeD at hi; simpa using hi
  stop := fun H _ => by show n ≤ _; unfold rangeD; simp
  yld := fun i H x H' d hd _ y => by
    obtain ⟨rfl, rfl⟩ := y
    unfold rangeD at hd
    rw [List.getElem?_map] at hd
    have hi : i < n := by
      by_cases z : i < n
      · exact z
      · rw [List.getElem?_eq_none (by simpa using z)] at hd; cases hd
    rw [List.getElem?_range hi] at hd
    cases hd
    exact .inl ⟨rfl, by unfold Rep; rfl⟩
theorem wi_range1 {a : Expr} (hj : GlAt C "range") (hm : C.mg "range" = none) (h : WE C E Γ Λ a fun d Λ' => ∃ n : Int, d = .int n ∧ -(2 ^ 62) ≤ n ∧ n < 2 ^ 62 ∧ P (rangeD 0 n.toNat) Λ') (ha : plainE a = true := by rfl) : WI C E Γ Λ tg (.Call (.Name "range" p) [a] [] pos) P := fun X F W is tk => by
  refine pi_imp (pi_range1 (is.gl hj) (by rw [is.mg]; exact hm) (pa_cons pe_U pa_nil (star_plain ha)) (star_plain ha)) fun σ H R ⟨B, α, S, q, er⟩ => ?_
  refine WE.use h is tk S er fun d Λ' v B' α' H' p S' e f r => ?_
  obtain ⟨n, rfl, h1, h2, p⟩ := p
  unfold Rep at r
  subst r
  exact ⟨n, rfl, h1, h2, q _ Λ' _ B' α' H' p S' e f itr_ok⟩
end

/-! ### for -/
section
variable {C : Ctx} {Γ : Env} {Λ : Cells} {R : Rs} {pos : Pos}
/-- what a loop's body has to do at each item that is left -/
def LoopP (C : Ctx) (tg : Expr) (vs : List Nat) (body : List Stmt) (R : Rs) : List D → Env → Cells → Prop
  | [], Γ, Λ => R.nx Γ Λ
  | d :: ds, Γ, Λ => WG C Γ Λ tg d vs fun Γ' => WSs C Γ' Λ body { R with nx := LoopP C tg vs body R ds, ct := LoopP C tg vs body R ds, bk := R.nx }
theorem ws_for [Cool C] {tg iter : Expr} {body : List Stmt} (vs : List Nat) (h : WI C R.er Γ Λ tg iter fun ds Λ' => LoopP C tg vs body R ds Γ Λ') (hs : ∀ (env : PySem.Env) x, foldedSetIterable iter env x = pure x := by intro _ _; rfl) : WS C Γ Λ (.For tg iter body [] pos) R := fun X F W is hm tk => by
  refine ps_imp (ps_for is.po is.calm pi_U pg_U pss_U (hs X.env)) fun Dn σ H ⟨B, α, S, q⟩ => ?_
  refine ⟨_, h X F W is tk, B, α, S, fun ds Λ' J B' α' H' p S' e f it => ?_, q.er.at⟩
  refine ⟨fun i m σ1 H1 => m = ds.length - i ∧ i ≤ ds.length ∧ ∃ B1 α1 Γ1 Λ1, Sat C.K F B1 α1 Γ1 Λ1 σ1 H1 ∧ Ex B' B1 ∧ LoopP C tg vs body R (ds.drop i) Γ1 Λ1, ⟨_, rfl, Nat.zero_le _, B', α', Γ, Λ', S', Ex.refl _, p⟩, ?_⟩
  rintro i m σ1 H1 ⟨rfl, hi, B1, α1, Γ1, Λ1, S1, e1, lp⟩
  by_cases hlt : i < ds.length
  · refine .inr ⟨it.go i H1 hlt (e1.trans S1.bh), fun σ2 H2 => i + 1 ≤ ds.length ∧ ∃ B2 α2 Γ2 Λ2, Sat C.K F B2 α2 Γ2 Λ2 σ2 H2 ∧ Ex B' B2 ∧ LoopP C tg vs body R (ds.drop (i + 1)) Γ2 Λ2, fun σ2 H2 ⟨h1, h2⟩ => ⟨ds.length - (i + 1), by omega, rfl, h1, h2⟩, fun x H2 y => ?_⟩
    obtain ⟨B2, S2, e2, r2⟩ := it.take S1 e1 (List.getElem?_eq_getElem hlt) y
    rw [List.drop_eq_getElem_cons hlt] at lp
    refine ⟨_, lp X F is, B2, α1, S2, r2, fun Γ3 σ3 p3 S3 ag => ?_⟩
    refine WSs.use p3 is hm tk S3 ⟨fun Γ' Λ' B4 α4 σ4 H4 hr S4 e4 => ?_, (q.rt.mono e).mono (e1.trans e2), fun Γ' Λ' B4 α4 σ4 H4 hr S4 e4 => q.nx Γ' Λ' B4 α4 σ4 H4 hr S4 (((e.trans e1).trans e2).trans e4), fun Γ' Λ' B4 α4 σ4 H4 hr S4 e4 => ?_, (q.er.mono e).mono (e1.trans e2)⟩
    · exact ⟨hlt, B4, α4, Γ', Λ', S4, (e1.trans e2).trans e4, hr⟩
    · exact ⟨hlt, B4, α4, Γ', Λ', S4, (e1.trans e2).trans e4, hr⟩
  · have e' : i = ds.length := by omega
    subst e'
    rw [List.drop_length] at lp
    exact .inl ⟨it.stop H1 (e1.trans S1.bh), q.nx Γ1 Λ1 B1 α1 σ1 H1 lp S1 (e.trans e1)⟩
/-- while, by a word that falls -/
theorem ws_while {c : Expr} {body : List Stmt} (V : Nat → Env → Cells → Prop) (h0 : ∃ m, V m Γ Λ)
    (hs : ∀ m Γ Λ, V m Γ Λ → WT C R.er Γ Λ c fun b Λ' => if b = true then WSs C Γ Λ' body { R with nx := fun Γ' Λ'' => ∃ m', m' < m ∧ V m' Γ' Λ'', ct := fun Γ' Λ'' => ∃ m', m' < m ∧ V m' Γ' Λ'', bk := R.nx } else R.nx Γ Λ') : WS C Γ Λ (.While c body [] pos) R := fun X F W is hm tk => by
  refine ps_imp (ps_while is.po pt_U pss_U) fun Dn σ H ⟨B, α, S, q⟩ => ?_
  obtain ⟨m0, h0⟩ := h0
  refine ⟨fun m σ1 H1 => ∃ B1 α1 Γ1 Λ1, Sat C.K F B1 α1 Γ1 Λ1 σ1 H1 ∧ Ex B B1 ∧ V m Γ1 Λ1, ⟨m0, B, α, Γ, Λ, S, Ex.refl _, h0⟩, ?_⟩
  rintro m σ1 H1 ⟨B1, α1, Γ1, Λ1, S1, e1, v1⟩
  refine WT.use (hs m Γ1 Λ1 v1) is tk S1 (q.er.mono e1).at fun b Λ2 B2 α2 H2 p2 S2 e2 f2 => ?_
  cases b with
  | true =>
    rw [if_pos rfl] at p2 ⊢
    refine ⟨fun σ3 H3 => ∃ m', m' < m ∧ ∃ B3 α3 Γ3 Λ3, Sat C.K F B3 α3 Γ3 Λ3 σ3 H3 ∧ Ex B B3 ∧ V m' Γ3 Λ3, fun σ3 H3 h => h, ?_⟩
    refine WSs.use p2 is hm tk S2 ⟨fun Γ' Λ' B4 α4 σ4 H4 hr S4 e4 => ?_, q.rt.mono (e1.trans e2), fun Γ' Λ' B4 α4 σ4 H4 hr S4 e4 => q.nx Γ' Λ' B4 α4 σ4 H4 hr S4 ((e1.trans e2).trans e4), fun Γ' Λ' B4 α4 σ4 H4 hr S4 e4 => ?_, q.er.mono (e1.trans e2)⟩
    · obtain ⟨m', h1, h2⟩ := hr
      exact ⟨m', h1, B4, α4, Γ', Λ', S4, (e1.trans e2).trans e4, h2⟩
    · obtain ⟨m', h1, h2⟩ := hr
      exact ⟨m', h1, B4, α4, Γ', Λ', S4, (e1.trans e2).trans e4, h2⟩
  | false =>
    rw [if_neg (by simp)] at p2 ⊢
    exact q.nx Γ1 Λ2 B2 α2 σ1 H2 p2 S2 (e1.trans e2)
end

/-! ### list comprehensions -/
def wipeΓ (Γ : Env) : List Nat → Env
  | [] => Γ
  | v :: vs => (wipeΓ Γ vs).set v none
theorem wipeΓ_len (Γ : Env) : ∀ vs : List Nat, (wipeΓ Γ vs).length = Γ.length
  | [] => rfl
  | v :: vs => by unfold wipeΓ; rw [List.length_set, wipeΓ_len Γ vs]
theorem wipeΓ_some {Γ : Env} {i : Nat} {x : D} : ∀ {vs : List Nat}, (wipeΓ Γ vs)[i]? = some (some x) → Γ[i]? = some (some x) ∧ i ∉ vs
  | [], h => ⟨h, by simp⟩
  | v :: vs, h => by
    unfold wipeΓ at h
    by_cases hi : v = i
    · subst hi
      by_cases hv : v < (wipeΓ Γ vs).length
      · rw [List.getElem?_set_self hv] at h; cases h
      · rw [List.getElem?_eq_none (by simpa using hv)] at h; cases h
    · rw [List.getElem?_set_ne hi] at h
      obtain ⟨h1, h2⟩ := wipeΓ_some h
      exact ⟨h1, by simp only [List.mem_cons, not_or]; exact ⟨fun e => hi e.symm, h2⟩⟩
theorem wipe_at {σ : L2.St} {i : Nat} : ∀ {vs : List Nat}, i ∉ vs → (wipe σ vs)[i]? = σ[i]?
  | [], _ => rfl
  | v :: vs, h => by
    unfold wipe
    simp only [List.mem_cons, not_or] at h
    rw [List.getElem?_set_ne (fun e => h.1 e.symm), wipe_at h.2]
theorem wipe_in {σ : L2.St} {i : Nat} : ∀ {vs : List Nat}, i ∈ vs → i < σ.length → (wipe σ vs)[i]? = some none
  | v :: vs, h, hl => by
    unfold wipe
    by_cases e : v = i
    · subst e; rw [List.getElem?_set_self (by rw [wipe_length]; exact hl)]
    · rw [List.getElem?_set_ne e]
      rcases List.mem_cons.mp h with q | q
      · exact absurd q.symm e
      · exact wipe_in q hl
theorem wipe_agree {σ σ' : L2.St} {vs ws : List Nat} (hs : ∀ v ∈ ws, v ∈ vs) (h : Agree ws (wipe σ vs) σ') : wipe σ' vs = wipe σ vs := by
  apply List.ext_getElem?
  intro i
  have hl : σ'.length = σ.length := by rw [h.1, wipe_length]
  by_cases hi : i ∈ vs
  · by_cases hlt : i < σ.length
    · rw [wipe_in hi hlt, wipe_in hi (by omega)]
    · rw [List.getElem?_eq_none (by rw [wipe_length]; omega), List.getElem?_eq_none (by rw [wipe_length]; omega)]
  · rw [wipe_at hi, h.2 i (fun z => hi (hs i z)), wipe_at hi]
theorem Sat.wipe {K : PySem.W.Frag} {F : Fm} {B : Hp} {α : List Addr} {Γ : Env} {Λ : Cells} {σ : L2.St} {H : Hp} (S : Sat K F B α Γ Λ σ H) (vs : List Nat) : Sat K F B α (wipeΓ Γ vs) Λ (wipe σ vs) H :=
  S.env (by rw [wipeΓ_len, wipe_length, S.ln]) fun i d h => by
    obtain ⟨h1, h2⟩ := wipeΓ_some h
    obtain ⟨v, q1, q2⟩ := S.sl i d h1
    exact ⟨v, by rw [wipe_at h2]; exact q1, q2⟩

/-- the context of a comprehension's block -/
@[reducible] def Ctx.blk (C : Ctx) (scope : Scope) (vs ls : List Bool) (gl : List Str) : Ctx := { C with sc := relS scope C.sc, vs := vs, ls := ls, gl := gl, tp := false, cd := none }
instance {C : Ctx} {scope : Scope} {vs ls : List Bool} {gl : List Str} [c : Cool C] : Cool (C.blk scope vs ls gl) := ⟨c.h⟩
/-- what a comprehension has to do at each item that is left; acc: what is made so far -/
def CompP (C : Ctx) (Γ : Env) (Λ : Cells) (tg : Expr) (ws : List Nat) (ifs : List Expr) (elt : Expr) (P : List D → Prop) : List D → List D → Prop
  | [], acc => P acc
  | d :: ds, acc => acc.length < 10000000 ∧ WG C Γ Λ tg d ws fun Γ' => match ifs with
    | [] => WE C ER.none Γ' Λ elt fun y Λ' => Λ' = Λ ∧ CompP C Γ Λ tg ws ifs elt P ds (acc ++ [y])
    | [c] => WT C ER.none Γ' Λ c fun b Λ' => Λ' = Λ ∧ if b = true then WE C ER.none Γ' Λ elt fun y Λ' => Λ' = Λ ∧ CompP C Γ Λ tg ws ifs elt P ds (acc ++ [y]) else CompP C Γ Λ tg ws ifs elt P ds acc
    | _ => False
/-- a thing of the heap that nobody tells is written -/
theorem Sat.poke {K : PySem.W.Frag} {F : Fm} {B : Hp} {α : List Addr} {Γ : Env} {Λ : Cells} {σ : L2.St} {H : Hp} {p : Addr} {o : HO} (S : Sat K F B α Γ Λ σ H) (hB : B p = none) (h0 : F.H0 p = none) (hα : p ∉ α) (hC : Celly (H p)) : Sat K F B α Γ Λ σ (upd H p o) := by
  refine { S with bh := S.bh.mut hB, tb := S.tb.put hC fun z => absurd z hα, kp := fun a u h ha n => ?_, dm := fun a h => ?_, ce := fun n c h hg => ?_, ah := fun a ha => ?_ }
  · rw [upd_ne (fun e => by subst e; rw [h0] at h; cases h)]; exact S.kp a u h ha n
  · by_cases e : a = p
    · subst e; exact h0
    · rw [upd_ne e] at h; exact S.dm a h
  · obtain ⟨a, h1, h2, h3, h4⟩ := S.ce n c h hg
    have hap : a ≠ p := fun e => hα (e ▸ List.mem_of_getElem? h1)
    exact ⟨a, h1, h2, h3, h4.mono (Ex.refl B) (List.prefix_refl _) fun u q _ => by rw [upd_ne hap]; exact q⟩
  · have hap : a ≠ p := fun e => hα (e ▸ ha)
    rw [upd_ne hap]; exact S.ah a ha
theorem pre_len {α α' : List Addr} (h : α <+: α') (e : α'.length = α.length) : α' = α := by
  obtain ⟨t, rfl⟩ := h
  have : t = [] := by
    rw [List.length_append] at e
    exact List.length_eq_zero_iff.mp (by omega)
  rw [this, List.append_nil]
section
variable {C : Ctx} {E : ER} {Γ : Env} {Λ : Cells}
theorem blk_is {X : Cx} {scope : Scope} {vs ls : List Bool} {gl : List Str} (is : C.Is X) (good : (C.blk scope vs ls gl).Good) (hst : ∀ (i : Nat) (x : Str), C.N[i]? = some x → ls[i]? = some true → scope.names.lookup x = some .local ∨ scope.names.lookup x = some .cell)
    (s : Shared) (H : Hp) (c : Addr) (cl : List (Str × Addr)) (fp : List Addr) : (C.blk scope vs ls gl).Is (X.blk s H scope (compEnvC scope cl c X.env) fp) where
  prog := is.prog
  w := is.w
  K := is.K
  mg := is.mg
  base := is.base
  N := is.N
  sc := by
    show relS scope X.env.scope = relS scope C.sc
    rw [is.sc]
  calmW := is.calmW
  hdW := is.hdW
  tp := fun h => Bool.noConfusion (h : false = true)
  cdv := fun q c h => nomatch h
  roomW := is.roomW
  fn := fun i x hi hl => by
    rcases hst i x hi hl with h | h
    · exact .inr (lookup_relS_keep (by simp) h)
    · refine .inl ?_
      show (scope.names.lookup x == some .cell) = true
      rw [h]; rfl
  good := good
  po := PassesOwn.never
def UEb (X : Cx) (scope : Scope) (e : Expr) : TE := fun σ H Q => ∃ t, (∀ s H c cl fp, PE (X.blk s H scope (compEnvC scope cl c X.env) fp) e t) ∧ t σ H Q
def UGb (X : Cx) (scope : Scope) (e : Expr) : TG := fun v σ H Q => ∃ t, (∀ s H c cl fp, PG (X.blk s H scope (compEnvC scope cl c X.env) fp) e t) ∧ t v σ H Q
def UTb (X : Cx) (scope : Scope) (e : List Expr) : TT := fun σ H Q => ∃ t, (∀ s H c cl fp, PTs (X.blk s H scope (compEnvC scope cl c X.env) fp) e t) ∧ t σ H Q
theorem pgb {X : Cx} {scope : Scope} {e : Expr} (s : Shared) (H : Hp) (c : Addr) (cl : List (Str × Addr)) (fp : List Addr) : PG (X.blk s H scope (compEnvC scope cl c X.env) fp) e (UGb X scope e) := ⟨fun pins s' σ' H' v u Q I r ⟨t, ht, q⟩ => (ht s H c cl fp).run pins s' σ' H' v u Q I r q⟩
theorem ptb {X : Cx} {scope : Scope} {e : List Expr} (s : Shared) (H : Hp) (c : Addr) (cl : List (Str × Addr)) (fp : List Addr) : PTs (X.blk s H scope (compEnvC scope cl c X.env) fp) e (UTb X scope e) := ⟨fun pins s' σ' H' Q I ⟨t, ht, q⟩ => (ht s H c cl fp).run pins s' σ' H' Q I q⟩
theorem peb {X : Cx} {scope : Scope} {e : Expr} (s : Shared) (H : Hp) (c : Addr) (cl : List (Str × Addr)) (fp : List Addr) : PE (X.blk s H scope (compEnvC scope cl c X.env) fp) e (UEb X scope e) := ⟨fun pins s' σ' H' Q I ⟨t, ht, q⟩ => (ht s H c cl fp).run pins s' σ' H' Q I q⟩
/-- [elt for tg in iter if ..] -/
theorem lc_core' {X : Cx} {F : Fm} {W : WX} {Q : VK} {σ : L2.St} {H : Hp} {elt tg iter : Expr} {ifs : List Expr} {scope : Scope} {own : List (Str × Nat)} {vs ls : List Bool} {gl : List Str} {ws : List Nat} {P : List D → Cells → Prop} {B : Hp} {α : List Addr}
    (good : (C.blk scope vs ls gl).Good) (hst : ∀ (i : Nat) (x : Str), C.N[i]? = some x → ls[i]? = some true → scope.names.lookup x = some .local ∨ scope.names.lookup x = some .cell) (hws : ∀ v ∈ ws, v ∈ own.map (·.2))
    (is : C.Is X) (tk : Takes X W) (S : Sat C.K F B α Γ Λ σ H) (er : ErOk C.K F W B σ Γ E)
    (h : WI C E Γ Λ tg iter fun ds Λ' => CompP (C.blk scope vs ls gl) (wipeΓ Γ (own.map (·.2))) Λ' tg ws ifs elt (fun ys => P ys Λ') ds [])
    (q : ∀ ds Λ' p vs B' α' H', P ds Λ' → Sat C.K F B' α' Γ Λ' σ H' → Ex B B' → α <+: α' → H' p = some (.lst vs) → B' p = none → F.H0 p = none → p ∉ α' → Reps C.K B' α' ds vs → Q (.ref p) H') :
    tLc (UI X tg iter) (UGb X scope tg) (UTb X scope ifs) (UEb X scope elt) (own.map (·.2)) σ H Q := by
  refine ⟨_, h X F W is tk, B, α, S, fun ds Λ' J B' α' H1 p S' e f it D hD => ?_, er⟩
  have h0 : F.H0 D = none := S'.dm D hD
  have hα : D ∉ α' := fun ha => (S'.ah D ha).1 hD
  have S0 := (S'.grow (Ex.new hD (o := .lst []))).wipe (own.map (·.2))
  refine ⟨fun i m H2 => m = ds.length - i ∧ i ≤ ds.length ∧ ∃ B2 acc av, Sat C.K F B2 α' (wipeΓ Γ (own.map (·.2))) Λ' (wipe σ (own.map (·.2))) H2 ∧ Ex B' B2 ∧ H2 D = some (.lst av) ∧ B2 D = none ∧ Reps C.K B2 α' acc av ∧
      CompP (C.blk scope vs ls gl) (wipeΓ Γ (own.map (·.2))) Λ' tg ws ifs elt (fun ys => P ys Λ') (ds.drop i) acc,
    ⟨_, rfl, Nat.zero_le _, B', [], [], S0, Ex.refl _, upd_same, S'.bh.back hD, .nil, p⟩, ?_⟩
  rintro i m H2 ⟨rfl, hi, B2, acc, av, S2, e2, hD2, hB2, ra, cp⟩
  by_cases hlt : i < ds.length
  · refine .inr ⟨it.go i H2 hlt (e2.trans S2.bh), fun H3 => i + 1 ≤ ds.length ∧ ∃ B3 acc av, Sat C.K F B3 α' (wipeΓ Γ (own.map (·.2))) Λ' (wipe σ (own.map (·.2))) H3 ∧ Ex B' B3 ∧ H3 D = some (.lst av) ∧ B3 D = none ∧ Reps C.K B3 α' acc av ∧
      CompP (C.blk scope vs ls gl) (wipeΓ Γ (own.map (·.2))) Λ' tg ws ifs elt (fun ys => P ys Λ') (ds.drop (i + 1)) acc, fun H3 ⟨k1, k2⟩ => ⟨ds.length - (i + 1), by omega, rfl, k1, k2⟩, fun x H3 y => ?_⟩
    have tk3 : ∃ B3, Sat C.K F B3 α' (wipeΓ Γ (own.map (·.2))) Λ' (wipe σ (own.map (·.2))) H3 ∧ Ex B2 B3 ∧ Rep C.K B3 α' ds[i] x ∧ H3 D = some (.lst av) ∧ B3 D = none := by
      rcases it.yld i H2 x H3 ds[i] (List.getElem?_eq_getElem hlt) (e2.trans S2.bh) y with ⟨rfl, r⟩ | ⟨p', o', vs', es, rfl, hp, rfl, ho, he, r⟩
      · exact ⟨B2, S2, Ex.refl _, r.mono e2 List.nil_prefix, hD2, hB2⟩
      · have hb := S2.bh.back hp
        have hne : D ≠ p' := fun z => by rw [← z, hD2] at hp; cases hp
        refine ⟨upd B2 p' o', S2.lay hp ho.nt, Ex.new hb, ?_, by rw [upd_ne hne]; exact hD2, by rw [upd_ne hne]; exact hB2⟩
        rw [he]
        unfold Rep
        exact ⟨p', vs', rfl, ho.sq upd_same, r.mono (e2.trans (Ex.new hb)) List.nil_prefix⟩
    obtain ⟨B3, S3, e3, r3, hD3, hB3⟩ := tk3
    rw [List.drop_eq_getElem_cons hlt] at cp
    obtain ⟨hl, cp⟩ := cp
    have T3 := S3.rebase
    refine ⟨_, fun s H c cl fp => cp _ ⟨H3, B3, α'⟩ (blk_is is good hst s H c cl fp), B3, α', T3, r3, fun Γ4 σ4 p4 T4 ag => ?_⟩
    refine ⟨wipe_agree hws ag, ?_⟩
    -- behind the element
    have fin : ∀ (y : Pl.D) (B5 : Hp) (α5 : List Addr) (H5 : Hp) (v : V), CompP (C.blk scope vs ls gl) (wipeΓ Γ (own.map (·.2))) Λ' tg ws ifs elt (fun ys => P ys Λ') (ds.drop (i + 1)) (acc ++ [y]) → Sat C.K ⟨H3, B3, α'⟩ B5 α5 Γ4 Λ' σ4 H5 → Ex B3 B5 → Rep C.K B5 α5 y v →
        ∃ acc', H5 D = some (.lst acc') ∧ acc'.length < sizeLine ∧ i + 1 ≤ ds.length ∧ ∃ B3 acc av, Sat C.K F B3 α' (wipeΓ Γ (own.map (·.2))) Λ' (wipe σ (own.map (·.2))) (upd H5 D (.lst (acc' ++ [v]))) ∧ Ex B' B3 ∧ (upd H5 D (.lst (acc' ++ [v]))) D = some (.lst av) ∧ B3 D = none ∧ Reps C.K B3 α' acc av ∧
          CompP (C.blk scope vs ls gl) (wipeΓ Γ (own.map (·.2))) Λ' tg ws ifs elt (fun ys => P ys Λ') (ds.drop (i + 1)) acc := fun y B5 α5 H5 v cp5 T5 e5 r5 => by
      have hα5 : α5 = α' := pre_len T5.pf (by rw [T5.al, S3.al])
      subst hα5
      have hD5 : H5 D = some (.lst av) := T5.kp D _ hD3 hα (fun _ q => nomatch q)
      have hB5 : B5 D = none := by
        cases z : B5 D with
        | none => rfl
        | some o =>
          rcases T5.fr D o z with k | k
          · have : B3 D = some o := k
            rw [hB3] at this; cases this
          · have : H3 D = none := k
            rw [hD3] at this; cases this
      have S5 := S3.unbase T5
      have S5' : Sat C.K F B5 α5 (wipeΓ Γ (own.map (·.2))) Λ' (wipe σ (own.map (·.2))) H5 := S5.env S3.ln fun j d hj => by
        obtain ⟨u, q1, q2⟩ := S3.sl j d hj
        exact ⟨u, q1, q2.mono e5 (List.prefix_refl _)⟩
      refine ⟨av, hD5, by rw [ra.length]; exact Nat.lt_of_lt_of_le hl (by rw [sizeLine_eq]; decide), hlt, B5, acc ++ [y], av ++ [v], S5'.poke hB5 h0 hα (by rw [hD5]; trivial), (e2.trans e3).trans e5, upd_same, hB5, (ra.mono (e3.trans e5) (List.prefix_refl _)).append (.one r5), cp5⟩
    cases ifs with
    | nil =>
      refine ⟨tYes, fun _ _ _ _ _ => pts_nil, ?_⟩
      dsimp only [tYes]
      rw [if_pos rfl]
      refine ⟨_, fun s H c cl fp => p4 _ ⟨H3, B3, α'⟩ _ (blk_is is good hst s H c cl fp) takes0, B3, α', T4, fun y Λ5 v B5 α5 H5 p5 T5 e5 f5 r5 => ?_, fun _ _ _ _ _ _ _ z => z.elim⟩
      obtain ⟨rfl, cp5⟩ := p5
      exact fin y B5 α5 H5 v cp5 T5 e5 r5
    | cons c r =>
      cases r with
      | nil =>
        refine ⟨_, fun s H c' cl fp => pts_one (p4 _ ⟨H3, B3, α'⟩ _ (blk_is is good hst s H c' cl fp) takes0), B3, α', T4, fun b Λ5 B5 α5 H5 p5 T5 e5 f5 => ?_, fun _ _ _ _ _ _ _ z => z.elim⟩
        obtain ⟨rfl, p5⟩ := p5
        cases b with
        | true =>
          rw [if_pos rfl] at p5 ⊢
          refine ⟨_, fun s H c cl fp => p5 _ ⟨H3, B3, α'⟩ _ (blk_is is good hst s H c cl fp) takes0, B5, α5, T5, fun y Λ6 v B6 α6 H6 p6 T6 e6 f6 r6 => ?_, fun _ _ _ _ _ _ _ z => z.elim⟩
          obtain ⟨rfl, cp6⟩ := p6
          exact fin y B6 α6 H6 v cp6 T6 (e5.trans e6) r6
        | false =>
          rw [if_neg (by simp)] at p5 ⊢
          have hα5 : α5 = α' := pre_len T5.pf (by rw [T5.al, S3.al])
          subst hα5
          have hD5 : H5 D = some (.lst av) := T5.kp D _ hD3 hα (fun _ q => nomatch q)
          have hB5 : B5 D = none := by
            cases z : B5 D with
            | none => rfl
            | some o =>
              rcases T5.fr D o z with k | k
              · have : B3 D = some o := k
                rw [hB3] at this; cases this
              · have : H3 D = none := k
                rw [hD3] at this; cases this
          have S5 := S3.unbase T5
          refine ⟨hlt, B5, acc, av, S5.env S3.ln fun j d hj => ?_, (e2.trans e3).trans e5, hD5, hB5, ra.mono (e3.trans e5) (List.prefix_refl _), p5⟩
          obtain ⟨u, q1, q2⟩ := S3.sl j d hj
          exact ⟨u, q1, q2.mono e5 (List.prefix_refl _)⟩
      | cons _ _ => exact p4.elim
  · have e' : i = ds.length := by omega
    subst e'
    rw [List.drop_length] at cp
    refine .inl ⟨it.stop H2 (e2.trans S2.bh), ?_⟩
    exact q acc Λ' D av B2 α' H2 cp (S2.env S'.ln fun j d hj => by
      obtain ⟨u, q1, q2⟩ := S'.sl j d hj
      exact ⟨u, q1, q2.mono e2 (List.prefix_refl _)⟩) (e.trans e2) f hD2 hB2 h0 hα ra
theorem wn_lc [Cool C] {elt tg iter : Expr} {ifs : List Expr} {scope : Scope} {pos : Pos} {P : List D → Cells → Prop} (own : List (Str × Nat)) (vs ls : List Bool) (gl : List Str) (ws : List Nat)
    (ok : BlkOk C.N C.sc scope own) (good : (C.blk scope vs ls gl).Good) (hst : ∀ (i : Nat) (x : Str), C.N[i]? = some x → ls[i]? = some true → scope.names.lookup x = some .local ∨ scope.names.lookup x = some .cell) (hws : ∀ v ∈ ws, v ∈ own.map (·.2))
    (h : WI C E Γ Λ tg iter fun ds Λ' => CompP (C.blk scope vs ls gl) (wipeΓ Γ (own.map (·.2))) Λ' tg ws ifs elt (fun ys => P ys Λ') ds [])
    (hs : ∀ (env : PySem.Env) x, foldedSetIterable iter env x = pure x := by intro _ _; rfl) : WN C E Γ Λ (.ListComp elt [⟨tg, iter, ifs, 0⟩] scope pos) P := fun X F W is tk =>
  pe_imp (pe_lc (own := own) is.calm is.nd pi_U (by rw [is.N, is.sc]; exact ok) pgb ptb peb (hs X.env))
    fun σ H Q ⟨B, α, S, q, er⟩ => lc_core' good hst hws is tk S er h q
end
end Pl

namespace Pl
open PySem L2 PyProof.Rows

/-! ### calls of built-ins -/
/-- what a call by values does to data -/
def CK (K : PySem.W.Frag) (r : List V → Hp → VK → Prop) (ds : List D) (Γ : Env) (Λ : Cells) (P : D → Cells → Prop) : Prop := ∀ F B α σ H vs (Q : VK), Sat K F B α Γ Λ σ H → Reps K B α ds vs →
  (∀ d Λ' v B' α' H', P d Λ' → Sat K F B' α' Γ Λ' σ H' → Ex B B' → α <+: α' → Rep K B' α' d v → Q v H') → r vs H Q
section
variable {C : Ctx} {E : ER} {Γ : Env} {Λ : Cells} {P : D → Cells → Prop} {pos p : Pos} {e : Expr} {es : List Expr} {x : Str} {id T : String} {r : List V → Hp → VK → Prop}
theorem we_callB (hc : ∀ X, C.Is X → CallR X (.builtin id) r) (hj : GlAt C x) (hm : C.mg x = none) (hv : bootBuiltins x = some (.builtin id)) (h : WA C E Γ Λ (e :: es) fun ds Λ1 => CK C.K r ds Γ Λ1 P)
    (hn : x ≠ "__name__" := by decide) (hdb : (x == ("__debug__" : Str)) = false := by decide) (he : plainE e = true := by rfl) (hes : es.all plainE = true := by rfl) : WE C E Γ Λ (.Call (.Name x p) (e :: es) [] pos) P := fun X F W is tk => by
  refine pe_imp (pe_callB (hc X is) (is.gl hj) (by rw [is.mg]; exact hm) hv pa_U hn hdb (star_plain he) (back_plain hes)) fun σ H Q ⟨B, α, S, q, er⟩ => ?_
  refine WA.use h is tk S er fun ds Λ1 vs B1 α1 H1 p1 S1 e1 f1 r1 => ?_
  exact p1 F B1 α1 σ H1 vs Q S1 r1 fun d Λ' v B' α' H' p' S' e' f' r' => q d Λ' v B' α' H' p' S' (e1.trans e') (f1.trans f') r'
/-- .. to a value, the heap as it is -/
theorem ck_val {K : PySem.W.Frag} {ds : List D} {z : D} (p : P z Λ) (h : ∀ F B α σ H vs (Q : VK), Sat K F B α Γ Λ σ H → Reps K B α ds vs → (∀ v, Rep K B α z v → Q v H) → r vs H Q) : CK K r ds Γ Λ P :=
  fun F B α σ H vs Q S rs q => h F B α σ H vs Q S rs fun v rv => q z Λ v B α H p S (Ex.refl B) (List.prefix_refl _) rv
theorem reps1 {K : PySem.W.Frag} {B : Hp} {α : List Addr} {d : D} {vs : List V} (h : Reps K B α [d] vs) : ∃ v, vs = [v] ∧ Rep K B α d v := by
  unfold Reps Reps at h
  obtain ⟨v, r, rfl, h1, rfl⟩ := h
  exact ⟨v, rfl, h1⟩
theorem reps2 {K : PySem.W.Frag} {B : Hp} {α : List Addr} {d e : D} {vs : List V} (h : Reps K B α [d, e] vs) : ∃ v w, vs = [v, w] ∧ Rep K B α d v ∧ Rep K B α e w := by
  unfold Reps at h
  obtain ⟨v, r, rfl, h1, h2⟩ := h
  obtain ⟨w, rfl, h3⟩ := reps1 h2
  exact ⟨v, w, rfl, h1, h3⟩

/-! #### len -/
def lenP (Λ : Cells) (x : D) (P : Int → Prop) : Prop := match x with
  | .str s => s.length ≤ sizeLine ∧ P s.length
  | x => ∃ ds, seqD Λ x = some ds ∧ P ds.length
theorem len_K {K : PySem.W.Frag} {ds : List D} (h : ∃ x, ds = [x] ∧ lenP Λ x fun n => P (.int n) Λ) : CK K (fun xs H Q => (∃ p ys, xs = [.ref p] ∧ (SqL K H p ys ∨ SqT K H p ys) ∧ Q (.int ys.length) H) ∨ (∃ z, xs = [.str z] ∧ z.length ≤ sizeLine ∧ Q (.int z.length) H)) ds Γ Λ P := by
  intro F B α σ H vs Q S rs q
  obtain ⟨x, rfl, h⟩ := h
  obtain ⟨v, rfl, rv⟩ := reps1 rs
  have keep : ∀ {i : Int}, P (.int i) Λ → Q (.int i) H := fun {i} p => q _ Λ _ B α H p S (Ex.refl B) (List.prefix_refl _) (by unfold Rep; rfl)
  unfold lenP at h
  split at h
  · rename_i s
    unfold Rep at rv
    subst rv
    exact .inr ⟨s, rfl, h.1, keep h.2⟩
  · obtain ⟨ds, hs, p⟩ := h
    obtain ⟨a, vs, rfl, h1, h2⟩ := S.seq rv hs
    refine .inl ⟨a, vs, rfl, h1, ?_⟩
    rw [h2.length]
    exact keep p
theorem crK {X : Cx} {f : Value} (r : PySem.W.Frag → List V → Hp → VK → Prop) (is : C.Is X) (h : CallR X f (r X.K)) : CallR X f (r C.K) := by rw [← is.K]; exact h
theorem we_len (hj : GlAt C "len") (hm : C.mg "len" = none) (h : WE C E Γ Λ e fun x Λ1 => lenP Λ1 x fun n => P (.int n) Λ1) (he : plainE e = true := by rfl) : WE C E Γ Λ (.Call (.Name "len" p) [e] [] pos) P :=
  we_callB (r := fun xs H Q => (∃ p ys, xs = [.ref p] ∧ (SqL C.K H p ys ∨ SqT C.K H p ys) ∧ Q (.int ys.length) H) ∨ (∃ z, xs = [.str z] ∧ z.length ≤ sizeLine ∧ Q (.int z.length) H))
    (fun X is => crK (fun K xs H Q => (∃ p ys, xs = [.ref p] ∧ (SqL K H p ys ∨ SqT K H p ys) ∧ Q (.int ys.length) H) ∨ (∃ z, xs = [.str z] ∧ z.length ≤ sizeLine ∧ Q (.int z.length) H)) is (call_len_seq.or call_len_str)) hj hm PySem.boot_len
    (wa_cons (we_mono h fun x Λ1 q => wa_nil (len_K ⟨x, rfl, q⟩)) he) (he := he)

/-! #### list(x), tuple(x) -/
theorem boot_int' : bootBuiltins "int" = some (.type "int") := by decide +kernel
theorem boot_bool' : bootBuiltins "bool" = some (.type "bool") := by decide +kernel
theorem boot_isi' : bootBuiltins "isinstance" = some (.builtin "isinstance") := by decide +kernel
/-! #### sum, max, min, all, any -/
variable {e2 : Expr}
/-! #### int(x), isinstance -/
/-- a datum's type, by name -/
def tyD (Λ : Cells) (x : D) : Option String := match vw Λ x with
  | .non => some "NoneType"
  | .bl _ => some "bool"
  | .int _ => some "int"
  | .str _ => some "str"
  | .tup _ => some "tuple"
  | .lst _ => some "list"
  | .fzl _ => some "list"
  | .dic _ _ => some "dict"
  | _ => none
theorem tyx_of {K : PySem.W.Frag} {H : Hp} {F : Fm} {B : Hp} {α : List Addr} {σ : L2.St} (S : Sat K F B α Γ Λ σ H) {x : D} {v : V} {t : String} (r : Rep K B α x v) (h : tyD Λ x = some t) : TyX K H v (.type t) := by
  unfold tyD at h
  split at h
  all_goals first | (cases h; done) | skip
  all_goals rename_i hx
  · have ex := vw_noc hx (by simp) (by simp) (by simp) (by simp); subst ex; cases h; unfold Rep at r; subst r; exact .base .non
  · have ex := vw_noc hx (by simp) (by simp) (by simp) (by simp); subst ex; cases h; unfold Rep at r; subst r; exact .base (.bl _)
  · have ex := vw_noc hx (by simp) (by simp) (by simp) (by simp); subst ex; cases h; unfold Rep at r; subst r; exact .base (.int _)
  · have ex := vw_noc hx (by simp) (by simp) (by simp) (by simp); subst ex; cases h; unfold Rep at r; subst r; exact .base (.str _)
  · have ex := vw_noc hx (by simp) (by simp) (by simp) (by simp); subst ex; cases h; unfold Rep at r
    obtain ⟨a, vs, rfl, h1, _⟩ := r
    rcases S.bh.sqT h1.1 with (h2 | ⟨o, h2⟩) | ⟨o, its, n, h2, h3, _⟩
    · exact .base (.tup h2)
    · exact .fTuple h2
    · exact .kTuple h2 h3
  · cases h
    obtain ⟨a, vs, rfl, h1, _⟩ := S.lst r hx
    exact .base (.lst h1)
  · have ex := vw_noc hx (by simp) (by simp) (by simp) (by simp); subst ex; cases h; unfold Rep at r
    obtain ⟨a, vs, rfl, h1, _⟩ := r
    rcases S.bh.sqL h1 with (h2 | ⟨o, h2⟩) | ⟨o, its, n, h2, h3, _⟩
    · exact .base (.lst h2)
    · exact .base (.frz h2)
    · exact .kList h2 h3
  · cases h
    obtain ⟨a, vs, rfl, h1, _⟩ := S.dic r hx
    rcases h1 with h2 | ⟨o, h2⟩
    · exact .base (.dK h2)
    · exact .fDict h2
def isiB (a b : String) : Option Bool :=
  if b = "int" then some (a == "int" || a == "bool") else if b = "bool" then some (a == "bool") else if b = "str" then some (a == "str") else if b = "list" then some (a == "list") else if b = "tuple" then some (a == "tuple") else none
theorem isi_ok {Λ : Cells} {x : D} {a b : String} {r : Bool} (ha : tyD Λ x = some a) (h : isiB a b = some r) : kitB a b = some r := by
  have fa : a = "NoneType" ∨ a = "bool" ∨ a = "int" ∨ a = "str" ∨ a = "tuple" ∨ a = "list" ∨ a = "dict" := by
    unfold tyD at ha
    split at ha <;> cases ha <;> simp
  unfold isiB at h
  have fb : b = "int" ∨ b = "bool" ∨ b = "str" ∨ b = "list" ∨ b = "tuple" := by
    by_cases h1 : b = "int"; · exact .inl h1
    by_cases h2 : b = "bool"; · exact .inr (.inl h2)
    by_cases h3 : b = "str"; · exact .inr (.inr (.inl h3))
    by_cases h4 : b = "list"; · exact .inr (.inr (.inr (.inl h4)))
    by_cases h5 : b = "tuple"; · exact .inr (.inr (.inr (.inr h5)))
    rw [if_neg h1, if_neg h2, if_neg h3, if_neg h4, if_neg h5] at h; cases h
  rcases fb with rfl | rfl | rfl | rfl | rfl <;> rcases fa with rfl | rfl | rfl | rfl | rfl | rfl | rfl <;> (cases h; decide +kernel)
theorem we_isi (hj : GlAt C "isinstance") (hm : C.mg "isinstance" = none) (h : WE C E Γ Λ e fun x Λ1 => WE C E Γ Λ1 e2 fun y Λ2 => ∃ t T b, y = .raw (.ty T) ∧ tyD Λ2 x = some t ∧ isiB t T = some b ∧ P (.bl b) Λ2) (he : plainE e = true := by rfl) (he2 : plainE e2 = true := by rfl) : WE C E Γ Λ (.Call (.Name "isinstance" p) [e, e2] [] pos) P :=
  we_callB (fun X is => crK rIsi is call_isi) hj hm boot_isi' (wa_cons (we_mono h fun x Λ1 h => wa_cons (we_mono h fun y Λ2 ⟨t, T, b, hy, ht, hb, h2⟩ => wa_nil (ck_val h2 fun F B α σ H vs Q S rs q => by
    subst hy
    obtain ⟨v, w, rfl, r1, r2⟩ := reps2 rs
    have r2' := r2
    unfold Rep at r2'
    exact ⟨v, w, .type t, .type T, b, rfl, by rw [r2']; exact .ty T, tyx_of S r1 ht, kit_ty (isi_ok ht hb), q _ (by unfold Rep; rfl)⟩)) he2) he) (he := he) (hes := by simp [he2])
end

/-! ### methods of lists -/
/-- no call of a bare name stands there -/
def plainO : Expr → Bool
  | .Call (.Name _ _) [] [] _ => false
  | _ => true
theorem base_plain {o : Expr} {x : Str} {env : PySem.Env} (h : plainO o = true) : attributeBase o x env (eval o env) = eval o env := by
  unfold attributeBase
  split
  · cases h
  · rfl
theorem few1 {e : Expr} {env : PySem.Env} {cpos : Pos} (h : plainE e = true) : ((backTo cpos (starEach [e] env)).all (fun x => !x.1) && (backToKw cpos (keywordEach [] env)).all (fun x => x.1.isSome)
      && decide ([e].length + ([] : List Keyword).length + (if ([] : List Keyword).isEmpty then 0 else 1) < 30)) = true := by
  rw [star_plain h]; rfl
section
variable {C : Ctx} {E : ER} {Γ : Env} {Λ : Cells} {P : D → Cells → Prop} {apos cpos : Pos} {o e : Expr}
theorem Sat.cellL {K : PySem.W.Frag} {F : Fm} {B : Hp} {α : List Addr} {σ : L2.St} {H : Hp} (S : Sat K F B α Γ Λ σ H) {n : Nat} {v : V} {ds : List D} (r : Rep K B α (.loc n) v) (h : Λ[n]? = some (.lst ds)) : ∃ a vs, v = .ref a ∧ α[n]? = some a ∧ B a = none ∧ H a = some (.lst vs) ∧ Reps K B α ds vs := by
  unfold Rep at r
  obtain ⟨a, rfl, h1⟩ := r
  obtain ⟨a', q1, q2, q3, vs, q4, q5⟩ := S.ce n _ h (by simp)
  rw [h1] at q1; cases q1
  exact ⟨a, vs, rfl, h1, q2, q4, q5⟩
/-- o.append(e) -/
theorem we_append (h : WE C E Γ Λ o fun x Λ1 => ∃ n ds0, x = .loc n ∧ Λ1[n]? = some (.lst ds0) ∧ WE C E Γ Λ1 e fun y Λ2 => ∃ ds, Λ2[n]? = some (.lst ds) ∧ ds.length < sizeLine ∧ P .non (Λ2.set n (.lst (ds ++ [y]))))
    (ho : plainO o = true := by rfl) (he : plainE e = true := by rfl) (hl : (apos.endLine == cpos.line) = true := by rfl) : WE C E Γ Λ (.Call (.Attribute o "append" apos) [e] [] cpos) P := fun X F W is tk => by
  refine pe_imp (pe_bm PySem.F.plainAttrs_list PySem.F.slot_list_append PySem.F.type_list_append mt_append pe_U (pa_cons pe_U pa_nil (star_plain he)) (base_plain ho) (few1 he) hl (star_plain he) rfl) fun σ H Q ⟨B, α, S, q, er⟩ => ?_
  refine WE.use h is tk S er fun x Λ1 vx B1 α1 H1 p1 S1 e1 f1 r1 => ?_
  obtain ⟨n, ds0, rfl, hn, p1⟩ := p1
  obtain ⟨a, vs, rfl, g1, g2, g3, g4⟩ := S1.cellL r1 hn
  refine ⟨.inl ⟨rfl, _, by exact SqL.of g3⟩, ?_⟩
  refine WE.use p1 is tk S1 (er.mono e1) fun y Λ2 vy B2 α2 H2 p2 S2 e2 f2 r2 => ?_
  obtain ⟨ds, hn2, hz, p⟩ := p2
  obtain ⟨a', vs2, ea, k1, k2, k3, k4⟩ := S2.cellL (Rep.mono e2 f2 _ _ r1) hn2
  cases ea
  refine ⟨a, vs2, vy, rfl, rfl, k3, by rw [k4.length]; exact hz, ?_⟩
  exact q _ _ _ B2 α2 _ p (S2.put k1 k2 ⟨vs2 ++ [vy], upd_same, k4.append (.one r2)⟩) (e1.trans e2) (f1.trans f2) (by unfold Rep; rfl)
/-- o.pop() -/
theorem we_pop (h : WE C E Γ Λ o fun x Λ1 => ∃ n ds d, x = .loc n ∧ Λ1[n]? = some (.lst ds) ∧ ds.getLast? = some d ∧ P d (Λ1.set n (.lst ds.dropLast)))
    (ho : plainO o = true := by rfl) (hl : (apos.endLine == cpos.line) = true := by rfl) : WE C E Γ Λ (.Call (.Attribute o "pop" apos) [] [] cpos) P := fun X F W is tk => by
  refine pe_imp (pe_bm0 PySem.F.plainAttrs_list PySem.F.slot_list_pop PySem.F.type_list_pop mt_pop pe_U (base_plain ho) hl) fun σ H Q ⟨B, α, S, q, er⟩ => ?_
  refine WE.use h is tk S er fun x Λ1 vx B1 α1 H1 p1 S1 e1 f1 r1 => ?_
  obtain ⟨n, ds, d, rfl, hn, hd, p⟩ := p1
  obtain ⟨a, vs, rfl, g1, g2, g3, g4⟩ := S1.cellL r1 hn
  rw [List.getLast?_eq_getElem?] at hd
  obtain ⟨v, hv, rv⟩ := g4.get hd
  refine ⟨.inl ⟨rfl, _, by exact SqL.of g3⟩, a, vs, v, rfl, rfl, g3, by rw [g4.length]; exact hv, ?_⟩
  refine q d _ v B1 α1 _ p (S1.put g1 g2 ⟨vs.dropLast, upd_same, ?_⟩) e1 f1 rv
  rw [List.dropLast_eq_take, List.dropLast_eq_take, g4.length]
  exact g4.take _
/-- o.extend(e), e a list that is seen -/
theorem we_extend (h : WE C E Γ Λ o fun x Λ1 => ∃ n ds0, x = .loc n ∧ Λ1[n]? = some (.lst ds0) ∧ WE C E Γ Λ1 e fun y Λ2 => ∃ ds zs, Λ2[n]? = some (.lst ds) ∧ vw Λ2 y = .lst zs ∧ ds.length + zs.length ≤ sizeLine ∧ P .non (Λ2.set n (.lst (ds ++ zs))))
    (ho : plainO o = true := by rfl) (he : plainE e = true := by rfl) (hl : (apos.endLine == cpos.line) = true := by rfl) : WE C E Γ Λ (.Call (.Attribute o "extend" apos) [e] [] cpos) P := fun X F W is tk => by
  refine pe_imp (pe_bm PySem.F.plainAttrs_list PySem.F.slot_list_extend PySem.F.type_list_extend mt_extend pe_U (pa_cons pe_U pa_nil (star_plain he)) (base_plain ho) (few1 he) hl (star_plain he) rfl) fun σ H Q ⟨B, α, S, q, er⟩ => ?_
  refine WE.use h is tk S er fun x Λ1 vx B1 α1 H1 p1 S1 e1 f1 r1 => ?_
  obtain ⟨n, ds0, rfl, hn, p1⟩ := p1
  obtain ⟨a, vs, rfl, g1, g2, g3, g4⟩ := S1.cellL r1 hn
  refine ⟨.inl ⟨rfl, _, by exact SqL.of g3⟩, ?_⟩
  refine WE.use p1 is tk S1 (er.mono e1) fun y Λ2 vy B2 α2 H2 p2 S2 e2 f2 r2 => ?_
  obtain ⟨ds, zs, hn2, hy, hz, p⟩ := p2
  obtain ⟨a', vs2, ea, k1, k2, k3, k4⟩ := S2.cellL (Rep.mono e2 f2 _ _ r1) hn2
  cases ea
  obtain ⟨b, ws, rfl, m1, m2⟩ := S2.lst r2 hy
  refine ⟨a, b, vs2, ws, rfl, rfl, k3, m1, by rw [k4.length, m2.length]; exact hz, ?_⟩
  exact q _ _ _ B2 α2 _ p (S2.put k1 k2 ⟨vs2 ++ ws, upd_same, k4.append m2⟩) (e1.trans e2) (f1.trans f2) (by unfold Rep; rfl)
end

/-! ### stores -/
section
variable {C : Ctx} {Γ : Env} {Λ : Cells} {R : Rs} {pos pos' : Pos} {o i e : Expr}
/-- no tuple display stands there -/
def noTup : Expr → Bool
  | .Tuple _ _ _ => false
  | _ => true
theorem swapped_none {t e : Expr} {env : PySem.Env} (h : noTup e = true) : swappedStores [t] e env = pure none := by
  cases t <;> cases e <;> first | rfl | cases h
theorem swapped_none' {o i e : Expr} {env : PySem.Env} : swappedStores [.Subscript o i pos'] e env = pure none := by
  cases e <;> rfl
/-- xs[i] = e of an owned list -/
theorem ws_setix (h : WE C R.er Γ Λ e fun d Λ1 => WE C R.er Γ Λ1 o fun x Λ2 => WE C R.er Γ Λ2 i fun y Λ3 => ∃ n ds k j, x = .loc n ∧ y = .int k ∧ Λ3[n]? = some (.lst ds) ∧ ixN ds.length k = some j ∧ R.nx Γ (Λ3.set n (.lst (ds.set j d))))
    (hc : noComp e = true := by rfl) (ha : ∀ (env : PySem.Env) v, assign (.Subscript o i pos') env v = (do
      let ov ← holding [v] (eval o env)
      let iv ← holding [v, ov] (eval i env)
      standAt pos'
      holding [v, ov, iv] (setItem ov iv v)
      release [v, ov, iv] []) := by intro _ _; rfl) : WS C Γ Λ (.Assign [.Subscript o i pos'] e pos) R := fun X F W is hm tk => by
  refine ps_imp (ps_asg pe_U (pg_sub pe_U pe_U set_list (ha X.env)) (by unfold swapsWithSole; exact noSwap hc) swapped_none' rfl) fun Dn σ H ⟨B, α, S, q⟩ => ?_
  refine WE.use h is tk S q.er.at fun d Λ1 vd B1 α1 H1 p1 S1 e1 f1 r1 => ?_
  refine WE.use p1 is tk S1 (q.er.mono e1).at fun x Λ2 vx B2 α2 H2 p2 S2 e2 f2 r2 => ?_
  refine WE.use p2 is tk S2 (q.er.mono (e1.trans e2)).at fun y Λ3 vy B3 α3 H3 p3 S3 e3 f3 r3 => ?_
  obtain ⟨n, ds, k, j, rfl, rfl, hn, hj, p⟩ := p3
  obtain ⟨a, vs, rfl, g1, g2, g3, g4⟩ := S3.cellL (Rep.mono e3 f3 _ _ r2) hn
  unfold Rep at r3
  refine ⟨a, vs, k, j, rfl, r3, g3, by rw [g4.length]; exact hj, ?_⟩
  exact q.nx _ _ B3 α3 σ _ p (S3.put g1 g2 ⟨vs.set j vd, upd_same, g4.set (Rep.mono (e2.trans e3) (f2.trans f3) _ _ r1)⟩) ((e1.trans e2).trans e3)
/-- a, b = e -/
theorem ws_sett {tgs : List Expr} {k : Nat} (vs : List Nat) (h : WE C R.er Γ Λ e fun d Λ' => WG C Γ Λ' (.Tuple tgs k pos') d vs fun Γ' => R.nx Γ' Λ') (hc : noComp e = true := by rfl) (ht : noTup e = true := by rfl) : WS C Γ Λ (.Assign [.Tuple tgs k pos'] e pos) R := fun X F W is hm tk => by
  refine ps_imp (ps_asg pe_U pg_U (by unfold swapsWithSole; exact noSwap hc) (swapped_none ht) rfl) fun Dn σ H ⟨B, α, S, q⟩ => ?_
  refine WE.use h is tk S q.er.at fun d Λ1 vd B1 α1 H1 p1 S1 e1 f1 r1 => ?_
  exact ⟨_, p1 X F is, B1, α1, S1, r1, fun Γ' σ' p' S' ag => q.nx Γ' Λ1 B1 α1 σ' H1 p' S' e1⟩
end
end Pl

namespace Pl
open PySem L2 PyProof.Rows

/-! ### the program's top -/
/-- a def of the module stands where its name says -/
structure DefAt (K : PySem.W.Frag) (mg : Str → Option Value) (x : Str) (st : Stmt) (ps : List Str) (q : Str := x) : Prop where
  ex : ∃ f fd, Fun K q q st f fd ∧ mg x = some (.ref f) ∧ ∀ us : List Value, us.length = ps.length → bindArgs fd ⟨us, []⟩ = pure (ps.zip us)
theorem defAt_mk {K : PySem.W.Frag} {mg : Str → Option Value} {h : Heap} {x : Str} {st : Stmt} {ps : List Str} {f : Addr} {oc : Value} {od an : Option Addr} {osl : Array (Option Value)} {kV doc pm cdv ct : Value} (X : K.In h) (G : h.Ns mainGlobals mg)
    (hb : ∀ (kV doc pm : Value) (an : Option Addr) (cdv ct : Value) (us : List Value), us.length = ps.length → bindArgs (PySem.W.fnOf x x (defArgs st) (defBody st) (defScope st) .none kV doc pm an cdv ct) ⟨us, []⟩ = pure (ps.zip us))
    (a : PySem.W.nsIn K mainGlobals x = some (some (.ref f))) (l : K.lookup f = some ⟨oc, od, .func (PySem.W.fnOf x x (defArgs st) (defBody st) (defScope st) .none kV doc pm an cdv ct), osl⟩) (c : PySem.W.codeIn K cdv x = true) (k : PySem.W.keepIn K (.ref f) = true) :
    DefAt K mg x st ps := ⟨f, _, fun_mk l c k, PySem.W.mg_of X G a, fun us hl => hb kV doc pm an cdv ct us hl⟩
/-- a def of the module, by its body: the rule for a place of the text -/
theorem DefAt.fn {P : Program} {w : World} {K : PySem.W.Frag} {mg : Str → Option Value} {base : Heap} {x q : Str} {st : Stmt} {ps : List Str} (h : DefAt K mg x st ps q) {k : Nat} {S : Spec}
    (H : ∀ (f : Addr) (fd : FuncData), Fun K q q st f fd → FnG P w K mg base (L2.CX P w) k f fd ps (spOf K ps.length S)) : Fn P w K mg base k x ps.length S := by
  obtain ⟨f, fd, h1, h2, h3⟩ := h.ex
  exact fn_mk (H f fd h1) h2 h1.kp (.all h3)

/-- what a law asks: True for every script -/
def lawSpec (n : Nat) : Spec := fun ds Λ Q _ => ∃ ns : List Int, ns.length ≤ n ∧ ds = [.fzl (ns.map .int)] ∧ Λ = [] ∧ Q (.val (.bl true)) []
theorem reps_ints {K : PySem.W.Frag} {B : Hp} {α : List Addr} : ∀ ns : List Int, Reps K B α (ns.map D.int) (ns.map V.int)
  | [] => .nil
  | n :: ns => .cons (by unfold Rep; rfl) (reps_ints ns)
/-- the heap without the tables -/
def noT (H : Hp) : Hp := fun a => match H a with
  | some (.tbl _) => none
  | x => x
theorem noT_ne {H : Hp} {a : Addr} {o : HO} (h : H a = some o) (n : NoTbl o) : noT H a = some o := by
  unfold noT
  rw [h]
  cases o <;> first | rfl | exact absurd rfl (n _)
theorem noT_ex {H : Hp} : Ex (noT H) H := fun a o h => by
  unfold noT at h
  cases e : H a with
  | none => rw [e] at h; cases h
  | some u => rw [e] at h; cases u <;> first | exact h | (cases h; done)
theorem noT_tbl {H : Hp} (a : Addr) (ps : Array Value) : noT H a ≠ some (.tbl ps) := fun h => by
  unfold noT at h
  cases e : H a with
  | none => rw [e] at h; cases h
  | some u => rw [e] at h; cases u <;> cases h
theorem noT_sq {K : PySem.W.Frag} {H : Hp} {a : Addr} {xs : List V} (h : SqL K H a xs) : SqL K (noT H) a xs := by
  rcases h with (h | ⟨o, h⟩) | h
  · exact .inl (.inl (noT_ne h fun _ q => nomatch q))
  · exact .inl (.inr ⟨o, noT_ne h fun _ q => nomatch q⟩)
  · exact .inr h
theorem law_sp {K : PySem.W.Frag} {H : Hp} {a : Addr} {ns : List Int} {n : Nat} (h : ns.length ≤ n) (hS : SqL K H a (ns.map V.int)) (hT : LamX.Tabs Tbl.T H) : spOf K 1 (lawSpec n) [.ref a] H (fun v _ => v = V.bl true) fun _ _ _ => False := by
  refine ⟨⟨H, noT H, []⟩, [.fzl (ns.map .int)], [], rfl, rfl, ?_, ?_, ns, h, rfl, rfl, fun v H' B' α' S r => ?_⟩
  · exact ⟨Ex.refl _, noT_ex, fun a o h => .inl h, fun a o h _ _ => h, fun a h => h, List.prefix_refl _, List.nodup_nil, rfl, fun n c h => by simp at h, fun a h => by simp at h, fun i d h => by simp at h, rfl, hT, fun p hp => by
      obtain ⟨ps, e, _⟩ := hT p hp
      show H p.1 ≠ none
      rw [e]; simp, noT_tbl, fun a h => by simp at h⟩
  · refine .one ?_
    unfold Rep
    exact ⟨a, _, rfl, noT_sq hS, reps_ints ns⟩
  · unfold ResAt Rep at r
    exact r
theorem law_end {l : PySem.W.OpenLaw} {n k : Nat} {q : Program} {loose : List Str} {XP : (Str → Option Value) → Heap → Prop} {YP : World → Heap → Prop} {d : DefRec} {K : Params → PySem.W.Frag} {st : Stmt} {x : Str}
    (hn : l.most = some n) (hn2 : n ≤ sizeLine) (hdf : d.params.defaults = []) (hr : RoomG k callerA) (hT0 : Tbl.T = [])
    (hY : ∀ (w : World) (h : Heap), YP w h → (K w.params).In h)
    (F : ∀ (w : World) (mg : Str → Option Value) (h : Heap), (K w.params).In h → h.Ns mainGlobals mg → DefAt (K w.params) mg d.name st [x] ∧ ∀ base : Heap, (K w.params).In base → base.Ns mainGlobals mg →
      ∀ (f : Addr) (fd : FuncData), Fun (K w.params) d.name d.name st f fd → FnG l.prog w (K w.params) mg base (L2.CX l.prog w) k f fd [x] (spOf (K w.params) 1 (lawSpec n))) :
    PySem.W.WalkO q loose XP YP l.row.toRowW d [] (fun f vs => PySem.call f vs) := by
  refine L2.walk_ofG (n := n) (k := k) (x := x) (CX := fun w => L2.CX l.prog w) (sp := fun w => spOf (K w.params) 1 (lawSpec n)) hn hn2 hdf hr hY (fun w mg fa h KX G hfa => ?_) (fun w H a ns hl _ hS => law_sp hl hS fun p hp => by rw [hT0] at hp; cases hp) fun w H s e s' z => ?_
  · obtain ⟨D, B⟩ := F w mg h KX G
    obtain ⟨f, fd, h1, h2, h3⟩ := D.ex
    rw [hfa] at h2
    cases h2
    exact ⟨fd, fun s u => .of_eq (h3 [u] rfl), fun base KB GB => B base KB GB _ fd h1⟩
  · obtain ⟨_, _, _, _, _, _, _, _, _, _, _, _, z⟩ := z
    exact z.elim

/-! ### deciders of a context's lists -/
def goodC (N : List Str) (sc : Scope) (vs ls : List Bool) (gl : List Str) : Bool :=
  decide N.Nodup && ((List.range N.length).all fun i => match N[i]? with
    | none => true
    | some x => (vs[i]? != some true || (sc.names.lookup x == some .local || sc.names.lookup x == some .cell || sc.names.lookup x == some .free)) && (ls[i]? != some true || (sc.names.lookup x == some .local || sc.names.lookup x == some .cell)))
  && gl.all fun x => sc.names.lookup x == some .globalImplicit
theorem good_by {C : Ctx} (h : goodC C.N C.sc C.vs C.ls C.gl = true) : C.Good := by
  unfold goodC at h
  simp only [Bool.and_eq_true, List.all_eq_true, decide_eq_true_eq] at h
  obtain ⟨⟨h1, h2⟩, h3⟩ := h
  have at_ : ∀ (i : Nat) (x : Str), C.N[i]? = some x → ((C.vs[i]? != some true || (C.sc.names.lookup x == some .local || C.sc.names.lookup x == some .cell || C.sc.names.lookup x == some .free)) && (C.ls[i]? != some true || (C.sc.names.lookup x == some .local || C.sc.names.lookup x == some .cell))) = true := fun i x hi => by
    have := h2 i (List.mem_range.mpr (List.getElem?_eq_some_iff.mp hi).1)
    rw [hi] at this
    simpa using this
  refine ⟨h1, fun i x hi hv => ?_, fun i x hi hv => ?_, fun j x hj => ?_⟩
  · have := at_ i x hi
    rw [hv] at this
    simp only [Bool.and_eq_true, Bool.or_eq_true, bne_self_eq_false, Bool.false_eq_true, false_or, beq_iff_eq] at this
    rcases this.1 with (z | z) | z
    · exact .inl z
    · exact .inr (.inl z)
    · exact .inr (.inr z)
  · have := at_ i x hi
    rw [hv] at this
    simp only [Bool.and_eq_true, Bool.or_eq_true, bne_self_eq_false, Bool.false_eq_true, false_or, beq_iff_eq] at this
    rcases this.2 with z | z
    · exact .inl z
    · exact .inr z
  · have := h3 x (List.mem_of_getElem? hj)
    exact beq_iff_eq.mp this
def stoC (N : List Str) (scope : Scope) (ls : List Bool) : Bool :=
  (List.range N.length).all fun i => match N[i]? with
    | none => true
    | some x => ls[i]? != some true || (scope.names.lookup x == some .local || scope.names.lookup x == some .cell)
theorem sto_by {N : List Str} {scope : Scope} {ls : List Bool} (h : stoC N scope ls = true) (i : Nat) (x : Str) (hi : N[i]? = some x) (hl : ls[i]? = some true) : scope.names.lookup x = some .local ∨ scope.names.lookup x = some .cell := by
  unfold stoC at h
  rw [List.all_eq_true] at h
  have := h i (List.mem_range.mpr (List.getElem?_eq_some_iff.mp hi).1)
  rw [hi] at this
  simp only [hl] at this
  simp only [Bool.or_eq_true, bne_self_eq_false, Bool.false_eq_true, false_or, beq_iff_eq] at this
  exact this
/-- what stands fast while a law is walked -/
structure Gl where
  P : Program
  w : World
  K : PySem.W.Frag
  mg : Str → Option Value
  base : Heap
@[reducible] def Gl.cx (G : Gl) (N : List Str) (sc : Scope) (vs ls : List Bool) (gl : List Str) (k : Nat) (m : Nat := 0) (cd : Option (Str × Addr) := none) : Ctx := ⟨G.P, G.w, G.K, G.mg, G.base, N, sc, vs, ls, gl, k, m, true, cd, false⟩
instance {G : Gl} {N : List Str} {sc : Scope} {vs ls : List Bool} {gl : List Str} {k m : Nat} {cd : Option (Str × Addr)} : Cool (G.cx N sc vs ls gl k m cd) := ⟨rfl⟩
abbrev Gl.fn (G : Gl) (k : Nat) (x : Str) (n : Nat) (S : Spec) : Prop := Fn G.P G.w G.K G.mg G.base k x n S
end Pl

/-! Pl8t: the end of a law whose defs make lambdas. -/
namespace L2
open PySem PySem.Spec PyProof.Rows LamX
end L2
namespace Pl
open PySem L2 PyProof.Rows
end Pl

namespace Pl
open PySem L2 PyProof.Rows

/-! ### steps over data, for the driver -/
section
variable {Λ : Cells} {P : D → Prop} {Pb : Bool → Prop} {i j : Int} {s t : Str} {c d : Bool}
theorem ixP_seq {x : D} {ds : List D} {e : D} (hs : seqD Λ x = some ds) (he : atI ds i = some e) (h : P e) : ixP Λ x (.int i) P := by
  unfold ixP
  split
  · rename_i i' heq
    cases heq
    split
    · simp only [seqD, vw] at hs; cases hs
    · exact ⟨ds, hs, e, he, h⟩
  · rename_i hne; exact absurd rfl (hne i)
theorem ixP_str {k : Nat} (hl : s.length ≤ sizeLine) (he : atI s.cps.toList i = some k) (h : P (.str ⟨#[k]⟩)) : ixP Λ (.str s) (.int i) P := ⟨hl, k, he, h⟩
theorem lenP_seq {x : D} {ds : List D} {Pi : Int → Prop} (hs : seqD Λ x = some ds) (h : Pi ds.length) : lenP Λ x Pi := by
  unfold lenP
  split
  · simp only [seqD, vw] at hs; cases hs
  · exact ⟨ds, hs, h⟩
theorem lenP_str {Pi : Int → Prop} (hl : s.length ≤ sizeLine) (h : Pi s.length) : lenP Λ (.str s) Pi := ⟨hl, h⟩
theorem inP_seq {x y : D} {ds : List D} (hs : seqD Λ y = some ds) (hp : PyData.plainAll (pys ds) = true) (hx : (py (vw Λ x)).plain = true) (hd : min (PyData.depthAll (pys ds)) (py (vw Λ x)).depth ≤ 190) (h : Pb ((pys ds).any fun e => PyData.eqv e (py (vw Λ x)))) : inP Λ x y Pb := by
  unfold seqD at hs
  unfold inP
  split at hs
  · rename_i e; cases hs; rw [e]; exact ⟨hp, hx, hd, h⟩
  · rename_i e; cases hs; rw [e]; exact ⟨hp, hx, hd, h⟩
  · rename_i e; cases hs; rw [e]; exact ⟨hp, hx, hd, h⟩
  · cases hs
end

/-! ### comprehensions and loops over mapped items -/
section
variable {C : Ctx} {Γ : Env} {Λ : Cells} {tg elt : Expr} {ws : List Nat} {P : List D → Prop} {β : Type}
theorem wg_mono {d : D} {P P' : Env → Prop} (h : WG C Γ Λ tg d ws P) (i : ∀ Γ', P Γ' → P' Γ') : WG C Γ Λ tg d ws P' := fun X F is =>
  pg_imp (h X F is) fun v σ H Q ⟨B, α, S, r, q⟩ => ⟨B, α, S, r, fun Γ' σ' p' S' ag => q Γ' σ' (i Γ' p') S' ag⟩
end
/-- no call can be asked for -/
theorem DefAt.none {G : Gl} {x : Str} {st : Stmt} {ps : List Str} {qn : Str} (h : DefAt G.K G.mg x st ps qn) {k : Nat} {S : Spec} (hS : ∀ ds Λ Q E, ¬ S ds Λ Q E) : G.fn k x ps.length S :=
  h.fn fun f fd F => ⟨fun vs H Q E ⟨_, _, _, _, _, _, _, z⟩ => absurd z (hS _ _ _ _), fun A outer s H args us vs Q E _ _ _ _ ⟨_, _, _, _, _, _, _, z⟩ => absurd z (hS _ _ _ _)⟩
end Pl

/-! max(xs, default=d) -/
namespace Mxd
open PySem PyProof.Rows
section
variable {prog : Program} {w : World} {A : Around} {R : Result → Shared → Prop} {it : Addr} {fp wr : List Addr} {n : Nat} {P : Nat → Value → Prop} {St : Nat → Heap → Prop} {dk : List (Str × Value)}
theorem hnm : (toString "max" ++ toString ".loop" : String) = "max.loop" := by decide
theorem turns (W : Walks prog w A.in1 it fp wr n P St) (bt : Nat → Nat → Bool) (cmp : CmpOf prog w A.in1 .Gt P bt) (b : Addr) (nb : b ∉ fp) : ∀ (k j : Nat) (s : Shared) (u : Value) (c : Nat), n - (j + 1) = k → j + 1 ≤ n → St (j + 1) s.heap → P (argBest bt j) u →
    s.heap.get? b = some { cls := .type "list", dict := none, data := .seq #[u, u] c, slots := #[] } →
    (∀ v h' tk, P (argBest bt (n - 1)) v → (∀ a o, a ∉ wr → a ≠ b → s.heap.get? a = some o → h'.get? a = some o) → R (.ok (.ret v)) { s with heap := h', toks := tk }) → codeAny (model prog w) A (.builtin "max.loop" ⟨[.ref it, .none, .ref b], dk⟩) R s := by
  have nbw : b ∉ wr := fun h => nb (W.sub _ h)
  intro k
  induction k with
  | zero =>
    intro j s u c e hj st pu hb q
    have ej : j + 1 = n := by omega
    refine codeAny_builtin F.entry_max_loop ?_
    rw [Around.under_plainId F.plain_max_loop _]
    show wpAny _ A.in1 (seqItems? (.ref b) >>= fun _ => _) _ _ s
    refine wpAny_bind (wpAny_seqItems hb rfl ?_)
    show wpAny _ A.in1 (tryCatch (pyNext (.ref it)) _ >>= fun _ => _) _ _ s
    refine wpAny_bind (wpAny_tryCatch (W.done s _ _ (ej ▸ st) fun h1 tk k1 => ?_))
    have hb1 := k1 b _ nbw hb
    show wpAny _ A.in1 (updateSeq b (fun _ => #[]) >>= fun _ => _) _ _ _
    refine wpAny_bind ?_
    refine wpAny_updateSeq hb1 rfl (wpAny_bind (wpAny_letGo (wpAny_pure ?_)))
    exact q u _ tk (by rw [← ej]; exact pu) fun a o ha hab e => (Heap.get?_update_other _ _ (Ne.symm hab)).trans (k1 a o ha e)
  | succ k ih =>
    intro j s u c e hj st pu hb q
    have lt : j + 1 < n := by omega
    refine codeAny_builtin F.entry_max_loop ?_
    rw [Around.under_plainId F.plain_max_loop _]
    show wpAny _ A.in1 (seqItems? (.ref b) >>= fun _ => _) _ _ s
    refine wpAny_bind (wpAny_seqItems hb rfl ?_)
    show wpAny _ A.in1 (tryCatch (pyNext (.ref it)) _ >>= fun _ => _) _ _ s
    refine wpAny_bind (wpAny_tryCatch (W.item (j + 1) s _ _ lt st fun v h1 tk pv st1 k1 => ?_))
    have hb1 := k1 b _ nbw hb
    show wpAny _ A.in1 (tryCatch (holding [v, v] (richCompare .Gt v u >>= fun _ => _)) _ >>= fun _ => _) _ _ _
    refine wpAny_bind (wpAny_tryCatch (wpAny_holding (wpAny_bind (cmp (j + 1) (argBest bt j) v u _ _ _ pv pu ?_))))
    refine wpAny_bind (wpAny_holding (wpAny_truthy_bool ?_))
    refine wpAny_bind (wpAny_letGo (wpAny_pure ?_))
    cases hc : bt (j + 1) (argBest bt j) with
    | true =>
      simp only [if_true]
      refine wpAny_bind ?_
      refine wpAny_updateSeq hb1 rfl (wpAny_bind (wpAny_letGo ?_))
      rw [hnm]
      refine wpAny_pure ⟨plainId_quiet F.plain_max_loop _, ih (j + 1) _ v _ (by omega) lt (W.frame _ _ _ st1 fun a ha o e => ?_) (by simp only [argBest, hc, if_true]; exact pv) (Heap.get?_update_self _ hb1 rfl) fun z h2 tk2 pz k2 => ?_⟩
      · exact (Heap.get?_update_other _ _ (fun h : b = a => nb (by rw [h]; exact ha))).trans e
      · exact q z h2 tk2 pz fun a o ha hab e => k2 a o ha hab ((Heap.get?_update_other _ _ (Ne.symm hab)).trans (k1 a o ha e))
    | false =>
      simp only [Bool.false_eq_true, if_false]
      refine wpAny_bind (wpAny_letGo ?_)
      rw [hnm]
      refine wpAny_pure ⟨plainId_quiet F.plain_max_loop _, ih (j + 1) _ u c (by omega) lt st1 (by simp only [argBest, hc, Bool.false_eq_true, if_false]; exact pu) hb1 fun z h2 tk2 pz k2 => ?_⟩
      exact q z h2 tk2 pz fun a o ha hab e => k2 a o ha hab (k1 a o ha e)
theorem first (W : Walks prog w A.in1 it fp wr n P St) (bt : Nat → Nat → Bool) (cmp : CmpOf prog w A.in1 .Gt P bt) (b : Addr) (nb : b ∉ fp) (h0 : 0 < n) {s : Shared} {c : Nat} (st : St 0 s.heap)
    (hb : s.heap.get? b = some { cls := .type "list", dict := none, data := .seq #[] c, slots := #[] })
    (q : ∀ v h' tk, P (argBest bt (n - 1)) v → (∀ a o, a ∉ wr → a ≠ b → s.heap.get? a = some o → h'.get? a = some o) → R (.ok (.ret v)) { s with heap := h', toks := tk }) : codeAny (model prog w) A (.builtin "max.loop" ⟨[.ref it, .none, .ref b], dk⟩) R s := by
  have nbw : b ∉ wr := fun h => nb (W.sub _ h)
  refine codeAny_builtin F.entry_max_loop ?_
  rw [Around.under_plainId F.plain_max_loop _]
  show wpAny _ A.in1 (seqItems? (.ref b) >>= fun _ => _) _ _ s
  refine wpAny_bind (wpAny_seqItems hb rfl ?_)
  show wpAny _ A.in1 (tryCatch (pyNext (.ref it)) _ >>= fun _ => _) _ _ s
  refine wpAny_bind (wpAny_tryCatch (W.item 0 s _ _ h0 st fun v h1 tk pv st1 k1 => ?_))
  have hb1 := k1 b _ nbw hb
  show wpAny _ A.in1 (updateSeq b (fun _ => #[v, v]) >>= fun _ => _) _ _ _
  refine wpAny_bind ?_
  refine wpAny_updateSeq hb1 rfl ?_
  rw [hnm]
  refine wpAny_pure ⟨plainId_quiet F.plain_max_loop _, turns W bt cmp b nb _ 0 _ v _ rfl h0 (W.frame _ _ _ st1 fun a ha o e => ?_) pv (Heap.get?_update_self _ hb1 rfl) fun z h2 tk2 pz k2 => ?_⟩
  · exact (Heap.get?_update_other _ _ (fun h : b = a => nb (by rw [h]; exact ha))).trans e
  · exact q z h2 tk2 pz fun a o ha hab e => k2 a o ha hab ((Heap.get?_update_other _ _ (Ne.symm hab)).trans (k1 a o ha e))
end
section
variable {prog : Program} {w : World} {A : Around} {E : Value → Shared → Prop} {s : Shared}
theorem bk (d : Value) : Builtin.Builtins.bindParams "max" ["key", "default"] 0 ⟨[], [(Str.ofString "default", d)]⟩ = pure [none, some d] := by first | rfl | kernel_rfl
end
end Mxd
namespace Mxd
open PySem PyProof.Rows
section
variable {prog : Program} {w : World} {A : Around} {E : Value → Shared → Prop} {s : Shared}
end
end Mxd

namespace Pl
open PySem L2 PyProof.Rows
section
variable {C : Ctx} {E : ER} {Γ : Env} {Λ : Cells} {P : D → Cells → Prop} {pos p : Pos} {e : Expr}
end
end Pl
namespace Pl
open PySem L2 PyProof.Rows
section
variable {C : Ctx} {E : ER} {Γ : Env} {Λ : Cells} {P : D → Cells → Prop} {pos p p2 : Pos} {e : Expr}
/-- isinstance(e, T) -/
theorem we_isiN {x : Str} {T : String} (hj : GlAt C "isinstance") (hm : C.mg "isinstance" = none) (hj2 : GlAt C x) (hm2 : C.mg x = none) (hv : bootBuiltins x = some (.type T)) (h : WE C E Γ Λ e fun x Λ1 => ∃ t b, tyD Λ1 x = some t ∧ isiB t T = some b ∧ P (.bl b) Λ1) (he : plainE e = true := by rfl)
    (hn : x ≠ "__name__" := by decide) (hd : (x == ("__debug__" : Str)) = false := by decide) : WE C E Γ Λ (.Call (.Name "isinstance" p) [e, .Name x p2] [] pos) P :=
  we_isi hj hm (we_mono h fun y Λ1 ⟨t, b, h1, h2, h3⟩ => we_blt hj2 hm2 hv (v := .ty T) (by exact rfl) ⟨t, T, b, rfl, h1, h2, h3⟩ hn hd) he
end
/-! ### for the driver -/
section
variable {C : Ctx} {E : ER} {Γ : Env} {Λ : Cells}
end
end Pl
namespace Pl
open PySem L2 PyProof.Rows
theorem sz_lt {n : Nat} (h : n < 10000000) : n ≤ sizeLine := by rw [sizeLine_eq]; omega
end Pl
namespace Pl
open PySem L2 PyProof.Rows
end Pl

/-! Pl11: calls that are handed cells and that hand back new ones -/
namespace Pl
open PySem L2 PyProof.Rows

/-! ### cells under other numbers -/
mutual
def ren (f : Nat → Nat) : D → D
  | .loc n => .loc (f n)
  | .tup ds => .tup (rens f ds)
  | .lst ds => .lst (rens f ds)
  | .fzl ds => .fzl (rens f ds)
  | .ins C ns ds => .ins C ns (rens f ds)
  | .dic ks ds => .dic ks (rens f ds)
  | .exc C ns ds => .exc C ns (rens f ds)
  | .non => .non
  | .bl b => .bl b
  | .int i => .int i
  | .str s => .str s
  | .raw v => .raw v
def rens (f : Nat → Nat) : List D → List D
  | [] => []
  | d :: ds => ren f d :: rens f ds
end
theorem rens_length {f : Nat → Nat} : ∀ ds : List D, (rens f ds).length = ds.length
  | [] => rfl
  | d :: ds => by show (rens f ds).length + 1 = _; rw [rens_length ds]; rfl
theorem allBl_rens {f : Nat → Nat} : ∀ ds : List D, allBl (rens f ds) = allBl ds
  | [] => rfl
  | d :: ds => by
    show allBl (ren f d :: rens f ds) = _
    cases d <;> first | rfl | exact allBl_rens ds
mutual
def ltD (m : Nat) : D → Bool
  | .loc n => decide (n < m)
  | .tup ds => ltDs m ds
  | .lst ds => ltDs m ds
  | .fzl ds => ltDs m ds
  | .ins _ _ ds => ltDs m ds
  | .dic _ ds => ltDs m ds
  | .exc _ _ ds => ltDs m ds
  | _ => true
def ltDs (m : Nat) : List D → Bool
  | [] => true
  | d :: ds => ltD m d && ltDs m ds
end
mutual
theorem ltD_nl {m : Nat} : ∀ d : D, nl d = true → ltD m d = true
  | .loc n, h => by cases h
  | .tup ds, h => ltDs_nl ds h
  | .lst ds, h => ltDs_nl ds h
  | .fzl ds, h => ltDs_nl ds h
  | .ins C ns ds, h => ltDs_nl ds h
  | .dic ks ds, h => ltDs_nl ds h
  | .exc C ns ds, h => ltDs_nl ds h
  | .non, _ => rfl
  | .bl _, _ => rfl
  | .int _, _ => rfl
  | .str _, _ => rfl
  | .raw _, _ => rfl
theorem ltDs_nl {m : Nat} : ∀ ds : List D, nls ds = true → ltDs m ds = true
  | [], _ => rfl
  | d :: ds, h => by
    have h' : (nl d && nls ds) = true := h
    rw [Bool.and_eq_true] at h'
    show (ltD m d && ltDs m ds) = true
    rw [ltD_nl d h'.1, ltDs_nl ds h'.2]; rfl
end
section
variable {K : PySem.W.Frag} {B : Hp} {α α' : List Addr} {f : Nat → Nat}
mutual
theorem Rep.ren {m : Nat} (hf : ∀ (n : Nat) (a : Addr), n < m → α[n]? = some a → α'[f n]? = some a) : ∀ (d : D) (v : V), ltD m d = true → Rep K B α d v → Rep K B α' (Pl.ren f d) v
  | .non, _, _, h => h
  | .bl _, _, _, h => h
  | .int _, _, _, h => h
  | .str _, _, _, h => h
  | .raw _, _, _, h => h
  | .loc n, v, l, h => by
    unfold Rep at h
    obtain ⟨a, rfl, h1⟩ := h
    show Rep K B α' (.loc (f n)) _
    unfold Rep
    exact ⟨a, rfl, hf n a (of_decide_eq_true l) h1⟩
  | .tup ds, v, l, h => by
    unfold Rep at h
    obtain ⟨a, vs, rfl, h1, h2⟩ := h
    show Rep K B α' (.tup (rens f ds)) _
    unfold Rep
    exact ⟨a, vs, rfl, h1.to (fun q => by rw [allBl_rens] at q; exact q), Reps.ren hf ds vs l h2⟩
  | .lst ds, v, l, h => by
    unfold Rep at h
    obtain ⟨a, vs, rfl, h1, h2⟩ := h
    show Rep K B α' (.lst (rens f ds)) _
    unfold Rep
    exact ⟨a, vs, rfl, h1, Reps.ren hf ds vs l h2⟩
  | .fzl ds, v, l, h => by
    unfold Rep at h
    obtain ⟨a, vs, rfl, h1, h2⟩ := h
    show Rep K B α' (.fzl (rens f ds)) _
    unfold Rep
    exact ⟨a, vs, rfl, h1, Reps.ren hf ds vs l h2⟩
  | .ins C ns ds, v, l, h => by
    unfold Rep at h
    obtain ⟨a, dx, vs, rfl, h1, h2, h3⟩ := h
    show Rep K B α' (.ins C ns (rens f ds)) _
    unfold Rep
    exact ⟨a, dx, vs, rfl, h1, Reps.ren hf ds vs l h2, by rw [rens_length]; exact h3⟩
  | .dic ks ds, v, l, h => by
    unfold Rep at h
    obtain ⟨a, vs, rfl, h1, h2, h3⟩ := h
    show Rep K B α' (.dic ks (rens f ds)) _
    unfold Rep
    exact ⟨a, vs, rfl, h1, Reps.ren hf ds vs l h2, by rw [rens_length]; exact h3⟩
  | .exc C ns ds, v, l, h => by
    unfold Rep at h
    obtain ⟨a, d, vs, rfl, h1, h2, h3, h4⟩ := h
    show Rep K B α' (.exc C ns (rens f ds)) _
    unfold Rep
    exact ⟨a, d, vs, rfl, h1, Reps.ren hf ds vs l h2, by rw [rens_length]; exact h3, h4⟩
theorem Reps.ren {m : Nat} (hf : ∀ (n : Nat) (a : Addr), n < m → α[n]? = some a → α'[f n]? = some a) : ∀ (ds : List D) (vs : List V), ltDs m ds = true → Reps K B α ds vs → Reps K B α' (rens f ds) vs
  | [], _, _, h => h
  | d :: ds, vs, l, h => by
    have l' : (ltD m d && ltDs m ds) = true := l
    rw [Bool.and_eq_true] at l'
    unfold Reps at h
    obtain ⟨v, r, rfl, h1, h2⟩ := h
    exact .cons (Rep.ren hf d v l'.1 h1) (Reps.ren hf ds r l'.2 h2)
end
theorem id_ren : ∀ d : D, Pl.ren (fun n => n) d = d := by
  intro d
  refine D.rec (motive_1 := fun d => Pl.ren (fun n => n) d = d) (motive_2 := fun ds => rens (fun n => n) ds = ds) rfl (fun _ => rfl) (fun _ => rfl) (fun _ => rfl) (fun ds h => ?_) (fun ds h => ?_) (fun ds h => ?_) (fun _ => rfl) (fun _ => rfl) (fun _ _ ds h => ?_) (fun _ ds h => ?_) (fun _ _ ds h => ?_) rfl (fun d ds h1 h2 => ?_) d
  · show D.tup _ = _; rw [h]
  · show D.lst _ = _; rw [h]
  · show D.fzl _ = _; rw [h]
  · show D.ins _ _ _ = _; rw [h]
  · show D.dic _ _ = _; rw [h]
  · show D.exc _ _ _ = _; rw [h]
  · show _ :: _ = _; rw [h1, h2]
end

/-! ### what is handed -/
def cellsAt (Λ : Cells) (ls : List Nat) : Cells := ls.map fun n => (Λ[n]?).getD .gone
def setAll (Λ : Cells) : List Nat → Cells → Cells
  | n :: ls, c :: cs => setAll (Λ.set n c) ls cs
  | _, _ => Λ
/-- the caller's cells behind the call -/
def putB (Λ : Cells) (ls : List Nat) (Λ' : Cells) : Cells := setAll Λ ls (Λ'.take ls.length) ++ Λ'.drop ls.length
theorem setAll_length : ∀ {Λ : Cells} {ls : List Nat} {cs : Cells}, (setAll Λ ls cs).length = Λ.length
  | _, [], _ => by unfold setAll; rfl
  | _, _ :: _, [] => by unfold setAll; rfl
  | Λ, n :: ls, c :: cs => by unfold setAll; rw [setAll_length, List.length_set]
structure Hand (Λ : Cells) (ls : List Nat) : Prop where
  nd : ls.Nodup
  lt : ∀ n ∈ ls, n < Λ.length
  pl : (cellsAt Λ ls).all nlC = true

section
variable {K : PySem.W.Frag} {F : Fm} {B B' : Hp} {α α' : List Addr} {Γ : Env} {Λ Λ' : Cells} {σ : L2.St} {H H' : Hp} {ls : List Nat}
theorem CellAt.nl {a : Addr} {c : Cell} (hp : nlC c = true) (h : CellAt K B α H a c) : CellAt K B α' H a c := by
  cases c with
  | lst ds => obtain ⟨vs, h1, h2⟩ := h; exact ⟨vs, h1, Reps.nl ds vs hp h2⟩
  | dic ks ds => obtain ⟨vs, h1, h2, h3⟩ := h; exact ⟨vs, h1, Reps.nl ds vs hp h2, h3⟩
  | ins C ns ds => obtain ⟨dx, vs, h1, h2, h3⟩ := h; exact ⟨dx, vs, h1, Reps.nl ds vs hp h2, h3⟩
  | gone => trivial
end
section
variable {C : Ctx} {E : ER} {Γ : Env} {Λ : Cells} {pos p : Pos}
end

/-! ### a def that hands back new cells -/
/-- what a def's body is to reach: m cells are left, the rest is thrown away -/
def rtY (Λ0 : Cells) (Q : Res → Cells → Prop) (r : Res) (Λ' : Cells) : Prop := ∃ m, Λ0.length ≤ m ∧ (Λ'.take m).all nlC = true ∧ ((match r with | .val d => ltD m d = true | .new ds => nls ds = true) ∧ Q r (Λ'.take m) ∨ (∃ n ds, m ≤ n ∧ r = .val (.loc n) ∧ Λ'[n]? = some (.lst ds) ∧ nls ds = true ∧ Q (.new ds) (Λ'.take m)) ∨ ∃ n ks ds, m ≤ n ∧ r = .val (.loc n) ∧ Λ'[n]? = some (.dic ks ds) ∧ nls ds = true ∧ Q (.val (.dic ks ds)) (Λ'.take m))
end Pl
namespace Pl
open PySem L2 PyProof.Rows
theorem reps_take {K : PySem.W.Frag} {B : Hp} {α : List Addr} {m : Nat} {d : D} {v : V} (h : ltD m d = true) (r : Rep K B α d v) : Rep K B (α.take m) d v := by
  have := Rep.ren (α' := α.take m) (f := fun n => n) (m := m) (fun n a hn e => by rw [List.getElem?_take, if_pos hn]; exact e) d v h r
  rw [id_ren] at this; exact this
/-- THE RULE, with cells: a def of the module keeps its promise, by its body -/
theorem fn_okC {P : Program} {w : World} {K : PySem.W.Frag} {mg : Str → Option Value} {base : Heap} {x qual : Str} {st : Stmt} {f : Addr} {fd : FuncData} {N ps : List Str} {k : Nat} {S : Spec} (F : Fun K x qual st f fd) (sc : FnScope N ps (defScope st)) (C : Ctx)
    (hC : C.P = P ∧ C.w = w ∧ C.K = K ∧ C.mg = mg ∧ C.base = base ∧ C.N = N ∧ C.sc = defScope st ∧ C.k = k) (good : C.Good) (hm : ∀ ds Λ Q E, S ds Λ Q E → Λ.length ≤ C.m)
    (hb : ∀ ds Λ Q E, ds.length = ps.length → S ds Λ Q E → WSs C (Γ0 N ds) Λ (defBody st) ⟨fun _ Λ' => rtY Λ Q (.val .non) Λ', rtY Λ Q, fun _ _ => False, fun _ _ => False, erX Λ E⟩) (hcd : ∀ q c, C.cd = some (q, c) → qual ++ ".<locals>." = q ∧ fd.code = .ref c := by intro _ _ h; cases h) : FnG P w K mg base (L2.CX P w) (k + 1) f fd ps (spOf K ps.length S) := by
  obtain ⟨rfl, rfl, rfl, rfl, rfl, rfl, hsc, rfl⟩ := hC
  refine F.okXG sc (fun vs H Q E h => by obtain ⟨_, _, _, h, _⟩ := h; exact h) fun cdv A outer s H vs Q E ecd hr h => ?_
  obtain ⟨Fm', ds, Λ, hl, hH, T, r, sp⟩ := h
  have hds : ds.length = ps.length := by rw [← r.length]; exact hl
  have hN : ps.length ≤ C.N.length := by have := congrArg List.length sc.pre; rw [List.length_take] at this; omega
  let X := cxOf (L2.CX C.P C.w) C.P C.w C.K C.mg C.base C.N qual (defScope st) f cdv A outer s H E
  have is : C.Is X := ⟨rfl, rfl, rfl, rfl, rfl, rfl, hsc.symm, fun _ => rfl, fun _ => hr.hd, hr.w, fun _ _ _ _ => .inl rfl, good, passes_of rfl, fun _ => ⟨rfl, rfl, rfl⟩, fun q c e => ⟨(hcd q c e).1, ecd.symm.trans (hcd q c e).2⟩⟩
  have tk : Takes X (fun c d _ H => E c d H) := takes_of rfl rfl rfl rfl
  have T' : Sat C.K Fm' Fm'.B0 Fm'.α0 (Γ0 C.N ds) Λ (L2.start C.N vs) H := by
    refine T.env ?_ fun i d hi => ?_
    · unfold Γ0 L2.start
      simp only [List.length_append, List.length_map, List.length_replicate]
      omega
    · unfold Γ0 at hi
      by_cases hlt : i < ds.length
      · rw [List.getElem?_append_left (by simpa using hlt), List.getElem?_map] at hi
        cases q : ds[i]? with
        | none => rw [q] at hi; cases hi
        | some e =>
          rw [q] at hi
          cases hi
          obtain ⟨v, h1, h2⟩ := r.get q
          refine ⟨v, ?_, h2⟩
          unfold L2.start
          rw [List.getElem?_append_left (by have := (List.getElem?_eq_some_iff.mp h1).1; simpa using this), List.getElem?_map, h1]
          rfl
      · rw [List.getElem?_append_right (by simpa using hlt), List.getElem?_replicate] at hi
        split at hi <;> cases hi
  have hlen : Fm'.α0.length = Λ.length := T.al
  have cut : ∀ {m : Nat} {Γ' : Env} {Λ' : Cells} {B' : Hp} {α' : List Addr} {σ' : L2.St} {H' : Hp}, Λ.length ≤ m → Sat C.K Fm' B' α' Γ' Λ' σ' H' → (Λ'.take m).all nlC = true → Sat C.K Fm' B' (α'.take m) [] (Λ'.take m) [] H' := fun hm S' h =>
    S'.cut (by omega) (all_nlC h) rfl fun i d h => by simp at h
  refine ⟨_, hb ds Λ _ _ hds sp X Fm' _ is (by rw [T.al]; exact hm _ _ _ _ sp) tk, Fm'.B0, Fm'.α0, T', ⟨fun Γ' Λ' B' α' σ' H' h S' e => ?_, fun r Λ' v Γ' B' α' σ' H' h S' e ra => ?_, fun Γ' Λ' B' α' σ' H' h => h.elim, fun Γ' Λ' B' α' σ' H' h => h.elim, fun err Γ' Λ' B' α' σ' H' c dx h S' e ea => ?_⟩⟩
  · obtain ⟨m, hm1, h2, ⟨h1, h3⟩ | ⟨n, ds, _, e, _⟩ | ⟨n, ks, ds, _, e, _⟩⟩ := h
    · exact h3 .non H' B' _ (cut hm1 S' h2) (by unfold ResAt Rep; rfl)
    · cases e
    · cases e
  · have far : ∀ {m n : Nat} {a : Addr}, m ≤ n → α'[n]? = some a → a ∉ α'.take m := fun {m n a} hk ha hm => by
      have hna : n < α'.length := (List.getElem?_eq_some_iff.mp ha).1
      obtain ⟨j, hj, ej⟩ := List.getElem_of_mem hm
      rw [List.getElem_take] at ej
      rw [List.length_take] at hj
      have e1 : α'[j]? = some a := by rw [List.getElem?_eq_getElem (by omega), ej]
      have := (List.getElem?_inj (by omega) S'.nd).mp (e1.trans ha.symm)
      omega
    have fresh : ∀ {m n : Nat} {a : Addr}, Λ.length ≤ m → m ≤ n → α'[n]? = some a → (Fm'.H0 a = none ∨ a ∈ Fm'.α0) → Fm'.H0 a = none := fun {m n a} hm1 hn ha q3 => by
      rcases q3 with z | z
      · exact z
      · exfalso
        obtain ⟨t, ht⟩ := S'.pf
        apply far (m := Fm'.α0.length) (by omega) ha
        rw [← ht, List.take_append_of_le_length (Nat.le_refl _), List.take_length]
        exact z
    obtain ⟨m, hm1, h2, ⟨h1, h3⟩ | ⟨n, ds, hn, e, hc, hds, h3⟩ | ⟨n, ks, ds, hn, e, hc, hds, h3⟩⟩ := h
    · refine h3 v H' B' _ (cut hm1 S' h2) ?_
      cases r with
      | val d => exact reps_take h1 ra
      | new ds =>
        obtain ⟨p, vs, q1, q2, q3, q4, q5, q6⟩ := ra
        exact ⟨p, vs, q1, q2, q3, q4, fun hm => q5 (List.mem_of_mem_take hm), Reps.nl ds vs h1 q6⟩
    · subst e
      refine h3 v H' B' _ (cut hm1 S' h2) ?_
      unfold ResAt Rep at ra
      obtain ⟨a, rfl, ha⟩ := ra
      obtain ⟨a', q1, q2, q3, vs, q4, q5⟩ := S'.ce n _ hc (by simp)
      rw [ha] at q1; cases q1
      exact ⟨a, vs, rfl, q4, q2, fresh hm1 hn ha q3, far hn ha, Reps.nl ds vs hds q5⟩
    · subst e
      unfold ResAt Rep at ra
      obtain ⟨a, rfl, ha⟩ := ra
      obtain ⟨a', q1, q2, q3, vs, q4, q5, q6⟩ := S'.ce n _ hc (by simp)
      rw [ha] at q1; cases q1
      have S2 := (cut hm1 S' h2).see q4 q2 (fresh hm1 hn ha q3) (far hn ha)
      refine h3 (.ref a) H' _ _ S2 ?_
      have hx : Ex B' (upd B' a (.dK (ks.zip vs))) := Ex.new q2
      show Rep _ _ _ (.dic ks ds) _
      unfold Rep
      exact ⟨a, vs, rfl, .inl upd_same, (Reps.nl ds vs hds q5).mono hx (List.prefix_refl _), q6⟩
  · obtain ⟨h1, h2, h3⟩ := h
    refine h3 B' _ H' c dx (cut (Nat.le_refl _) S' h2) ?_
    obtain ⟨e1, e2⟩ := ea
    refine ⟨e1, ?_⟩
    unfold nlE at h1
    cases hf : err.fs with
    | none => rw [hf] at e2; exact e2
    | some z =>
      obtain ⟨ns, ds⟩ := z
      rw [hf] at e2 h1
      obtain ⟨a, vs, q1, q2, q3, q4, q5⟩ := e2
      exact ⟨a, vs, q1, q2, Reps.nl ds vs h1 q3, q4, fun z => ⟨(q5 z).1, fun hm => (q5 z).2 (List.mem_of_mem_take hm)⟩⟩
theorem def_okC {G : Gl} {x : Str} {st : Stmt} {ps : List Str} {qn : Str} (h : DefAt G.K G.mg x st ps qn) {N : List Str} {vs ls : List Bool} {gl : List Str} {k m : Nat} {S : Spec} (sc : FnScope N ps (defScope st)) (good : goodC N (defScope st) vs ls gl = true)
    (hm : ∀ ds Λ Q E, S ds Λ Q E → Λ.length ≤ m)
    (hb : ∀ ds Λ Q E, ds.length = ps.length → S ds Λ Q E → WSs (G.cx N (defScope st) vs ls gl k m) (Γ0 N ds) Λ (defBody st) ⟨fun _ Λ' => rtY Λ Q (.val .non) Λ', rtY Λ Q, fun _ _ => False, fun _ _ => False, erX Λ E⟩) : G.fn (k + 1) x ps.length S :=
  h.fn fun f fd F => fn_okC F sc (G.cx N (defScope st) vs ls gl k m) ⟨rfl, rfl, rfl, rfl, rfl, rfl, rfl, rfl⟩ (good_by good) hm hb
end Pl

/-! Pl12: the promises of defs in one form, and more steps of data -/
namespace Pl
open PySem L2 PyProof.Rows
section
variable {C : Ctx} {E : ER} {Γ : Env} {Λ : Cells} {pos p : Pos} {β : Type} {A : β → List D} {ok : β → Prop} {R : β → Res → Prop}
end
/-! ### lists of data -/
end Pl
namespace Pl
open PySem L2 PyProof.Rows
/-! ### what stands there: for the driver -/
section
variable {C : Ctx} {E : ER} {Γ : Env} {Λ : Cells}
end
end Pl
namespace Pl
open PySem L2 PyProof.Rows
/-! ### slices of any kind -/
def slP (Λ : Cells) (x : D) (l u : Option Int) (P : D → Prop) : Prop := match x with
  | .str s => s.length ≤ sizeLine ∧ P (.str (cutS s l u))
  | .tup ds => P (.tup (cutD ds l u))
  | x => ∃ ds, lstD Λ x = some ds ∧ P (.lst (cutD ds l u))
section
variable {C : Ctx} {E : ER} {Γ : Env} {Λ : Cells} {P : D → Cells → Prop} {a : Expr} {pos : Pos}
theorem cutD_whole {ds : List D} {l u : Option Int} (h : HT.sIx ds.length 0 l = 0 ∧ HT.sIx ds.length ds.length u = ds.length) : cutD ds l u = ds := by
  unfold cutD; rw [h.1, h.2]; simp
theorem we_sl {lo hi : Option Expr} {p2 : Pos} (h : WE C E Γ Λ a fun x Λ1 => WO C E Γ Λ1 lo fun l Λ2 => WO C E Γ Λ2 hi fun u Λ3 => slP Λ3 x l u fun d => P d Λ3) : WE C E Γ Λ (.Subscript a (.Slice lo hi none p2) pos) P := fun X F W is tk => by
  refine pe_imp (pe_slice (sl_list.or (sl_tupX.or sl_str)) pe_U po_U po_U) fun σ H Q ⟨B, α, S, q, er⟩ => ?_
  refine WE.use h is tk S er fun x Λ1 vx B1 α1 H1 p1 S1 e1 f1 r1 => ?_
  refine WO.use p1 is tk S1 (er.mono e1) fun l Λ2 B2 α2 H2 p2 S2 e2 f2 => ?_
  refine WO.use p2 is tk S2 (er.mono (e1.trans e2)) fun u Λ3 B3 α3 H3 p3 S3 e3 f3 => ?_
  have r3 := r1.mono (e2.trans e3) (f2.trans f3)
  unfold slP at p3
  split at p3
  · obtain ⟨hs, p⟩ := p3
    unfold Rep at r3
    exact .inr (.inr ⟨_, r3, hs, q _ Λ3 _ B3 α3 H3 p S3 ((e1.trans e2).trans e3) ((f1.trans f2).trans f3) (by unfold Rep; rfl)⟩)
  · rename_i ds
    unfold Rep at r3
    obtain ⟨p', vs, rfl, h1, h2⟩ := r3
    refine .inr (.inl ⟨p', vs, rfl, by rw [is.K]; exact S3.bh.sqT h1.1, fun hw => ?_, fun hw t its ht => ?_⟩)
    · rw [h2.length] at hw
      rw [cutD_whole hw] at p3
      exact q _ Λ3 _ B3 α3 H3 p3 S3 ((e1.trans e2).trans e3) ((f1.trans f2).trans f3) (by unfold Rep; exact ⟨p', vs, rfl, h1, h2⟩)
    · have hx : Ex B3 (upd B3 t (.frz (tupO its) (.tup (cutV vs l u)))) := Ex.new (S3.bh.back ht)
      refine q _ Λ3 _ (upd B3 t (.frz (tupO its) (.tup (cutV vs l u)))) α3 _ p3 (S3.lay ht) (((e1.trans e2).trans e3).trans hx) ((f1.trans f2).trans f3) ?_
      show Rep C.K _ α3 (.tup _) (.ref t)
      unfold Rep
      exact ⟨t, _, rfl, SqX.new upd_same, (h2.cut l u).mono hx (List.prefix_refl _)⟩
  · obtain ⟨ds, hs, p⟩ := p3
    obtain ⟨p', vs, rfl, h1, h2⟩ := S3.seqL r3 hs
    refine .inl ⟨p', vs, rfl, by rw [is.K]; exact h1, fun t ht => ?_⟩
    have hx : Ex B3 (upd B3 t (.lst (cutV vs l u))) := Ex.new (S3.bh.back ht)
    refine q _ Λ3 _ (upd B3 t (.lst (cutV vs l u))) α3 _ p (S3.lay ht) (((e1.trans e2).trans e3).trans hx) ((f1.trans f2).trans f3) ?_
    show Rep C.K _ α3 (.lst _) (.ref t)
    unfold Rep
    exact ⟨t, _, rfl, upd_same, (h2.cut l u).mono hx (List.prefix_refl _)⟩
theorem slP_tup {x : D} {ds : List D} {l u : Option Int} {P : D → Prop} (hx : x = .tup ds) (h : P (.tup (cutD ds l u))) : slP Λ x l u P := by subst hx; exact h
theorem slP_str {s : Str} {l u : Option Int} {P : D → Prop} (hs : s.length ≤ sizeLine) (h : P (.str (cutS s l u))) : slP Λ (.str s) l u P := ⟨hs, h⟩
theorem slP_lst {x : D} {ds : List D} {l u : Option Int} {P : D → Prop} (hx : lstD Λ x = some ds) (h : P (.lst (cutD ds l u))) : slP Λ x l u P := by
  unfold slP
  split
  · simp only [lstD, vw] at hx; cases hx
  · simp only [lstD, vw] at hx; cases hx
  · exact ⟨ds, hx, h⟩
end
end Pl
namespace Pl
open PySem L2 PyProof.Rows
theorem good_blk {C : Ctx} {scope : Scope} {vs ls : List Bool} {gl : List Str} (h : goodC C.N (relS scope C.sc) vs ls gl = true) : (C.blk scope vs ls gl).Good := good_by h
theorem rv {d : D} {P : D → Prop} (h : P d) : ∃ d', Res.val d = .val d' ∧ P d' := ⟨d, rfl, h⟩
end Pl
namespace Pl
open PySem L2 PyProof.Rows
/-! ### loops by the turn's number -/
section
variable {C : Ctx} {Γ : Env} {Λ : Cells} {tg : Expr} {ws : List Nat} {R : Rs} {body : List Stmt}
theorem sz_ltt {n : Nat} (h : n < 10000000) : n < sizeLine := by rw [sizeLine_eq]; omega
end
/-! ### a cell that is a stack -/
section
variable {β : Type} {f : β → D} {st : List β} {y : β}
end
end Pl
namespace Pl
open PySem L2 PyProof.Rows
section
variable {f : Int → Int → D} {i j : Int} {P : D → Prop}
end
end Pl
namespace Pl
open PySem L2 PyProof.Rows
/-! ### guards of the driver's rows -/
section
variable {C : Ctx} {E : ER} {Γ : Env} {Λ : Cells}
theorem wgs_cons1 {e : Expr} {es : List Expr} {d : D} {ds : List D} {v : Nat} {ws : List Nat} {P : Env → Prop} (h : WG C Γ Λ e d [v] fun Γ' => WGs C Γ' Λ es ds ws P) (he : plainT e = true := by rfl) : WGs C Γ Λ (e :: es) (d :: ds) (v :: ws) P := wgs_cons h he
end
section
variable {Λ : Cells} {P : D → Prop} {f : Int → Int → D} {x y : D}
end
end Pl
namespace Pl
open PySem L2 PyProof.Rows
end Pl
namespace Pl
open PySem L2 PyProof.Rows
/-- the law's own def: True for every script -/
theorem law_ok {G : Gl} {x p : Str} {st : Stmt} {N : List Str} {vs ls : List Bool} {gl : List Str} {k n : Nat} {f : Addr} {fd : FuncData} (F : Fun G.K x x st f fd) (sc : FnScope N [p] (defScope st)) (good : goodC N (defScope st) vs ls gl = true)
    (hb : ∀ ns : List Int, ns.length ≤ n → WSs (G.cx N (defScope st) vs ls gl k 0) (Γ0 N [.fzl (ns.map .int)]) [] (defBody st) ⟨fun _ _ => False, fun r _ => r = .val (.bl true), fun _ _ => False, fun _ _ => False, ER.none⟩) : FnG G.P G.w G.K G.mg G.base (L2.CX G.P G.w) (k + 1) f fd [p] (spOf G.K 1 (lawSpec n)) :=
  fn_ok (ps := [p]) (S := lawSpec n) F sc (G.cx N (defScope st) vs ls gl k 0) ⟨rfl, rfl, rfl, rfl, rfl, rfl, rfl, rfl⟩ (good_by good) (fun ds Λ Q E h => by obtain ⟨_, _, _, rfl, _⟩ := h; exact Nat.le_refl _) fun ds Λ Q E hl ⟨ns, h1, h2, h3, h4⟩ => by
    subst h2; subst h3
    refine wss_mono (hb ns h1) ⟨fun _ _ z => z.elim, fun r Λ e => ?_, fun _ _ z => z, fun _ _ z => z, fun _ _ _ z => z.elim⟩
    have e : r = .val (.bl true) := e
    subst e
    exact ⟨rfl, by rw [List.length_nil, List.take_zero]; exact ⟨rfl, h4⟩⟩
end Pl
namespace Pl
open PySem L2 PyProof.Rows
@[reducible] def frOf {K : PySem.W.Frag} {h : Heap} (_ : K.In h) : PySem.W.Frag := K
end Pl

/-! Pl13: more operations -/
namespace Pl
open PySem L2 PyProof.Rows
section
variable {C : Ctx} {E : ER} {Γ : Env} {Λ : Cells} {a b : Expr} {pos : Pos}
/-- is None, is True, is False -/
def isP (x y : D) (P : Bool → Prop) : Prop := match y with
  | .non => ∃ c, isN x = some c ∧ P c
  | .bl b => ∃ a, x = .bl a ∧ P (decide (a = b))
  | _ => False
theorem we_isA {P : D → Cells → Prop} (h : WE C E Γ Λ a fun x Λ1 => WE C E Γ Λ1 b fun y Λ2 => isP x y fun c => P (.bl c) Λ2) : WE C E Γ Λ (.Compare a [.Is] [b] pos) P :=
  we_cmpK (fun X is => op_isN.or op_is_bl) (we_mono h fun x Λ1 p => we_mono p fun y Λ2 q => by
    intro F B α σ H vx vy Q S rx ry k
    unfold isP at q
    split at q
    · obtain ⟨c, hc, p⟩ := q
      unfold Rep at ry
      refine .inl ⟨ry, ?_⟩
      have := isN_rep rx hc
      rw [this]
      exact k _ _ _ _ _ _ p S (Ex.refl B) (List.prefix_refl _) (by unfold Rep; rfl)
    · obtain ⟨c, rfl, p'⟩ := q
      unfold Rep at rx ry
      exact .inr ⟨_, _, rx, ry, k _ _ _ _ _ _ p' S (Ex.refl B) (List.prefix_refl _) (by unfold Rep; rfl)⟩
    · exact q.elim) (nomark b)
end
/-! lists of things of one kind -/
section
variable {β : Type} {f : β → D}
end
theorem bl_eqv (a b : Bool) : PyData.eqv (py (.bl a)) (py (.bl b)) = decide (a = b) := by cases a <;> cases b <;> rfl
end Pl
namespace Pl
open PySem L2 PyProof.Rows
end Pl
namespace Pl
open PySem L2 PyProof.Rows
end Pl
namespace Pl
open PySem L2 PyProof.Rows
end Pl
namespace Pl
open PySem L2 PyProof.Rows
end Pl

/-! Pl14: dicts -/
namespace Pl
open PySem L2 PyProof.Rows
/-! ### a dict of the module -/
section
variable {C : Ctx} {E : ER} {Γ : Env} {Λ : Cells} {P : D → Cells → Prop} {pos p : Pos} {e : Expr}
end

/-! ### displays -/
def keyStrs : List (Option Expr) → Option (List Str)
  | [] => some []
  | some (.Constant (.str x) _ _) :: r => (keyStrs r).map (x :: ·)
  | _ => none
/-- the values, from the left -/
def WDs (C : Ctx) (Γ : Env) (Λ : Cells) : List Expr → (List D → Prop) → Prop
  | [], P => P []
  | e :: es, P => WE C ER.none Γ Λ e fun d Λ' => Λ' = Λ ∧ WDs C Γ Λ es fun ds => P (d :: ds)
theorem putK_new {k : Key} {v : V} {acc : List (Key × V)} (h : ∀ kv ∈ acc, kv.1 ≠ k) : putK acc k v = acc ++ [(k, v)] := by
  unfold putK
  rw [if_neg]
  intro z
  obtain ⟨kv, h1, h2⟩ := List.any_eq_true.mp z
  exact h kv h1 (of_decide_eq_true h2)
theorem mergeK_new : ∀ {more acc : List (Key × V)}, (more.map (·.1)).Nodup → (∀ kv ∈ acc, kv.1 ∉ more.map (·.1)) → mergeK acc more = acc ++ more
  | [], acc, _, _ => by unfold mergeK; simp
  | q :: more, acc, nd, h => by
    rw [List.map_cons, List.nodup_cons] at nd
    have h1 : putK acc q.1 q.2 = acc ++ [q] := putK_new fun kv hk e => h kv hk (by rw [List.map_cons, e]; exact List.mem_cons_self)
    show mergeK (putK acc q.1 q.2) more = _
    rw [h1, mergeK_new nd.2, List.append_assoc]; rfl
    intro kv hk
    rcases List.mem_append.mp hk with z | z
    · exact fun m => h kv z (by rw [List.map_cons]; exact List.mem_cons_of_mem _ m)
    · rw [List.mem_singleton] at z; subst z; exact nd.1
def trU (X : Cx) : List Str → List Expr → List (TE × TE)
  | k :: ks, v :: vs => (tC (.str k), UE X v) :: trU X ks vs
  | _, _ => []
theorem ppU {X : Cx} {pos : Pos} : ∀ (keys : List (Option Expr)) (vals : List Expr) (ks : List Str), keyStrs keys = some ks → keys.length = vals.length → PPs X pos keys vals (trU X ks vals)
  | [], [], ks, hk, _ => by cases hk; exact pps_nil
  | [], _ :: _, _, _, hl => by simp at hl
  | _ :: _, [], _, _, hl => by simp at hl
  | k :: keys, v :: vals, ks, hk, hl => by
    unfold keyStrs at hk
    split at hk
    · rename_i heq; cases heq
    · rename_i x j kp r heq
      cases heq
      obtain ⟨ks', hk', rfl⟩ := Option.map_eq_some_iff.mp hk
      exact pps_cons pe_str pe_U (ppU keys vals ks' hk' (by simpa using hl))
    · cases hk
theorem keyStrs_len : ∀ {keys : List (Option Expr)} {ks : List Str}, keyStrs keys = some ks → keys.length = ks.length ∧ keys.all (·.isSome) = true
  | [], ks, hk => by cases hk; exact ⟨rfl, rfl⟩
  | k :: keys, ks, hk => by
    unfold keyStrs at hk
    split at hk
    · rename_i heq; cases heq
    · rename_i x j kp r heq
      cases heq
      obtain ⟨ks', hk', rfl⟩ := Option.map_eq_some_iff.mp hk
      obtain ⟨h1, h2⟩ := keyStrs_len hk'
      exact ⟨by simp [h1], by simpa using h2⟩
    · cases hk
section
variable {C : Ctx} {E : ER} {Γ : Env} {Λ : Cells} {pos : Pos} {X : Cx} {W : WX}
theorem pairs_use (is : C.Is X) (tk : Takes X W) (vals : List Expr) : ∀ (ks : List Str) (P : List D → Prop), ks.length = vals.length → WDs C Γ Λ vals P → ∀ F B α σ H (Q : List (V × V) → Hp → Prop), Sat C.K F B α Γ Λ σ H →
      (∀ ds vs B' H', P ds → Sat C.K F B' α Γ Λ σ H' → Ex B B' → Reps C.K B' α ds vs → vs.length = ks.length → Q ((ks.map V.str).zip vs) H') → tPairs (trU X ks vals) σ H Q := by
  induction vals with
  | nil =>
    intro ks P hl h F B α σ H Q S q
    cases ks with
    | nil => exact q [] [] B H h S (Ex.refl B) .nil rfl
    | cons _ _ => simp at hl
  | cons v vals ih =>
    intro ks P hl h F B α σ H Q S q
    cases ks with
    | nil => simp at hl
    | cons k ks =>
      show UE X v σ H _
      have h : WE C ER.none Γ Λ v fun d Λ' => Λ' = Λ ∧ WDs C Γ Λ vals fun ds => P (d :: ds) := h
      refine WE.use h is tk S (fun err Λ' B' α' H' c dx e => e.elim) fun d Λ' x B' α' H' p S' e f r => ?_
      obtain ⟨rfl, p⟩ := p
      have ea := pre_len f (by rw [S.al, S'.al])
      subst ea
      refine ih ks _ (by simpa using hl) p F B' _ σ H' _ S' fun ds vs B2 H2 p2 S2 e2 r2 l2 => ?_
      exact q (d :: ds) (x :: vs) B2 H2 p2 S2 (e.trans e2) (.cons (r.mono e2 (List.prefix_refl _)) r2) (by simpa using l2)
theorem zip_kV : ∀ (ks : List Str) (vs : List V), (ks.map V.str).zip vs = ((ks.map (Sum.inr (α := Int))).zip vs).map fun kv => (kV kv.1, kv.2)
  | [], _ => rfl
  | _ :: _, [] => rfl
  | k :: ks, v :: vs => by
    show (V.str k, v) :: (ks.map V.str).zip vs = (kV (.inr k), v) :: ((ks.map (Sum.inr (α := Int))).zip vs).map fun kv => (kV kv.1, kv.2)
    rw [zip_kV ks vs]; rfl
theorem inr_nodup : ∀ {ks : List Str}, ks.Nodup → (ks.map (Sum.inr (α := Int))).Nodup
  | [], _ => List.nodup_nil
  | k :: ks, h => by
    rw [List.nodup_cons] at h
    rw [List.map_cons, List.nodup_cons]
    refine ⟨fun m => ?_, inr_nodup h.2⟩
    obtain ⟨x, hx, e⟩ := List.mem_map.mp m
    cases e; exact h.1 hx
/-- {"k": v, ..}: a dict that is seen -/
theorem we_disp {keys : List (Option Expr)} {vals : List Expr} {P : D → Cells → Prop} (ks : List Str) (hk : keyStrs keys = some ks) (hl : keys.length = vals.length) (h0 : keys ≠ []) (h15 : keys.length ≤ 15) (nd : ks.Nodup)
    (h : WDs C Γ Λ vals fun ds => P (.dic (ks.map .inr) ds) Λ) : WE C E Γ Λ (.Dict keys vals pos) P := fun X F W is tk => by
  obtain ⟨kl, ka⟩ := keyStrs_len hk
  refine pe_imp (pe_disp (ppU keys vals ks hk hl) ka hl h0 h15) fun σ H Q ⟨B, α, S, q, er⟩ => ?_
  intro p hp
  have hpα : p ∉ α := fun ha => (S.ah p ha).1 hp
  have S1 := S.grow (Ex.new (o := .dK []) hp)
  refine pairs_use is tk vals ks _ (by rw [← kl, hl]) h _ B α σ _ _ S1.rebase fun ds vs B' H' p' T e r lv => ?_
  have S2 := S1.unbase T
  have hH : H' p = some (.dK []) := T.kp p _ upd_same hpα (fun _ q => nomatch q)
  have hB : B' p = none := by
    cases z : B' p with
    | none => rfl
    | some o =>
      rcases T.fr p o z with w | w
      · have w : B p = some o := w
        rw [S.bh.back hp] at w; cases w
      · have w : upd H p (.dK []) p = none := w
        rw [upd_same] at w; cases w
  refine ⟨hH, (ks.map Sum.inr).zip vs, ?_, ?_, ?_⟩
  · exact zip_kV ks vs
  · rw [List.length_zip, List.length_map]; omega
  · have em : mergeK [] ((ks.map (Sum.inr (α := Int))).zip vs) = (ks.map Sum.inr).zip vs := by
      rw [mergeK_new (acc := []) (by rw [List.map_fst_zip (by rw [List.length_map, lv]; exact Nat.le_refl _)]; exact inr_nodup nd) (fun kv hk => by simp at hk)]; rfl
    rw [em]
    have S3 := (S2.poke hB (S.dm p hp) hpα (by rw [hH]; trivial) (o := .dK ((ks.map Sum.inr).zip vs))).see upd_same hB (S.dm p hp) hpα
    have hx : Ex B' (upd B' p (.dK ((ks.map Sum.inr).zip vs))) := Ex.new hB
    refine q _ Λ _ _ α _ p' S3 (e.trans hx) (List.prefix_refl _) ?_
    show Rep C.K _ α (.dic _ _) (.ref p)
    unfold Rep
    exact ⟨p, vs, rfl, .inl upd_same, r.mono hx (List.prefix_refl _), by rw [List.length_map, ← lv]; exact r.length⟩
end
end Pl
namespace Pl
open PySem L2 PyProof.Rows
section
variable {C : Ctx} {E : ER} {Γ : Env} {Λ : Cells} {pos : Pos}
end
end Pl
namespace Pl
open PySem L2 PyProof.Rows
end Pl
namespace Pl
open PySem L2 PyProof.Rows
section
variable {C : Ctx} {Γ : Env} {Λ : Cells} {tg elt : Expr} {ws : List Nat} {P : List D → Prop} {acc : List D}
end
end Pl

/-! Pl15: dicts that are owned, copied, asked, held against one another -/
namespace Pl
open PySem L2 PyProof.Rows
section
variable {C : Ctx} {E : ER} {Γ : Env} {Λ : Cells} {P : D → Cells → Prop} {pos pos' p apos cpos : Pos} {e o i f : Expr}
end
/-! ### d[k] = v -/
section
variable {C : Ctx} {Γ : Env} {Λ : Cells} {R : Rs} {pos pos' : Pos} {e o i : Expr}
end
end Pl

/-! Pl16: dicts held against one another -/
namespace Pl
open PySem L2 PyProof.Rows PySem.Spec
section
variable {prog : Program} {w : World} {A : Around} {s : Shared} {Kx : Type} [DecidableEq Kx] {kd : PySem.KeyKind prog w Kx}
end
section
variable {C : Ctx} {E : ER} {Γ : Env} {Λ : Cells} {pos : Pos} {a b : Expr}
end
end Pl
namespace Pl
open PySem L2 PyProof.Rows
section
variable {C : Ctx} {E : ER} {Γ : Env} {Λ : Cells} {pos p : Pos} {β : Type} {A : β → List D} {ok : β → Prop} {R : β → Res → Prop}
end
end Pl

/-! Pl17: tuples whose items are held against one another only up to the first that differ -/
namespace Tlt
open PySem PySem.SeqAt PyProof.Rows
open PySem.AutoSeq1 (wpAny_loadPart')
open PySem.MeetsSeq PySem.MeetsSeq2 PySem.MeetsSeq3 PySem.SeqRoads2
end Tlt

/-! Pl18: == through cells, list.clear -/
namespace Pl
open PySem L2 PyProof.Rows
/-! ### a datum with its cells looked through -/
mutual
def dv (Λ : Cells) : D → D
  | .loc n => match Λ[n]? with
    | some (.lst ds) => .lst ds
    | _ => .loc n
  | .tup ds => .tup (dvs Λ ds)
  | .lst ds => .lst (dvs Λ ds)
  | .fzl ds => .fzl (dvs Λ ds)
  | d => d
def dvs (Λ : Cells) : List D → List D
  | [] => []
  | d :: ds => dv Λ d :: dvs Λ ds
end
section
variable {K : PySem.W.Frag} {F : Fm} {B : Hp} {α : List Addr} {Γ : Env} {Λ : Cells} {σ : L2.St} {H : Hp}
end
section
variable {C : Ctx} {E : ER} {Γ : Env} {Λ : Cells} {pos apos cpos : Pos} {a b o : Expr}
end
end Pl
namespace Pl
open PySem L2 PyProof.Rows
/-! ### comprehensions whose items are told by a word only -/
inductive All2 {β γ : Type} (R : β → γ → Prop) : List β → List γ → Prop
  | nil : All2 R [] []
  | cons {x y xs ys} : R x y → All2 R xs ys → All2 R (x :: xs) (y :: ys)
theorem All2.len {β γ : Type} {R : β → γ → Prop} {xs : List β} {ys : List γ} (h : All2 R xs ys) : xs.length = ys.length := by
  induction h with
  | nil => rfl
  | cons _ _ ih => simp [ih]
section
variable {C : Ctx} {Γ : Env} {Λ : Cells} {tg elt : Expr} {ws : List Nat} {P : List D → Prop} {β γ : Type}
end
end Pl
namespace Pl
open PySem L2
end Pl
namespace Pl
open PySem L2
end Pl
namespace Pl
open PySem L2
end Pl

namespace Law
open PySem L2 Pl
/-- a letter -/
inductive Lt | p | q | r
  deriving DecidableEq
def Lt.s : Lt → Str | .p => "p" | .q => "q" | .r => "r"
inductive Bop | and | or | iff
  deriving DecidableEq
def Bop.s : Bop → Str | .and => "and" | .or => "or" | .iff => "if"
/-- a saying -/
inductive Sy
  | no | lt (l : Lt) | not (a : Sy) | shown (a : Sy) | bin (o : Bop) (a b : Sy)
  deriving DecidableEq
namespace Sy
def pv : Sy → D
  | no => .tup [.str "no"]
  | lt l => .tup [.str "letter", .str l.s]
  | not a => .tup [.str "not", a.pv]
  | shown a => .tup [.str "shown", a.pv]
  | bin o a b => .tup [.str o.s, a.pv, b.pv]
def size : Sy → Nat
  | no => 1
  | lt _ => 1
  | not a => 1 + a.size
  | shown a => 1 + a.size
  | bin _ a b => 1 + a.size + b.size
/-- nesting -/
def ht : Sy → Nat
  | no => 1
  | lt _ => 1
  | not a => 1 + a.ht
  | shown a => 1 + a.ht
  | bin _ a b => 1 + max a.ht b.ht
theorem ht_size : ∀ s : Sy, s.ht ≤ s.size
  | no => Nat.le_refl _
  | lt _ => Nat.le_refl _
  | not a => Nat.add_le_add_left (ht_size a) 1
  | shown a => Nat.add_le_add_left (ht_size a) 1
  | bin _ a b => by have := ht_size a; have := ht_size b; simp only [ht, size]; omega
theorem ht_pos (s : Sy) : 1 ≤ s.ht := by cases s <;> simp [ht] <;> omega
end Sy
namespace Sy
theorem pv_plain : ∀ s : Sy, (py s.pv).plain = true
  | no => rfl
  | lt _ => rfl
  | not a => by show (PyData.tuple [.str "not", py a.pv]).plain = true; simp [PyData.plain, PyData.plainAll, pv_plain a]
  | shown a => by show (PyData.tuple [.str "shown", py a.pv]).plain = true; simp [PyData.plain, PyData.plainAll, pv_plain a]
  | bin o a b => by show (PyData.tuple [.str o.s, py a.pv, py b.pv]).plain = true; simp [PyData.plain, PyData.plainAll, pv_plain a, pv_plain b]
theorem pv_depth : ∀ s : Sy, (py s.pv).depth ≤ s.ht
  | no => by show (PyData.tuple [.str "no"]).depth ≤ 1; simp [PyData.depth, PyData.depthAll]
  | lt l => by show (PyData.tuple [.str "letter", .str l.s]).depth ≤ 1; simp [PyData.depth, PyData.depthAll]
  | not a => by
    have := pv_depth a
    show (PyData.tuple [.str "not", py a.pv]).depth ≤ 1 + a.ht
    simp only [PyData.depth, PyData.depthAll]; omega
  | shown a => by
    have := pv_depth a
    show (PyData.tuple [.str "shown", py a.pv]).depth ≤ 1 + a.ht
    simp only [PyData.depth, PyData.depthAll]; omega
  | bin o a b => by
    have := pv_depth a
    have := pv_depth b
    show (PyData.tuple [.str o.s, py a.pv, py b.pv]).depth ≤ 1 + max a.ht b.ht
    simp only [PyData.depth, PyData.depthAll]; omega
end Sy
/-! what the builders take out of their lists -/
/-- the parts of a stack, all together -/
def tot (st : List Sy) : Nat := (st.map Sy.size).sum
theorem tot_snoc (st : List Sy) (y : Sy) : tot (st ++ [y]) = tot st + y.size := by simp [tot]
theorem size_pos (s : Sy) : 1 ≤ s.size := by cases s <;> simp [Sy.size] <;> omega
theorem len_tot (st : List Sy) : st.length ≤ tot st := by
  induction st with
  | nil => simp [tot]
  | cons a st ih => have := size_pos a; simp only [tot, List.map_cons, List.sum_cons, List.length_cons] at *; omega
end Law

/-! Ss: the order of sayings -/
namespace Law
open PySem L2 Pl
/-! ### an order of lists of numbers -/
namespace Sy
def ix : Sy → Nat
  | bin .and _ _ => 0
  | bin .iff _ _ => 1
  | lt _ => 2
  | no => 3
  | not _ => 4
  | bin .or _ _ => 5
  | shown _ => 6
def _root_.Law.Lt.ix : Lt → Nat | .p => 0 | .q => 1 | .r => 2
/-- a code without prefixes -/
def code : Sy → List Nat
  | no => [3]
  | lt l => [2, l.ix]
  | not a => 4 :: code a
  | shown a => 6 :: code a
  | bin o a b => (bin o no no).ix :: (code a ++ code b)
/-! ### == of sayings -/
theorem strs_eqv (x y : Str) : PyData.eqv (.str x) (.str y) = decide (x = y) := by
  rw [PyData.eqv]
  by_cases e : x = y
  · subst e; simp
  · simp [e]
end Sy
end Law

/-! Ss2: < of sayings, as the model reckons it -/
namespace Law
open PySem L2 Pl PySem.SeqAt PyProof.Rows PySem.W
namespace Sy
def kd : Sy → List PyData
  | no => []
  | lt l => [.str l.s]
  | not a => [py a.pv]
  | shown a => [py a.pv]
  | bin _ a b => [py a.pv, py b.pv]
section
variable {A : Around} {z : Shared}
end
end Sy
end Law

/-! Ss3: sorted() of sayings -/
namespace Law
open PySem L2 Pl PySem.SeqAt PyProof.Rows PySem.W
namespace Sy
section
variable {A : Around} {z : Shared}
end
section
variable {prog : Program} {w : World} {A : Around} {z : Shared}
/-! ### the sort -/
end
end Sy
end Law

/-! Ss4: sorted() of sayings, the rule -/
namespace Law
open PySem L2 Pl PySem.SeqAt PyProof.Rows PySem.W PySem.Spec
section
variable {prog : Program} {w : World} {A : Around} {E : Value → Shared → Prop} {s : Shared}
end
end Law

/-! Ss5: sorted() of sayings, told by data -/
namespace Law
open PySem L2 Pl PySem.SeqAt PyProof.Rows PySem.W PySem.Spec
section
variable {C : Pl.Ctx} {E : ER} {Γ : Pl.Env} {Λ : Cells} {e : Expr} {p pos : Pos}
end
/-! ### each once -/
end Law

/-! Sh1: the pure reading. U: data without cells; M: what a def comes to. -/
namespace Sh
open PySem L2 Pl
/-- a pure datum; `ins c us`: an instance of the class named c, its fields in order -/
inductive U where
  | non | bl (b : Bool) | int (i : Int) | str (s : Str)
  | tup (us : List U) | lst (us : List U) | fzl (us : List U)
  | dic (ks : List Key) (us : List U)
  | ins (c : Str) (us : List U)
  | exc (c : Str) (us : List U)
  deriving Inhabited
/-- where the classes stand, their fields -/
structure Kl where
  ad : Str → Addr
  fs : Str → List Str
mutual
def em (κ : Kl) : U → D
  | .non => .non
  | .bl b => .bl b
  | .int i => .int i
  | .str s => .str s
  | .tup us => .tup (ems κ us)
  | .lst us => .lst (ems κ us)
  | .fzl us => .fzl (ems κ us)
  | .dic ks us => .dic ks (ems κ us)
  | .ins c us => .ins (κ.ad c) (κ.fs c) (ems κ us)
  | .exc c us => .exc (κ.ad c) (κ.fs c) (ems κ us)
def ems (κ : Kl) : List U → List D
  | [] => []
  | u :: us => em κ u :: ems κ us
end
section
variable {κ : Kl} {Λ : Cells}
theorem ems_map : ∀ us : List U, ems κ us = us.map (em κ)
  | [] => rfl
  | u :: us => by rw [ems, ems_map us, List.map_cons]
theorem ems_app (us vs : List U) : ems κ (us ++ vs) = ems κ us ++ ems κ vs := by simp only [ems_map, List.map_append]
theorem ems_len (us : List U) : (ems κ us).length = us.length := by rw [ems_map, List.length_map]
mutual
theorem nl_em : ∀ u : U, nl (em κ u) = true
  | .non => rfl
  | .bl _ => rfl
  | .int _ => rfl
  | .str _ => rfl
  | .tup us => nls_em us
  | .lst us => nls_em us
  | .fzl us => nls_em us
  | .dic _ us => nls_em us
  | .ins _ us => nls_em us
  | .exc _ us => nls_em us
theorem nls_em : ∀ us : List U, nls (ems κ us) = true
  | [] => rfl
  | u :: us => by show (nl (em κ u) && nls (ems κ us)) = true; rw [nl_em u, nls_em us]; rfl
end
theorem vw_em (u : U) : vw Λ (em κ u) = em κ u := by cases u <;> rfl
mutual
/-- as the library's -/
def pyU : U → PyData
  | .non => .none
  | .bl b => .bool b
  | .int i => .int i
  | .str s => .str s
  | .tup us => .tuple (pyUs us)
  | .lst us => .list (pyUs us)
  | .fzl us => .list (pyUs us)
  | .dic _ _ => .dict []
  | .ins _ _ => .dict []
  | .exc _ _ => .dict []
def pyUs : List U → List PyData
  | [] => []
  | u :: us => pyU u :: pyUs us
end
mutual
theorem py_em : ∀ u : U, py (em κ u) = pyU u
  | .non => rfl
  | .bl _ => rfl
  | .int _ => rfl
  | .str _ => rfl
  | .tup us => by rw [em, py, pyU, pys_ems us]
  | .lst us => by rw [em, py, pyU, pys_ems us]
  | .fzl us => by rw [em, py, pyU, pys_ems us]
  | .dic _ us => rfl
  | .ins _ us => rfl
  | .exc _ us => rfl
theorem pys_ems : ∀ us : List U, pys (ems κ us) = pyUs us
  | [] => rfl
  | u :: us => by rw [ems, pys, pyUs, py_em u, pys_ems us]
end
theorem pyUs_map : ∀ us : List U, pyUs us = us.map pyU
  | [] => rfl
  | u :: us => by rw [pyUs, pyUs_map us, List.map_cons]
end

/-! ### what a def comes to -/
inductive M (α : Type) where
  | stuck
  | err (c : Str) (us : List U)
  | ok (a : α)
namespace M
variable {α β : Type}
def bind (m : M α) (k : α → M β) : M β := match m with
  | .stuck => .stuck
  | .err c us => .err c us
  | .ok a => k a
@[simp] theorem bind_ok (a : α) (k : α → M β) : (M.ok a).bind k = k a := rfl
@[simp] theorem bind_stuck (k : α → M β) : (M.stuck : M α).bind k = .stuck := rfl
@[simp] theorem bind_err (c : Str) (us : List U) (k : α → M β) : (M.err c us : M α).bind k = .err c us := rfl
/-- a refusal met where none may be -/
def calm (m : M α) : M α := match m with
  | .err _ _ => .stuck
  | m => m
@[simp] theorem calm_ok (a : α) : (M.ok a).calm = .ok a := rfl
@[simp] theorem calm_stuck : (M.stuck : M α).calm = .stuck := rfl
@[simp] theorem calm_err (c : Str) (us : List U) : (M.err c us : M α).calm = .stuck := rfl
end M
def wp {α : Type} (m : M α) (P : α → Prop) (E : Str → List U → Prop) : Prop := match m with
  | .stuck => False
  | .err c us => E c us
  | .ok a => P a
def no : Str → List U → Prop := fun _ _ => False
section
variable {α β : Type} {P P' : α → Prop} {Q : β → Prop} {Eh Eh' : Str → List U → Prop} {m : M α} {k : α → M β}
theorem wp_bind (h : wp (m.bind k) Q Eh) : wp m (fun a => wp (k a) Q Eh) Eh := by cases m <;> exact h
theorem wp_mono (h : wp m P Eh) (i : ∀ a, P a → P' a) (j : ∀ c us, Eh c us → Eh' c us) : wp m P' Eh' := by
  cases m with
  | stuck => exact h
  | err c us => exact j c us h
  | ok a => exact i a h
theorem wp_calm (h : wp m.calm P Eh) : wp m P no := by
  cases m with
  | stuck => exact h
  | err c us => exact h.elim
  | ok a => exact h
end
/-- a test of the size -/
def sz {α : Type} (n : Nat) (m : M α) : M α := if n < 10000000 then m else .stuck
theorem sz_ok {α : Type} {n : Nat} {m : M α} (h : n < 10000000) : sz n m = m := if_pos h
theorem wp_sz {α : Type} {n : Nat} {m : M α} {P : α → Prop} {E : Str → List U → Prop} (h : wp (sz n m) P E) : n < 10000000 ∧ wp m P E := by
  unfold sz at h; split at h
  · exact ⟨‹_›, h⟩
  · exact h.elim

/-! ### operations -/
def addM : U → U → M U
  | .int i, .int j => .ok (.int (i + j))
  | .str s, .str t => sz (s.length + t.length) (.ok (.str (s ++ t)))
  | .tup xs, .tup ys => sz (xs.length + ys.length) (.ok (.tup (xs ++ ys)))
  | .lst xs, .lst ys => sz (xs.length + ys.length) (.ok (.lst (xs ++ ys)))
  | _, _ => .stuck
def subM : U → U → M U
  | .int i, .int j => .ok (.int (i - j))
  | _, _ => .stuck
/-- a factor that is small -/
def small (i : Int) : Bool := decide (-(2 ^ 64) < i) && decide (i < 2 ^ 64)
def mulM : U → U → M U
  | .int i, .int j => if small i || small j then .ok (.int (i * j)) else .stuck
  | _, _ => .stuck
def fdivM : U → U → M U
  | .int i, .int j => if decide (0 < j) && decide (j < 2 ^ 8999) then .ok (.int (i / j)) else .stuck
  | _, _ => .stuck
def modM : U → U → M U
  | .int i, .int j => if 0 < j then .ok (.int (i % j)) else .stuck
  | _, _ => .stuck
def powM : U → U → M U
  | .int i, .int j => if decide (0 ≤ j) && (decide (j ≤ 1000000) && decide (i.natAbs < 2 ^ 64)) then .ok (.int (i ^ j.toNat)) else .stuck
  | _, _ => .stuck
def negM : U → M U
  | .int i => .ok (.int (-i))
  | _ => .stuck
/-- no dict, no instance lies within -/
def pl (u : U) : Bool := (pyU u).plain
def dp (u : U) : Nat := (pyU u).depth
def eqM (x y : U) : M Bool := if pl x && (pl y && decide (min (dp x) (dp y) ≤ 190)) then .ok (PyData.eqv (pyU x) (pyU y)) else .stuck
def ltM : U → U → M Bool
  | .int i, .int j => .ok (decide (i < j))
  | .str s, .str t => .ok (decide (s.cps.toList < t.cps.toList))
  | _, _ => .stuck
def leM : U → U → M Bool
  | .int i, .int j => .ok (decide (i ≤ j))
  | _, _ => .stuck
def gtM : U → U → M Bool
  | .int i, .int j => .ok (decide (j < i))
  | _, _ => .stuck
def geM : U → U → M Bool
  | .int i, .int j => .ok (decide (j ≤ i))
  | _, _ => .stuck
def isNone : U → Bool
  | .non => true
  | _ => false
/-- x is None, x is True -/
def isM : U → U → M Bool
  | x, .non => .ok (isNone x)
  | .bl a, .bl b => .ok (decide (a = b))
  | _, _ => .stuck
def keyU : U → Option Key
  | .int i => some (.inl i)
  | .str s => some (.inr s)
  | _ => none
def uLook (ks : List Key) (us : List U) (k : Key) : Option U := ((ks.zip us).find? fun kv => decide (kv.1 = k)).map (·.2)
/-- the items of a list, a tuple -/
def seqU : U → Option (List U)
  | .lst us => some us
  | .fzl us => some us
  | .tup us => some us
  | _ => none
def inM (x : U) : U → M Bool
  | .str t => match x with
    | .str s => .ok (strIn s t)
    | _ => .stuck
  | .dic ks us => match keyU x with
    | some k => .ok (uLook ks us k).isSome
    | none => .stuck
  | y => match seqU y with
    | some us => if PyData.plainAll (pyUs us) && (pl x && decide (min (PyData.depthAll (pyUs us)) (dp x) ≤ 190)) then .ok (us.any fun e => PyData.eqv (pyU e) (pyU x)) else .stuck
    | none => .stuck
def boolM : U → M Bool
  | .bl b => .ok b
  | _ => .stuck
def ixM : U → U → M U
  | .str s, .int i => match atI s.cps.toList i with
    | some c => if s.length ≤ sizeLine then .ok (.str ⟨#[c]⟩) else .stuck
    | none => .stuck
  | x, .int i => match seqU x with
    | some us => match atI us i with
      | some u => .ok u
      | none => .stuck
    | none => .stuck
  | _, _ => .stuck
/-- d[k] -/
def ixdM : U → U → M U
  | .dic ks us, y => match keyU y with
    | some k => match uLook ks us k with
      | some u => .ok u
      | none => .stuck
    | none => .stuck
  | _, _ => .stuck
def cutU (xs : List U) (lo hi : Option Int) : List U := (xs.drop (HT.sIx xs.length 0 lo)).take (HT.sIx xs.length xs.length hi - HT.sIx xs.length 0 lo)
/-- an end of a slice -/
def endM : U → M (Option Int)
  | .int i => .ok (some i)
  | _ => .stuck
def slM (x : U) (l u : Option Int) : M U := match x with
  | .str s => if s.length ≤ sizeLine then .ok (.str (cutS s l u)) else .stuck
  | .tup us => .ok (.tup (cutU us l u))
  | .lst us => .ok (.lst (cutU us l u))
  | .fzl us => .ok (.lst (cutU us l u))
  | _ => .stuck
def lenM : U → M U
  | .str s => if s.length ≤ sizeLine then .ok (.int s.length) else .stuck
  | x => match seqU x with
    | some us => .ok (.int us.length)
    | none => .stuck
def listM (x : U) : M (List U) := match seqU x with
  | some us => .ok us
  | none => .stuck
def tupleM (x : U) : M U := match seqU x with
  | some us => .ok (.tup us)
  | none => .stuck
/-- the items of a list -/
def itemsL : U → Option (List U)
  | .lst us => some us
  | .fzl us => some us
  | _ => none
def iterL (x : U) : M (List U) := match itemsL x with
  | some us => .ok us
  | none => .stuck
def iterT : U → M (List U)
  | .tup us => .ok us
  | _ => .stuck
def iterS : U → M (List U)
  | .str s => .ok (s.cps.toList.map fun c => .str ⟨#[c]⟩)
  | _ => .stuck
def rangeU (lo : Int) (n : Nat) : List U := (List.range n).map fun i => .int (lo + (i : Nat))
def range1M : U → M (List U)
  | .int n => if decide (-(2 ^ 62) ≤ n) && decide (n < 2 ^ 62) then .ok (rangeU 0 n.toNat) else .stuck
  | _ => .stuck
def tyU : U → Option String
  | .non => some "NoneType"
  | .bl _ => some "bool"
  | .int _ => some "int"
  | .str _ => some "str"
  | .tup _ => some "tuple"
  | .lst _ => some "list"
  | .fzl _ => some "list"
  | .dic _ _ => some "dict"
  | .ins _ _ => none
  | .exc _ _ => none
def isiM (x : U) (T : String) : M U := match tyU x with
  | some t => match isiB t T with
    | some b => .ok (.bl b)
    | none => .stuck
  | none => .stuck
/-- a tuple's two, three .. items -/
def un2 : U → M (U × U)
  | .tup [a, b] => .ok (a, b)
  | _ => .stuck
def un3 : U → M (U × U × U)
  | .tup [a, b, c] => .ok (a, b, c)
  | _ => .stuck
/-- xs.append(x): the list behind it -/
def appM (xs : List U) (x : U) : M (List U) := sz xs.length (.ok (xs ++ [x]))
def popM (xs : List U) : M (U × List U) := match xs.getLast? with
  | some x => .ok (x, xs.dropLast)
  | none => .stuck
def extM (xs : List U) (y : U) : M (List U) := match y with
  | .lst ys => sz (xs.length + ys.length) (.ok (xs ++ ys))
  | _ => .stuck
/-- xs[i] = x -/
def setM (xs : List U) (i x : U) : M (List U) := match i with
  | .int k => match ixN xs.length k with
    | some j => .ok (xs.set j x)
    | none => .stuck
  | _ => .stuck
/-! ### loops -/
/-- what a turn comes to -/
inductive Ct (σ ρ : Type) where
  | nx (s : σ) | bk (s : σ) | rt (r : ρ)
variable {σ ρ : Type}
def forN (f : σ → U → M σ) : List U → σ → M σ
  | [], s => .ok s
  | x :: xs, s => (f s x).bind fun s => forN f xs s
def forC (f : σ → U → M (Ct σ ρ)) : List U → σ → M (Ct σ ρ)
  | [], s => .ok (.nx s)
  | x :: xs, s => (f s x).bind fun c => match c with
    | .nx s => forC f xs s
    | .bk s => .ok (.nx s)
    | .rt r => .ok (.rt r)
/-- while, at most n turns -/
def whN (c : σ → M Bool) (f : σ → M σ) : Nat → σ → M σ
  | 0, _ => .stuck
  | n + 1, s => (c s).bind fun b => if b then (f s).bind fun s => whN c f n s else .ok s
def mapC (f : U → M U) : List U → M (List U)
  | [] => .ok []
  | x :: xs => (f x).calm.bind fun y => (mapC f xs).bind fun ys => .ok (y :: ys)
/-- [f(x) for x in xs] -/
def compM (f : U → M U) (xs : List U) : M (List U) := sz xs.length (mapC f xs)
end Sh

/-! Sh2: from the pure reading to the wishes over data. -/
namespace Sh
open PySem L2 Pl
/-- the datum d, looked through its cell, is u -/
def Vw (κ : Kl) (Λ : Cells) (d : D) (u : U) : Prop := vw Λ d = em κ u
section
variable {κ : Kl} {Λ : Cells}
theorem vE {u : U} : Vw κ Λ (em κ u) u := vw_em u
theorem vL {n : Nat} {us : List U} (h : Λ[n]? = some (.lst (ems κ us))) : Vw κ Λ (.loc n) (.lst us) := by
  unfold Vw vw; dsimp only; rw [h]; rfl
theorem Vw.atom {d : D} {u : U} (h : Vw κ Λ d u) (h2 : ∀ us, u ≠ .lst us) (h3 : ∀ ks us, u ≠ .dic ks us) (h4 : ∀ c us, u ≠ .ins c us) : d = em κ u := by
  refine vw_noc h ?_ ?_ ?_ ?_
  · intro n e; cases u <;> cases e
  · intro ds e; cases u with
    | lst us => exact h2 us rfl
    | _ => cases e
  · intro ks ds e; cases u with
    | dic ks us => exact h3 ks us rfl
    | _ => cases e
  · intro c ns ds e; cases u with
    | ins c us => exact h4 c us rfl
    | _ => cases e
theorem Vw.py {d : D} {u : U} (h : Vw κ Λ d u) : py (vw Λ d) = pyU u := by rw [h, py_em]
theorem seq_of {d : D} {u : U} (h : Vw κ Λ d u) {us : List U} (e : seqU u = some us) : seqD Λ d = some (ems κ us) := by
  unfold seqD; rw [h]
  cases u <;> simp only [seqU, Option.some.injEq, reduceCtorEq] at e <;> subst e <;> rfl
theorem items_of {d : D} {u : U} (h : Vw κ Λ d u) {us : List U} (e : itemsL u = some us) : lstD Λ d = some (ems κ us) := by
  unfold lstD; rw [h]
  cases u <;> simp only [itemsL, Option.some.injEq, reduceCtorEq] at e <;> subst e <;> rfl
theorem atI_map' {α β : Type} (f : α → β) (xs : List α) (i : Int) : atI (xs.map f) i = (atI xs i).map f := by
  unfold L2.atI
  rw [List.length_map]
  cases ixN xs.length i with
  | none => rfl
  | some j => simp
theorem atI_ems {us : List U} {i : Int} {u : U} (h : atI us i = some u) : atI (ems κ us) i = some (em κ u) := by
  rw [ems_map, atI_map', h]; rfl
theorem cut_ems (us : List U) (l u : Option Int) : cutD (ems κ us) l u = ems κ (cutU us l u) := by
  unfold cutD cutU; rw [ems_len, ems_map, ems_map, List.map_take, List.map_drop]
theorem uLook_em {us : List U} {k : Key} : ∀ {ks : List Key}, dLook ks (ems κ us) k = (uLook ks us k).map (em κ) := by
  unfold dLook uLook
  induction us with
  | nil => intro ks; cases ks <;> rfl
  | cons u us ih =>
    intro ks
    cases ks with
    | nil => rfl
    | cons a ks =>
      rw [ems]
      simp only [List.zip_cons_cons, List.find?_cons]
      by_cases e : a = k
      · simp [e]
      · simp only [e, decide_false]
        exact ih
theorem key_of {d : D} {u : U} (h : Vw κ Λ d u) {k : Key} (e : keyU u = some k) : keyD d = some k := by
  have : d = em κ u := h.atom (by rintro _ rfl; cases e) (by rintro _ _ rfl; cases e) (by rintro _ _ rfl; cases e)
  subst this
  cases u <;> first | exact e | cases e
theorem sz_line {n : Nat} (h : n < 10000000) : n ≤ sizeLine := Pl.sz_lt h

variable {α : Type} {Q : α → Prop} {Eh : Str → List U → Prop} {x y z : D} {P : D → Prop} {Pb : Bool → Prop}
section two
variable {k : U → M α} {kb : Bool → M α} (a b : U) (hx : Vw κ Λ x a) (hy : Vw κ Λ y b)
include hx hy
theorem addP_m (h : wp ((addM a b).bind k) Q Eh) (i : ∀ z, wp (k z) Q Eh → P (em κ z)) : addP Λ x y P := by
  replace h := wp_bind h
  unfold addP; rw [hx, hy]
  unfold addM at h
  split at h
  · exact i _ h
  · obtain ⟨h1, h2⟩ := wp_sz h
    exact ⟨sz_line h1, i _ h2⟩
  · obtain ⟨h1, h2⟩ := wp_sz h
    refine ⟨?_, ?_⟩
    · simp only [ems_len]; exact sz_line h1
    · have := i _ h2
      simp only [em, ems_app] at this
      exact this
  · obtain ⟨h1, h2⟩ := wp_sz h
    refine ⟨?_, ?_⟩
    · simp only [ems_len]; exact sz_line h1
    · have := i _ h2
      simp only [em, ems_app] at this
      exact this
  · exact h.elim
theorem subP_m (h : wp ((subM a b).bind k) Q Eh) (i : ∀ z, wp (k z) Q Eh → P (em κ z)) : intP (fun _ _ => True) (fun i j => .int (i - j)) x y P := by
  replace h := wp_bind h
  unfold subM at h
  split at h
  · have e1 := hx.atom (by simp) (by simp) (by simp); have e2 := hy.atom (by simp) (by simp) (by simp)
    subst e1; subst e2
    exact ⟨trivial, i _ h⟩
  · exact h.elim
theorem mulP_m (h : wp ((mulM a b).bind k) Q Eh) (i : ∀ z, wp (k z) Q Eh → P (em κ z)) : intP CMul (fun i j => .int (i * j)) x y P := by
  replace h := wp_bind h
  unfold mulM at h
  split at h
  · have e1 := hx.atom (by simp) (by simp) (by simp); have e2 := hy.atom (by simp) (by simp) (by simp)
    subst e1; subst e2
    split at h
    · rename_i hs
      refine ⟨?_, i _ h⟩
      simpa [small, CMul] using hs
    · exact h.elim
  · exact h.elim
theorem fdivP_m (h : wp ((fdivM a b).bind k) Q Eh) (i : ∀ z, wp (k z) Q Eh → P (em κ z)) : intP CDivW (fun i j => .int (i / j)) x y P := by
  replace h := wp_bind h
  unfold fdivM at h
  split at h
  · have e1 := hx.atom (by simp) (by simp) (by simp); have e2 := hy.atom (by simp) (by simp) (by simp)
    subst e1; subst e2
    split at h
    · rename_i i' j' hs
      refine ⟨?_, i _ h⟩
      rw [Bool.and_eq_true, decide_eq_true_eq, decide_eq_true_eq] at hs
      obtain ⟨h1, h2⟩ := hs
      refine ⟨h1, ?_⟩
      have h3 : j'.natAbs < 2 ^ 8999 := by
        have e : ((j'.natAbs : Nat) : Int) = j' := Int.natAbs_of_nonneg (Int.le_of_lt h1)
        generalize hm : (2 : Nat) ^ 8999 = m
        have hm' : (2 : Int) ^ 8999 = (m : Int) := by rw [← hm]; exact (Int.natCast_pow 2 8999).symm
        rw [hm'] at h2
        omega
      have h4 := (Nat.log2_lt (by omega)).mpr h3
      omega
    · exact h.elim
  · exact h.elim
theorem modP_m (h : wp ((modM a b).bind k) Q Eh) (i : ∀ z, wp (k z) Q Eh → P (em κ z)) : intP (fun _ j => 0 < j) (fun i j => .int (i % j)) x y P := by
  replace h := wp_bind h
  unfold modM at h
  split at h
  · have e1 := hx.atom (by simp) (by simp) (by simp); have e2 := hy.atom (by simp) (by simp) (by simp)
    subst e1; subst e2
    split at h
    · exact ⟨by assumption, i _ h⟩
    · exact h.elim
  · exact h.elim
theorem eqP_m (h : wp ((eqM a b).bind kb) Q Eh) (i : ∀ z, wp (kb z) Q Eh → Pb z) : eqP Λ x y Pb := by
  replace h := wp_bind h
  unfold eqM at h
  split at h
  · rename_i hs
    rw [Bool.and_eq_true, Bool.and_eq_true, decide_eq_true_eq] at hs
    obtain ⟨h1, h2, h3⟩ := hs
    have g := i _ h
    unfold eqP
    split
    · have e1 : em κ a = .int _ := hx.symm
      have e2 : em κ b = .int _ := hy.symm
      cases a <;> cases e1; cases b <;> cases e2
      rename_i p q
      have e : PyData.eqv (pyU (.int p)) (pyU (.int q)) = decide (p = q) := by
        simp only [pyU, PyData.eqv]; by_cases c : p = q <;> simp [c]
      rw [e] at g; exact g
    · have e1 : em κ a = .str _ := hx.symm
      have e2 : em κ b = .str _ := hy.symm
      cases a <;> cases e1; cases b <;> cases e2
      rename_i p q
      have e : PyData.eqv (pyU (.str p)) (pyU (.str q)) = decide (p = q) := Law.Sy.strs_eqv p q
      rw [e] at g; exact g
    · have e1 : em κ a = .bl _ := hx.symm
      have e2 : em κ b = .bl _ := hy.symm
      cases a <;> cases e1; cases b <;> cases e2
      rename_i p q
      have e : PyData.eqv (pyU (.bl p)) (pyU (.bl q)) = decide (p = q) := bl_eqv p q
      rw [e] at g; exact g
    · rw [hx.py, hy.py]
      exact ⟨h1, h2, h3, g⟩
  · exact h.elim
theorem ltP_m (h : wp ((ltM a b).bind kb) Q Eh) (i : ∀ z, wp (kb z) Q Eh → Pb z) : ltP x y Pb := by
  replace h := wp_bind h
  unfold ltM at h
  split at h
  · have e1 := hx.atom (by simp) (by simp) (by simp); have e2 := hy.atom (by simp) (by simp) (by simp)
    subst e1; subst e2
    exact i _ h
  · have e1 := hx.atom (by simp) (by simp) (by simp); have e2 := hy.atom (by simp) (by simp) (by simp)
    subst e1; subst e2
    exact ⟨rfl, i _ h⟩
  · exact h.elim
theorem gtP_m (h : wp ((gtM a b).bind kb) Q Eh) (i : ∀ z, wp (kb z) Q Eh → Pb z) : gtP x y Pb := by
  replace h := wp_bind h
  unfold gtM at h
  split at h
  · have e1 := hx.atom (by simp) (by simp) (by simp); have e2 := hy.atom (by simp) (by simp) (by simp)
    subst e1; subst e2
    exact i _ h
  · exact h.elim
theorem inP_m (h : wp ((inM a b).bind kb) Q Eh) (i : ∀ z, wp (kb z) Q Eh → Pb z) : inP Λ x y Pb := by
  replace h := wp_bind h
  unfold inM at h
  split at h
  · split at h
    · have e1 := hx.atom (by simp) (by simp) (by simp)
      subst e1
      unfold inP; rw [hy]
      exact ⟨_, rfl, i _ h⟩
    · exact h.elim
  · split at h
    · rename_i c e
      unfold inP; rw [hy]
      refine ⟨c, key_of hx e, ?_⟩
      have g := i _ h
      rw [uLook_em, Option.isSome_map]
      exact g
    · exact h.elim
  · split at h
    · rename_i us e
      split at h
      · rename_i hs
        rw [Bool.and_eq_true, Bool.and_eq_true, decide_eq_true_eq] at hs
        obtain ⟨h1, h2, h3⟩ := hs
        refine inP_seq (seq_of hy e) ?_ ?_ ?_ ?_
        · rw [pys_ems]; exact h1
        · rw [hx.py]; exact h2
        · rw [hx.py, pys_ems]; exact h3
        · rw [hx.py, pys_ems]
          have g := i _ h
          rw [pyUs_map, List.any_map]
          exact g
      · exact h.elim
    · exact h.elim
theorem ixP_m (h : wp ((ixM a b).bind k) Q Eh) (i : ∀ z, wp (k z) Q Eh → P (em κ z)) : ixP Λ x y P := by
  replace h := wp_bind h
  unfold ixM at h
  split at h
  · have e1 := hx.atom (by simp) (by simp) (by simp); have e2 := hy.atom (by simp) (by simp) (by simp)
    subst e1; subst e2
    split at h
    · split at h
      · rename_i c hc hl
        exact ixP_str hl hc (i _ h)
      · exact h.elim
    · exact h.elim
  · have e2 := hy.atom (by simp) (by simp) (by simp)
    subst e2
    split at h
    · rename_i us e
      split at h
      · rename_i u hu
        exact ixP_seq (seq_of hx e) (atI_ems hu) (i _ h)
      · exact h.elim
    · exact h.elim
  · exact h.elim
/-- d[k] -/
theorem ixdP_m (h : wp ((ixdM a b).bind k) Q Eh) (i : ∀ z, wp (k z) Q Eh → P (em κ z)) : ∃ ks ds c d, vw Λ x = .dic ks ds ∧ keyD y = some c ∧ dLook ks ds c = some d ∧ P d := by
  replace h := wp_bind h
  unfold ixdM at h
  split at h
  · split at h
    · rename_i c hc
      split at h
      · rename_i u hu
        exact ⟨_, _, c, _, hx, key_of hy hc, by rw [uLook_em, hu]; rfl, i _ h⟩
      · exact h.elim
    · exact h.elim
  · exact h.elim
theorem isP_m (h : wp ((isM a b).bind kb) Q Eh) (i : ∀ z, wp (kb z) Q Eh → Pb z) : isP x y Pb := by
  replace h := wp_bind h
  have hy' : b = .non ∨ (∃ c, b = .bl c) → y = em κ b := fun e => by rcases e with rfl | ⟨c, rfl⟩ <;> exact hy.atom (by simp) (by simp) (by simp)
  unfold isM at h
  split at h
  · have e2 := hy' (.inl rfl)
    subst e2
    have g := i _ h
    refine ⟨isNone a, ?_, g⟩
    have hv : vw Λ x = em κ a := hx
    by_cases hl : ∃ n, x = .loc n
    · obtain ⟨n, rfl⟩ := hl
      cases a with
      | non => exact absurd (hx.atom (by simp) (by simp) (by simp)) (by simp [em])
      | _ => rfl
    · have : x = em κ a := by
        cases x <;> first | exact absurd ⟨_, rfl⟩ hl | exact hv
      subst this
      cases a <;> rfl
  · have e2 := hy' (.inr ⟨_, rfl⟩)
    have e1 := hx.atom (by simp) (by simp) (by simp)
    subst e1; subst e2
    exact ⟨_, rfl, i _ h⟩
  · exact h.elim
end two
section one
variable {k : U → M α} {kb : Bool → M α} {kl : List U → M α} {ko : Option Int → M α} {Pl' : List D → Prop} (a : U) (hx : Vw κ Λ x a)
include hx
theorem negP_m (h : wp ((negM a).bind k) Q Eh) (i : ∀ z, wp (k z) Q Eh → P (em κ z)) : ∃ j, x = .int j ∧ P (.int (-j)) := by
  replace h := wp_bind h
  unfold negM at h
  split at h
  · exact ⟨_, hx.atom (by simp) (by simp) (by simp), i _ h⟩
  · exact h.elim
theorem boolP_m (h : wp ((boolM a).bind kb) Q Eh) (i : ∀ z, wp (kb z) Q Eh → Pb z) : boolP x Pb := by
  replace h := wp_bind h
  unfold boolM at h
  split at h
  · have e1 := hx.atom (by simp) (by simp) (by simp)
    subst e1
    exact i _ h
  · exact h.elim
theorem endP_m {Po : Option Int → Prop} (h : wp ((endM a).bind ko) Q Eh) (i : ∀ z, wp (ko z) Q Eh → Po z) : ∃ j, x = .int j ∧ Po (some j) := by
  replace h := wp_bind h
  unfold endM at h
  split at h
  · exact ⟨_, hx.atom (by simp) (by simp) (by simp), i _ h⟩
  · exact h.elim
theorem slP_m {l u : Option Int} (h : wp ((slM a l u).bind k) Q Eh) (i : ∀ z, wp (k z) Q Eh → P (em κ z)) : slP Λ x l u P := by
  replace h := wp_bind h
  unfold slM at h
  split at h
  · have e1 := hx.atom (by simp) (by simp) (by simp)
    subst e1
    split at h
    · rename_i hl
      exact slP_str hl (i _ h)
    · exact h.elim
  · have e1 := hx.atom (by simp) (by simp) (by simp)
    subst e1
    refine slP_tup rfl ?_
    rw [cut_ems]; exact i _ h
  · refine slP_lst (items_of hx rfl) ?_
    rw [cut_ems]; exact i _ h
  · refine slP_lst (items_of hx rfl) ?_
    rw [cut_ems]; exact i _ h
  · exact h.elim
theorem lenP_m (h : wp ((lenM a).bind k) Q Eh) (i : ∀ z, wp (k z) Q Eh → P (em κ z)) : lenP Λ x fun n => P (.int n) := by
  replace h := wp_bind h
  unfold lenM at h
  split at h
  · have e1 := hx.atom (by simp) (by simp) (by simp)
    subst e1
    split at h
    · rename_i hl
      exact lenP_str hl (i _ h)
    · exact h.elim
  · split at h
    · rename_i us e
      refine lenP_seq (seq_of hx e) ?_
      rw [ems_len]; exact i _ h
    · exact h.elim
theorem ty_of {t : String} (e : tyU a = some t) : tyD Λ x = some t := by
  unfold tyD; rw [hx]
  cases a <;> first | exact e | cases e
theorem isiP_m {T : String} (h : wp ((isiM a T).bind k) Q Eh) (i : ∀ z, wp (k z) Q Eh → P (em κ z)) : ∃ t b, tyD Λ x = some t ∧ isiB t T = some b ∧ P (.bl b) := by
  replace h := wp_bind h
  unfold isiM at h
  split at h
  · rename_i t e
    split at h
    · rename_i b e2
      exact ⟨t, b, ty_of a hx e, e2, i _ h⟩
    · exact h.elim
  · exact h.elim
theorem rng1P_m (h : wp ((range1M a).bind kl) Q Eh) (i : ∀ z, wp (kl z) Q Eh → Pl' (ems κ z)) : ∃ n : Int, x = .int n ∧ -(2 ^ 62) ≤ n ∧ n < 2 ^ 62 ∧ Pl' (rangeD 0 n.toNat) := by
  replace h := wp_bind h
  unfold range1M at h
  split at h
  · split at h
    · rename_i hs
      rw [Bool.and_eq_true, decide_eq_true_eq, decide_eq_true_eq] at hs
      refine ⟨_, hx.atom (by simp) (by simp) (by simp), hs.1, hs.2, ?_⟩
      have g := i _ h
      have e : ∀ lo n, ems κ (rangeU lo n) = rangeD lo n := fun lo n => by unfold rangeU rangeD; rw [ems_map, List.map_map]; rfl
      rw [e] at g; exact g
    · exact h.elim
  · exact h.elim
omit hx
end one
/-- a decided test -/
theorem ite_m {A B : Prop} {c : Bool} {m m' : M α} (h : wp (if c = true then m else m') Q Eh) (h1 : wp m Q Eh → A) (h2 : wp m' Q Eh → B) : if c = true then A else B := by
  cases c
  · rw [if_neg (by simp)] at h ⊢; exact h2 h
  · rw [if_pos rfl] at h ⊢; exact h1 h
end
end Sh

/-! Sh3: calls, loops, comprehensions, joins, defs in the pure reading. -/
namespace Sh
open PySem L2 Pl
/-- a refusal -/
def errD (κ : Kl) (c : Str) (us : List U) : Err := ⟨.ref (κ.ad c), match κ.fs c with
  | [] => none
  | ns => some (ns, ems κ us)⟩
/-- each refusal that is reckoned with is wished -/
def EI (κ : Kl) (Eh : Str → List U → Prop) (E : ER) : Prop := ∀ c us Γ Λ, Eh c us → E (errD κ c us) Γ Λ
theorem EI.no {κ : Kl} {E : ER} : EI κ no E := fun _ _ _ _ h => h.elim
theorem nlE_errD {κ : Kl} {c : Str} {us : List U} : nlE (errD κ c us) = true := by
  unfold nlE errD
  dsimp only
  cases κ.fs c with
  | nil => rfl
  | cons a b => exact nls_em us
/-! ### what defs promise -/
/-- a def of pure data: a value -/
def spV (κ : Kl) (n : Nat) (f : List U → M U) : Pl.Spec := fun ds Λ Q E => Λ = [] ∧ ∃ us, ds = ems κ us ∧ us.length = n ∧ wp (f us) (fun z => Q (.val (em κ z)) []) (fun c es => E (errD κ c es) [])
section
variable {κ : Kl} {n : Nat}
theorem spV_mono {f : List U → M U} : Mono (spV κ n f) := fun ds Λ Q Q' E E' ⟨h0, us, h1, h2, h3⟩ i j => ⟨h0, us, h1, h2, wp_mono h3 (fun z h => i _ _ h) fun c es h => j _ _ h⟩
variable {C : Pl.Ctx} {E : ER} {Γ : Pl.Env} {Λ : Cells} {pos p : Pos} {α : Type} {Q : α → Prop} {Eh : Str → List U → Prop}
/-- f(e, ..): a value -/
theorem we_callV [Cool C] {k : Nat} {x : Str} {e : Expr} {es : List Expr} {P : D → Cells → Prop} {f : List U → M U} (G : C.fn k x n (spV κ n f)) (hk : k ≤ C.k) (hj : GlAt C x)
    (h : WA C E Γ Λ (e :: es) fun ds Λ1 => ∃ us, ds = ems κ us ∧ us.length = n ∧ wp (f us) (fun z => P (em κ z) Λ1) (fun c es => E (errD κ c es) Γ Λ1))
    (he : plainE e = true := by rfl) (hes : es.all plainE = true := by rfl) (hdb : (x == ("__debug__" : Str)) = false := by decide) : WE C E Γ Λ (.Call (.Name x p) (e :: es) [] pos) P :=
  we_call G hk hj spV_mono (wa_mono h fun ds Λ1 ⟨us, h1, h2, h3⟩ => by
    subst h1
    exact ⟨nls_em us, by rw [ems_len]; exact h2, rfl, us, rfl, h2, wp_mono h3 (fun z h => ⟨rfl, _, rfl, h⟩) fun c es h => ⟨rfl, h⟩⟩) he hes hdb
/-! ### cells -/
theorem popP_m {n : Nat} {Λ : Cells} {us : List U} {k : U × List U → M α} {P : D → Cells → Prop} (hn : Λ[n]? = some (.lst (ems κ us))) (h : wp ((popM us).bind k) Q Eh) (i : ∀ z vs, wp (k (z, vs)) Q Eh → P (em κ z) (Λ.set n (.lst (ems κ vs)))) : ∃ m ds d, D.loc n = .loc m ∧ Λ[m]? = some (.lst ds) ∧ ds.getLast? = some d ∧ P d (Λ.set m (.lst ds.dropLast)) := by
  replace h := wp_bind h
  unfold popM at h
  split at h
  · rename_i x e
    refine ⟨n, _, em κ x, rfl, hn, by rw [ems_map, List.getLast?_map, e]; rfl, ?_⟩
    have := i _ _ h
    rw [ems_map, List.map_dropLast, ← ems_map] at this; exact this
  · exact h.elim
theorem extP_m {n : Nat} {Λ : Cells} {us : List U} {y : D} {k : List U → M α} {P : D → Cells → Prop} (u : U) (hy : Vw κ Λ y u) (hn : Λ[n]? = some (.lst (ems κ us))) (h : wp ((extM us u).bind k) Q Eh) (i : ∀ z, wp (k z) Q Eh → P .non (Λ.set n (.lst (ems κ z)))) : ∃ ds zs, Λ[n]? = some (.lst ds) ∧ vw Λ y = .lst zs ∧ ds.length + zs.length ≤ sizeLine ∧ P .non (Λ.set n (.lst (ds ++ zs))) := by
  replace h := wp_bind h
  unfold extM at h
  split at h
  · obtain ⟨h1, h2⟩ := wp_sz h
    refine ⟨_, _, hn, hy, by rw [ems_len, ems_len]; exact sz_line h1, ?_⟩
    have := i _ h2
    rw [ems_app] at this; exact this
  · exact h.elim
theorem setP_m {n : Nat} {Λ : Cells} {us : List U} {y : D} {k : List U → M α} {P : Cells → Prop} (j u : U) (hy : Vw κ Λ y j) (hn : Λ[n]? = some (.lst (ems κ us))) (h : wp ((setM us j u).bind k) Q Eh) (i : ∀ z, wp (k z) Q Eh → P (Λ.set n (.lst (ems κ z)))) : ∃ m ds k j, D.loc n = .loc m ∧ y = .int k ∧ Λ[m]? = some (.lst ds) ∧ ixN ds.length k = some j ∧ P (Λ.set m (.lst (ds.set j (em κ u)))) := by
  replace h := wp_bind h
  unfold setM at h
  split at h
  · split at h
    · rename_i q w e
      refine ⟨n, _, _, _, rfl, hy.atom (by simp) (by simp) (by simp), hn, by rw [ems_len]; exact e, ?_⟩
      have := i _ h
      rw [ems_map, List.map_set, ← ems_map] at this; exact this
    · exact h.elim
  · exact h.elim
/-! ### tests and values that join -/
theorem wt_cutM {e : Expr} {m : M Bool} {k : Bool → M α} {P : Bool → Cells → Prop} (h : wp (m.bind k) Q Eh) (h1 : ∀ Q', wp m Q' Eh → WT C E Γ Λ e fun b Λ' => Λ' = Λ ∧ Q' b) (h2 : ∀ b, wp (k b) Q Eh → P b Λ) : WT C E Γ Λ e P :=
  wt_mono (h1 _ (wp_bind h)) fun b Λ' ⟨e, q⟩ => by subst e; exact h2 b q
theorem we_cutM {e : Expr} {m : M U} {k : U → M α} {P : D → Cells → Prop} (h : wp (m.bind k) Q Eh) (h1 : ∀ Q', wp m Q' Eh → WE C E Γ Λ e fun d Λ' => Λ' = Λ ∧ ∃ z, d = em κ z ∧ Q' z) (h2 : ∀ z, wp (k z) Q Eh → P (em κ z) Λ) : WE C E Γ Λ e P :=
  we_mono (h1 _ (wp_bind h)) fun d Λ' ⟨e, z, e2, q⟩ => by subst e; subst e2; exact h2 z q
variable {Γ : Pl.Env} {R : Rs}
/-- behind a statement the state is of a shape -/
theorem ws_cutM {σ : Type} (sh : σ → Pl.Env → Cells → Prop) {s : Stmt} {m : M σ} {k : σ → M α} (h : wp (m.bind k) Q Eh) (h1 : ∀ Q', wp m Q' Eh → WS C Γ Λ s { R with nx := fun Γ Λ => ∃ st, sh st Γ Λ ∧ Q' st }) (h2 : ∀ st Γ Λ, sh st Γ Λ → wp (k st) Q Eh → R.nx Γ Λ) : WS C Γ Λ s R :=
  ws_mono (h1 _ (wp_bind h)) ⟨fun Γ Λ ⟨st, a, b⟩ => h2 st Γ Λ a b, fun _ _ z => z, fun _ _ z => z, fun _ _ z => z, fun _ _ _ z => z⟩
/-- .. or the statement has ended the block: c tells how -/
theorem ws_cutC {σ ρ : Type} (sh : σ → Pl.Env → Cells → Prop) (rt : ρ → Res → Cells → Prop) {s : Stmt} {m : M (Ct σ ρ)} {k : Ct σ ρ → M α} (h : wp (m.bind k) Q Eh)
    (h1 : ∀ Q', wp m Q' Eh → WS C Γ Λ s { R with nx := fun Γ Λ => ∃ st, sh st Γ Λ ∧ Q' (.nx st), bk := fun Γ Λ => ∃ st, sh st Γ Λ ∧ Q' (.bk st), rt := fun r Λ => ∃ c, rt c r Λ ∧ Q' (.rt c) })
    (h2 : ∀ st Γ Λ, sh st Γ Λ → wp (k (.nx st)) Q Eh → R.nx Γ Λ) (h3 : ∀ st Γ Λ, sh st Γ Λ → wp (k (.bk st)) Q Eh → R.bk Γ Λ) (h4 : ∀ c r Λ, rt c r Λ → wp (k (.rt c)) Q Eh → R.rt r Λ) : WS C Γ Λ s R :=
  ws_mono (h1 _ (wp_bind h)) ⟨fun Γ Λ ⟨st, a, b⟩ => h2 st Γ Λ a b, fun r Λ ⟨c, a, b⟩ => h4 c r Λ a b, fun Γ Λ ⟨st, a, b⟩ => h3 st Γ Λ a b, fun _ _ z => z, fun _ _ _ z => z⟩
/-! ### loops -/
variable {tg : Expr} {ws : List Nat} {body : List Stmt}
theorem loopN {σ : Type} (sh : σ → Pl.Env → Cells → Prop) (f : σ → U → M σ)
    (hb : ∀ st x Γ Λ Q', sh st Γ Λ → wp (f st x) Q' Eh → WG C Γ Λ tg (em κ x) ws fun Γ' => WSs C Γ' Λ body { R with nx := fun Γ Λ => ∃ st, sh st Γ Λ ∧ Q' st, ct := fun Γ Λ => ∃ st, sh st Γ Λ ∧ Q' st, bk := fun _ _ => False }) :
    ∀ (xs : List U) (st : σ) (Γ : Pl.Env) (Λ : Cells), sh st Γ Λ → wp (forN f xs st) (fun st => ∀ Γ Λ, sh st Γ Λ → R.nx Γ Λ) Eh → LoopP C tg ws body R (ems κ xs) Γ Λ
  | [], st, Γ, Λ, hs, h => h Γ Λ hs
  | x :: xs, st, Γ, Λ, hs, h => by
    replace h := wp_bind h
    refine wg_mono (hb st x Γ Λ _ hs h) fun Γ' h' => ?_
    exact wss_mono h' ⟨fun Γ Λ ⟨st, a, b⟩ => loopN sh f hb xs st Γ Λ a b, fun _ _ z => z, fun _ _ z => z.elim, fun Γ Λ ⟨st, a, b⟩ => loopN sh f hb xs st Γ Λ a b, fun _ _ _ z => z⟩
theorem loopC {σ ρ : Type} (sh : σ → Pl.Env → Cells → Prop) (rt : ρ → Res → Cells → Prop) (f : σ → U → M (Ct σ ρ))
    (hb : ∀ st x Γ Λ Q', sh st Γ Λ → wp (f st x) Q' Eh → WG C Γ Λ tg (em κ x) ws fun Γ' => WSs C Γ' Λ body { R with nx := fun Γ Λ => ∃ st, sh st Γ Λ ∧ Q' (.nx st), ct := fun Γ Λ => ∃ st, sh st Γ Λ ∧ Q' (.nx st), bk := fun Γ Λ => ∃ st, sh st Γ Λ ∧ Q' (.bk st), rt := fun r Λ => ∃ c, rt c r Λ ∧ Q' (.rt c) }) :
    ∀ (xs : List U) (st : σ) (Γ : Pl.Env) (Λ : Cells), sh st Γ Λ → wp (forC f xs st) (fun c => match c with | .nx st => ∀ Γ Λ, sh st Γ Λ → R.nx Γ Λ | .bk _ => True | .rt c => ∀ r Λ, rt c r Λ → R.rt r Λ) Eh → LoopP C tg ws body R (ems κ xs) Γ Λ
  | [], st, Γ, Λ, hs, h => h Γ Λ hs
  | x :: xs, st, Γ, Λ, hs, h => by
    replace h := wp_bind h
    refine wg_mono (hb st x Γ Λ _ hs h) fun Γ' h' => ?_
    exact wss_mono h' ⟨fun Γ Λ ⟨st, a, b⟩ => loopC sh rt f hb xs st Γ Λ a b, fun r Λ ⟨c, a, b⟩ => b r Λ a, fun Γ Λ ⟨st, a, b⟩ => b Γ Λ a, fun Γ Λ ⟨st, a, b⟩ => loopC sh rt f hb xs st Γ Λ a b, fun _ _ _ z => z⟩
/-- a for as a whole -/
theorem loopN_m {σ : Type} (sh : σ → Pl.Env → Cells → Prop) {f : σ → U → M σ} {xs : List U} {st : σ} {k : σ → M α} (h : wp ((forN f xs st).bind k) Q Eh) (hs : sh st Γ Λ)
    (hb : ∀ st x Γ Λ Q', sh st Γ Λ → wp (f st x) Q' Eh → WG C Γ Λ tg (em κ x) ws fun Γ' => WSs C Γ' Λ body { R with nx := fun Γ Λ => ∃ st, sh st Γ Λ ∧ Q' st, ct := fun Γ Λ => ∃ st, sh st Γ Λ ∧ Q' st, bk := fun _ _ => False })
    (h2 : ∀ st Γ Λ, sh st Γ Λ → wp (k st) Q Eh → R.nx Γ Λ) : LoopP C tg ws body R (ems κ xs) Γ Λ :=
  loopN sh f hb xs st Γ Λ hs (wp_mono (wp_bind h) (fun st h Γ Λ hs => h2 st Γ Λ hs h) fun _ _ h => h)
theorem loopC_m {σ ρ : Type} (sh : σ → Pl.Env → Cells → Prop) (rt : ρ → Res → Cells → Prop) {f : σ → U → M (Ct σ ρ)} {xs : List U} {st : σ} {k : Ct σ ρ → M α} (h : wp ((forC f xs st).bind k) Q Eh) (hs : sh st Γ Λ)
    (hb : ∀ st x Γ Λ Q', sh st Γ Λ → wp (f st x) Q' Eh → WG C Γ Λ tg (em κ x) ws fun Γ' => WSs C Γ' Λ body { R with nx := fun Γ Λ => ∃ st, sh st Γ Λ ∧ Q' (.nx st), ct := fun Γ Λ => ∃ st, sh st Γ Λ ∧ Q' (.nx st), bk := fun Γ Λ => ∃ st, sh st Γ Λ ∧ Q' (.bk st), rt := fun r Λ => ∃ c, rt c r Λ ∧ Q' (.rt c) })
    (h2 : ∀ st Γ Λ, sh st Γ Λ → wp (k (.nx st)) Q Eh → R.nx Γ Λ) (h4 : ∀ c r Λ, rt c r Λ → wp (k (.rt c)) Q Eh → R.rt r Λ) : LoopP C tg ws body R (ems κ xs) Γ Λ := by
  refine loopC sh rt f hb xs st Γ Λ hs (wp_mono (wp_bind h) (fun c h => ?_) fun _ _ h => h)
  cases c with
  | nx st => exact fun Γ Λ hs => h2 st Γ Λ hs h
  | bk st => trivial
  | rt c => exact fun r Λ hr => h4 c r Λ hr h
/-- while -/
theorem whN_m {σ : Type} (sh : σ → Pl.Env → Cells → Prop) {c : Expr} {cM : σ → M Bool} {f : σ → M σ} {n : Nat} {st : σ} {k : σ → M α} {pos : Pos} (h : wp ((whN cM f n st).bind k) Q Eh) (hs : sh st Γ Λ)
    (hc : ∀ st Γ Λ Q', sh st Γ Λ → wp (cM st) Q' Eh → WT C R.er Γ Λ c fun b Λ' => Λ' = Λ ∧ Q' b)
    (hb : ∀ st Γ Λ Q', sh st Γ Λ → wp (f st) Q' Eh → WSs C Γ Λ body { R with nx := fun Γ Λ => ∃ st, sh st Γ Λ ∧ Q' st, ct := fun Γ Λ => ∃ st, sh st Γ Λ ∧ Q' st, bk := fun _ _ => False })
    (h2 : ∀ st Γ Λ, sh st Γ Λ → wp (k st) Q Eh → R.nx Γ Λ) : WS C Γ Λ (.While c body [] pos) R := by
  refine ws_while (fun m Γ Λ => ∃ st, sh st Γ Λ ∧ wp (whN cM f m st) (fun st => wp (k st) Q Eh) Eh) ⟨n, st, hs, wp_bind h⟩ fun m Γ Λ ⟨st, hs, h⟩ => ?_
  cases m with
  | zero => exact h.elim
  | succ m =>
    replace h := wp_bind h
    refine wt_mono (hc st Γ Λ _ hs h) fun b Λ' ⟨e, h⟩ => ?_
    subst e
    refine ite_m h (fun h => ?_) fun h => h2 st Γ Λ' hs h
    replace h := wp_bind h
    exact wss_mono (hb st Γ Λ' _ hs h) ⟨fun Γ Λ ⟨st, a, b⟩ => ⟨m, Nat.lt_succ_self m, st, a, b⟩, fun _ _ z => z, fun _ _ z => z.elim, fun Γ Λ ⟨st, a, b⟩ => ⟨m, Nat.lt_succ_self m, st, a, b⟩, fun _ _ _ z => z⟩
/-! ### comprehensions -/
theorem comp_cp {f : U → M U} {elt : Expr} {P : List D → Prop} (hb : ∀ x Q', wp (f x) Q' no → WG C Γ Λ tg (em κ x) ws fun Γ' => WE C ER.none Γ' Λ elt fun d Λ' => Λ' = Λ ∧ ∃ z, d = em κ z ∧ Q' z) :
    ∀ (xs : List U) (acc : List D), acc.length + xs.length < 10000000 → wp (mapC f xs) (fun zs => P (acc ++ ems κ zs)) no → CompP C Γ Λ tg ws [] elt P (ems κ xs) acc
  | [], acc, hm, h => by
    have h : P (acc ++ []) := h
    rw [List.append_nil] at h; exact h
  | x :: xs, acc, hm, h => by
    rw [List.length_cons] at hm
    refine ⟨by omega, wg_mono (hb x _ (wp_calm (wp_bind h))) fun Γ' h' => we_mono h' fun d Λ' ⟨e, z, e2, q⟩ => ⟨e, ?_⟩⟩
    subst e2
    refine comp_cp hb xs _ (by simp; omega) (wp_mono (wp_bind q) (fun zs q => ?_) fun _ _ h => h)
    have q : P (acc ++ (em κ z :: ems κ zs)) := q
    rw [List.append_assoc]; exact q
end
section
variable {κ : Kl} {C : Pl.Ctx} {Γ : Pl.Env} {Λ : Cells} {α : Type} {Q : α → Prop} {Eh : Str → List U → Prop} {tg : Expr} {ws : List Nat}
/-- a comprehension as a whole -/
theorem comp_m {f : U → M U} {elt : Expr} {P : List D → Prop} {xs : List U} {k : List U → M α} (h : wp ((compM f xs).bind k) Q Eh)
    (hb : ∀ x Q', wp (f x) Q' no → WG C Γ Λ tg (em κ x) ws fun Γ' => WE C ER.none Γ' Λ elt fun d Λ' => Λ' = Λ ∧ ∃ z, d = em κ z ∧ Q' z) (i : ∀ zs, wp (k zs) Q Eh → P (ems κ zs)) : CompP C Γ Λ tg ws [] elt P (ems κ xs) [] := by
  obtain ⟨h1, h2⟩ := wp_sz (wp_bind h)
  refine comp_cp hb xs [] (by simpa using h1) ?_
  have key : ∀ xs : List U, ∀ c us, mapC f xs ≠ .err c us := by
    intro xs
    induction xs with
    | nil => intro c us e; cases e
    | cons x xs ih =>
      intro c us e
      unfold mapC at e
      cases e1 : f x <;> rw [e1] at e <;> try cases e
      cases e2 : mapC f xs <;> rw [e2] at e <;> try cases e
      exact ih _ _ e2
  cases e : mapC f xs with
  | stuck => rw [e] at h2; exact h2.elim
  | err c us => exact absurd e (key _ _ _)
  | ok a => rw [e] at h2; exact i a h2
end
/-! ### defs -/
section
variable {κ : Kl} {G : Gl}
theorem fn_none {x : Str} {st : Stmt} {ps : List Str} {S : Pl.Spec} {qn : Str} (h : DefAt G.K G.mg x st ps qn) {k : Nat} (hn : ∀ ds Λ Q E, ¬ S ds Λ Q E) : G.fn k x ps.length S := h.none hn
theorem spV_none {n : Nat} {f : List U → M U} (hf : ∀ us, f us = .stuck) (ds : List D) (Λ : Cells) (Q : Res → Cells → Prop) (E : Err → Cells → Prop) : ¬ spV κ n f ds Λ Q E := fun ⟨_, us, _, _, h⟩ => by rw [hf] at h; exact h
/-- the refusals that a def may leave with -/
def erM (κ : Kl) (Eh : Str → List U → Prop) : ER := fun e _ _ => ∃ c us, e = errD κ c us ∧ Eh c us
theorem EI.erM {Eh : Str → List U → Prop} : EI κ Eh (erM κ Eh) := fun c us _ _ h => ⟨c, us, rfl, h⟩
/-- what a def's body is to reach: a value -/
def rtV (κ : Kl) (Q : U → Prop) (r : Res) (Λ : Cells) : Prop := (∃ u, r = .val (em κ u) ∧ Q u) ∨ (∃ n ks us, r = .val (.loc n) ∧ Λ[n]? = some (.dic ks (ems κ us)) ∧ Q (.dic ks us))
theorem def_V {x : Str} {st : Stmt} {ps : List Str} {qn : Str} (h : DefAt G.K G.mg x st ps qn) {N : List Str} {vs ls : List Bool} {gl : List Str} {k : Nat} {f : List U → M U} (sc : FnScope N ps (defScope st)) (good : goodC N (defScope st) vs ls gl = true)
    (hb : ∀ us, us.length = ps.length → ∀ Q Eh, wp (f us) Q Eh → WSs (G.cx N (defScope st) vs ls gl k 0) (Γ0 N (ems κ us)) [] (defBody st) ⟨fun _ _ => Q .non, rtV κ Q, fun _ _ => False, fun _ _ => False, erM κ Eh⟩) : G.fn (k + 1) x ps.length (spV κ ps.length f) :=
  def_okC (m := 0) h sc good (fun ds Λ Q E ⟨h, _⟩ => by subst h; exact Nat.le_refl _) fun ds Λ Q E hl ⟨h0, us, h1, h2, h3⟩ => by
    subst h0; subst h1
    refine wss_mono (hb us h2 _ _ h3) ⟨fun Γ Λ p => ?_, fun r Λ p => ?_, fun _ _ z => z, fun _ _ z => z, fun e Γ Λ p => ?_⟩
    · exact ⟨0, Nat.le_refl _, rfl, .inl ⟨rfl, p⟩⟩
    · rcases p with ⟨u, rfl, q⟩ | ⟨n, ks, us, rfl, q1, q2⟩
      · exact ⟨0, Nat.le_refl _, rfl, .inl ⟨ltD_nl _ (nl_em u), q⟩⟩
      · exact ⟨0, Nat.le_refl _, rfl, .inr (.inr ⟨n, ks, _, Nat.zero_le _, rfl, q1, nls_em us, q2⟩)⟩
    · obtain ⟨c, es, rfl, q⟩ := p
      exact ⟨nlE_errD, rfl, q⟩
/-- the law's own def -/
theorem law_M {x p : Str} {st : Stmt} {N : List Str} {vs ls : List Bool} {gl : List Str} {k n : Nat} {f : Addr} {fd : FuncData} {m : List U → M U} (F : Fun G.K x x st f fd) (sc : FnScope N [p] (defScope st)) (good : goodC N (defScope st) vs ls gl = true)
    (hb : ∀ us, us.length = 1 → ∀ Q Eh, wp (m us) Q Eh → WSs (G.cx N (defScope st) vs ls gl k 0) (Γ0 N (ems κ us)) [] (defBody st) ⟨fun _ _ => Q .non, rtV κ Q, fun _ _ => False, fun _ _ => False, erM κ Eh⟩)
    (hm : ∀ ns : List Int, ns.length ≤ n → m [.fzl (ns.map .int)] = .ok (.bl true)) : FnG G.P G.w G.K G.mg G.base (L2.CX G.P G.w) (k + 1) f fd [p] (spOf G.K 1 (lawSpec n)) :=
  law_ok F sc good fun ns hl => by
    have e : [em κ (.fzl (ns.map .int))] = [D.fzl (ns.map .int)] := by rw [em, ems_map, List.map_map]; rfl
    have := hb [.fzl (ns.map .int)] rfl (fun u => u = .bl true) no (by rw [hm ns hl]; exact rfl)
    have e2 : ems κ [.fzl (ns.map .int)] = [D.fzl (ns.map .int)] := e
    rw [e2] at this
    refine wss_mono this ⟨fun Γ Λ p => (by cases p), fun r Λ p => ?_, fun _ _ z => z, fun _ _ z => z, fun e Γ Λ p => ?_⟩
    · rcases p with ⟨u, rfl, rfl⟩ | ⟨n, ks, us, rfl, q1, q2⟩
      · rfl
      · cases q2
    · obtain ⟨c, es, rfl, q⟩ := p
      exact q
end
end Sh

/-! Sh4: the rules of expressions, in the pure reading. -/
namespace Sh
open PySem L2 Pl PyProof.Rows
abbrev Tr : Str → List U → Prop := fun _ _ => True
theorem wp_ret {α : Type} {m : M α} {P : α → Prop} {E : Str → List U → Prop} (h : wp m P E) : wp (m.bind .ok) P E := by cases m <;> exact h
section
variable {κ : Kl} {Λ : Cells} {α β : Type} {Q : α → Prop} {Eh : Str → List U → Prop} {x y : D}
theorem fin0 {m : M β} {k : β → M α} {P : β → Prop} (h : wp (m.bind k) Q Eh) (i : ∀ z, wp (k z) Q Eh → P z) : wp m P Tr := wp_mono (wp_bind h) i fun _ _ _ => trivial
theorem fin1 {f : U → M β} {k : β → M α} {P : β → Prop} (u : U) (hx : Vw κ Λ x u) (h : wp ((f u).bind k) Q Eh) (i : ∀ z, wp (k z) Q Eh → P z) : ∃ u, Vw κ Λ x u ∧ wp (f u) P Tr := ⟨u, hx, fin0 h i⟩
/-- the arguments of a call -/
theorem finF {β : Type} {n : Nat} {f : List U → M β} {E : ER} {Γ : Pl.Env} {ds : List D} {k : β → M α} {P : β → Prop} (us : List U) (hd : ds = ems κ us) (hn : us.length = n) (hE : EI κ Eh E) (h : wp ((f us).bind k) Q Eh) (i : ∀ z, wp (k z) Q Eh → P z) : ∃ us, ds = ems κ us ∧ us.length = n ∧ wp (f us) P (fun c es => E (errD κ c es) Γ Λ) :=
  ⟨us, hd, hn, wp_mono (wp_bind h) i fun c es h => hE _ _ _ _ h⟩
theorem fin2 {f : U → U → M β} {k : β → M α} {P : β → Prop} (u v : U) (hx : Vw κ Λ x u) (hy : Vw κ Λ y v) (h : wp ((f u v).bind k) Q Eh) (i : ∀ z, wp (k z) Q Eh → P z) : ∃ u v, Vw κ Λ x u ∧ Vw κ Λ y v ∧ wp (f u v) P Tr := ⟨u, v, hx, hy, fin0 h i⟩
end
section
variable {κ : Kl} {C : Pl.Ctx} {E : ER} {Γ : Pl.Env} {Λ : Cells} {P : D → Cells → Prop} {Pt : Bool → Cells → Prop} {Pn : List D → Cells → Prop} {pos p : Pos} {a b e e2 : Expr}
/-- two operands, an operation -/
abbrev Op2 (κ : Kl) (C : Pl.Ctx) (E : ER) (Γ : Pl.Env) (Λ : Cells) (a b : Expr) (f : U → U → M U) (P : D → Cells → Prop) : Prop := WE C E Γ Λ a fun x Λ1 => WE C E Γ Λ1 b fun y Λ2 => ∃ u v, Vw κ Λ2 x u ∧ Vw κ Λ2 y v ∧ wp (f u v) (fun z => P (em κ z) Λ2) Tr
abbrev Op2t (κ : Kl) (C : Pl.Ctx) (E : ER) (Γ : Pl.Env) (Λ : Cells) (a b : Expr) (f : U → U → M Bool) (P : Bool → Cells → Prop) : Prop := WE C E Γ Λ a fun x Λ1 => WE C E Γ Λ1 b fun y Λ2 => ∃ u v, Vw κ Λ2 x u ∧ Vw κ Λ2 y v ∧ wp (f u v) (fun z => P z Λ2) Tr
abbrev Op1 (κ : Kl) (C : Pl.Ctx) (E : ER) (Γ : Pl.Env) (Λ : Cells) (a : Expr) (f : U → M U) (P : D → Cells → Prop) : Prop := WE C E Γ Λ a fun x Λ1 => ∃ u, Vw κ Λ1 x u ∧ wp (f u) (fun z => P (em κ z) Λ1) Tr
abbrev Op1n (κ : Kl) (C : Pl.Ctx) (E : ER) (Γ : Pl.Env) (Λ : Cells) (a : Expr) (f : U → M (List U)) (P : List D → Cells → Prop) : Prop := WE C E Γ Λ a fun x Λ1 => ∃ u, Vw κ Λ1 x u ∧ wp (f u) (fun z => P (ems κ z) Λ1) Tr
theorem we_addM (h : Op2 κ C E Γ Λ a b addM P) : WE C E Γ Λ (.BinOp a .Add b pos) P := we_add (we_mono h fun x Λ1 h => we_mono h fun y Λ2 ⟨u, v, hx, hy, h⟩ => addP_m (P := fun d => P d Λ2) u v hx hy (wp_ret h) fun z h => h)
theorem we_subM (h : Op2 κ C E Γ Λ a b subM P) : WE C E Γ Λ (.BinOp a .Sub b pos) P := we_sub (we_mono h fun x Λ1 h => we_mono h fun y Λ2 ⟨u, v, hx, hy, h⟩ => subP_m (P := fun d => P d Λ2) u v hx hy (wp_ret h) fun z h => h)
theorem we_mulM (h : Op2 κ C E Γ Λ a b mulM P) : WE C E Γ Λ (.BinOp a .Mult b pos) P := we_mul (we_mono h fun x Λ1 h => we_mono h fun y Λ2 ⟨u, v, hx, hy, h⟩ => mulP_m (P := fun d => P d Λ2) u v hx hy (wp_ret h) fun z h => h)
theorem we_fdivM (h : Op2 κ C E Γ Λ a b fdivM P) : WE C E Γ Λ (.BinOp a .FloorDiv b pos) P := we_fdiv (we_mono h fun x Λ1 h => we_mono h fun y Λ2 ⟨u, v, hx, hy, h⟩ => fdivP_m (P := fun d => P d Λ2) u v hx hy (wp_ret h) fun z h => h)
theorem we_modM (h : Op2 κ C E Γ Λ a b modM P) : WE C E Γ Λ (.BinOp a .Mod b pos) P := we_mod (we_mono h fun x Λ1 h => we_mono h fun y Λ2 ⟨u, v, hx, hy, h⟩ => modP_m (P := fun d => P d Λ2) u v hx hy (wp_ret h) fun z h => h)
theorem we_negM (h : Op1 κ C E Γ Λ a negM P) : WE C E Γ Λ (.UnaryOp .USub a pos) P := we_neg (we_mono h fun x Λ1 ⟨u, hx, h⟩ => negP_m (P := fun d => P d Λ1) u hx (wp_ret h) fun z h => h)
/-! comparisons, as values and as tests -/
abbrev vB (f : U → U → M Bool) (u v : U) : M U := (f u v).bind fun b => .ok (.bl b)
theorem vB_wp {m : M Bool} {P : U → Prop} (h : wp (m.bind fun b => .ok (.bl b)) P Tr) : wp m (fun b => P (.bl b)) Tr := by cases m <;> exact h
abbrev nB (f : U → U → M Bool) (u v : U) : M Bool := (f u v).bind fun b => .ok (!b)
theorem nB_wp {m : M Bool} {P : Bool → Prop} (h : wp (m.bind fun b => .ok (!b)) P Tr) : wp m (fun b => P (!b)) Tr := by cases m <;> exact h
theorem wt_eqM (h : Op2t κ C E Γ Λ a b eqM Pt) : WT C E Γ Λ (.Compare a [.Eq] [b] pos) Pt := wt_eq (we_mono h fun x Λ1 h => we_mono h fun y Λ2 ⟨u, v, hx, hy, h⟩ => eqP_m (Pb := fun d => Pt d Λ2) u v hx hy (wp_ret h) fun z h => h)
theorem wt_neM (h : Op2t κ C E Γ Λ a b (nB eqM) Pt) : WT C E Γ Λ (.Compare a [.NotEq] [b] pos) Pt := wt_ne (we_mono h fun x Λ1 h => we_mono h fun y Λ2 ⟨u, v, hx, hy, h⟩ => eqP_m (Pb := fun d => Pt (!d) Λ2) u v hx hy (wp_ret (nB_wp h)) fun z h => h)
theorem wt_ltM (h : Op2t κ C E Γ Λ a b ltM Pt) : WT C E Γ Λ (.Compare a [.Lt] [b] pos) Pt := wt_lt (we_mono h fun x Λ1 h => we_mono h fun y Λ2 ⟨u, v, hx, hy, h⟩ => ltP_m (Pb := fun d => Pt d Λ2) u v hx hy (wp_ret h) fun z h => h)
theorem wt_gtM (h : Op2t κ C E Γ Λ a b gtM Pt) : WT C E Γ Λ (.Compare a [.Gt] [b] pos) Pt := wt_gt (we_mono h fun x Λ1 h => we_mono h fun y Λ2 ⟨u, v, hx, hy, h⟩ => gtP_m (Pb := fun d => Pt d Λ2) u v hx hy (wp_ret h) fun z h => h)
theorem wt_inM (h : Op2t κ C E Γ Λ a b inM Pt) (hm : behindInMarks .In b = false := by rfl) : WT C E Γ Λ (.Compare a [.In] [b] pos) Pt := wt_in (we_mono h fun x Λ1 h => we_mono h fun y Λ2 ⟨u, v, hx, hy, h⟩ => inP_m (Pb := fun d => Pt d Λ2) u v hx hy (wp_ret h) fun z h => h) hm
theorem wt_ninM (h : Op2t κ C E Γ Λ a b (nB inM) Pt) (hm : behindInMarks .NotIn b = false := by rfl) : WT C E Γ Λ (.Compare a [.NotIn] [b] pos) Pt := wt_nin (we_mono h fun x Λ1 h => we_mono h fun y Λ2 ⟨u, v, hx, hy, h⟩ => inP_m (Pb := fun d => Pt (!d) Λ2) u v hx hy (wp_ret (nB_wp h)) fun z h => h) hm
theorem we_eqM (h : Op2 κ C E Γ Λ a b (vB eqM) P) : WE C E Γ Λ (.Compare a [.Eq] [b] pos) P := we_eq (we_mono h fun x Λ1 h => we_mono h fun y Λ2 ⟨u, v, hx, hy, h⟩ => eqP_m (Pb := fun d => P (.bl d) Λ2) u v hx hy (wp_ret (vB_wp h)) fun z h => h)
theorem wt_isM (h : Op2t κ C E Γ Λ a b isM Pt) : WT C E Γ Λ (.Compare a [.Is] [b] pos) Pt :=
  wt_cmpK (fun X is => op_isN.or op_is_bl) (we_mono h fun x Λ1 p => we_mono p fun y Λ2 ⟨u, v, hx, hy, q⟩ => by
    have q : isP x y fun c => Pt c Λ2 := isP_m (Pb := fun d => Pt d Λ2) u v hx hy (wp_ret q) fun z h => h
    intro F B α σ H vx vy Q S rx ry k
    unfold isP at q
    split at q
    · obtain ⟨c, hc, p⟩ := q
      unfold Rep at ry
      refine .inl ⟨ry, ?_⟩
      have := isN_rep rx hc
      rw [this]
      exact k _ _ _ _ _ _ ⟨_, rfl, p⟩ S (Ex.refl B) (List.prefix_refl _) (by unfold Rep; rfl)
    · obtain ⟨c, rfl, p'⟩ := q
      unfold Rep at rx ry
      exact .inr ⟨_, _, rx, ry, k _ _ _ _ _ _ ⟨_, rfl, p'⟩ S (Ex.refl B) (List.prefix_refl _) (by unfold Rep; rfl)⟩
    · exact q.elim) (nomark b)
theorem we_isM (h : Op2 κ C E Γ Λ a b (vB isM) P) : WE C E Γ Λ (.Compare a [.Is] [b] pos) P :=
  we_isA (we_mono h fun x Λ1 h => we_mono h fun y Λ2 ⟨u, v, hx, hy, h⟩ => isP_m (Pb := fun d => P (.bl d) Λ2) u v hx hy (wp_ret (vB_wp h)) fun z h => h)
/-- x is not None -/
def isntM (x y : U) : M Bool := match y with
  | .non => .ok (!isNone x)
  | _ => .stuck
/-! and, or, not, tests by value -/
theorem we_andM {rest : List Expr} (h : WE C E Γ Λ a fun x Λ1 => ∃ u, Vw κ Λ1 x u ∧ wp (boolM u) (fun c => if c = true then WE C E Γ Λ1 (.BoolOp .And (b :: rest) pos) P else P (.bl false) Λ1) Tr) : WE C E Γ Λ (.BoolOp .And (a :: b :: rest) pos) P :=
  we_and (we_mono h fun x Λ1 ⟨u, hx, h⟩ => boolP_m u hx (wp_ret h) fun z h => h)
theorem we_notM (h : WE C E Γ Λ a fun x Λ1 => ∃ u, Vw κ Λ1 x u ∧ wp (boolM u) (fun c => P (.bl (!c)) Λ1) Tr) : WE C E Γ Λ (.UnaryOp .Not a pos) P :=
  we_not (we_mono h fun x Λ1 ⟨u, hx, h⟩ => boolP_m u hx (wp_ret h) fun z h => h)
theorem wt_valM (h : WE C E Γ Λ a fun x Λ1 => ∃ u, Vw κ Λ1 x u ∧ wp (boolM u) (fun c => Pt c Λ1) Tr) (he : ∀ (env : PySem.Env) whole, isTrue a env whole = (do let v ← whole; standAt a.pos; holding [v] (truthy v)) := by intro _ _; rfl) : WT C E Γ Λ a Pt :=
  wt_val (we_mono h fun x Λ1 ⟨u, hx, h⟩ => boolP_m (Pb := fun c => Pt c Λ1) u hx (wp_ret h) fun z h => h) he
/-! subscripts, slices -/
theorem we_ixM (h : Op2 κ C E Γ Λ a b ixM P) (hs : PlainIx b := by intro _ _; rfl) : WE C E Γ Λ (.Subscript a b pos) P := we_ix (we_mono h fun x Λ1 h => we_mono h fun y Λ2 ⟨u, v, hx, hy, h⟩ => ixP_m (P := fun d => P d Λ2) u v hx hy (wp_ret h) fun z h => h) hs
theorem we_ixdM (h : Op2 κ C E Γ Λ a b ixdM P) (hs : NoSl b := by intro _ _; rfl) : WE C E Γ Λ (.Subscript a b pos) P := we_ixd (we_mono h fun x Λ1 h => we_mono h fun y Λ2 ⟨u, v, hx, hy, h⟩ => ixdP_m (P := fun d => P d Λ2) u v hx hy (wp_ret h) fun z h => h) hs
/-- a slice's end -/
def WOM (κ : Kl) (C : Pl.Ctx) (E : ER) (Γ : Pl.Env) (Λ : Cells) : Option Expr → (Option Int → Cells → Prop) → Prop
  | none, P => P none Λ
  | some e, P => WE C E Γ Λ e fun x Λ1 => ∃ u, Vw κ Λ1 x u ∧ wp (endM u) (fun z => P z Λ1) Tr
theorem wo_of {o : Option Expr} {P : Option Int → Cells → Prop} (h : WOM κ C E Γ Λ o P) : WO C E Γ Λ o P := by
  cases o with
  | none => exact h
  | some e => exact we_mono h fun x Λ1 ⟨u, hx, h⟩ => endP_m (Po := fun z => P z Λ1) u hx (wp_ret h) fun z h => h
theorem wo_mono {o : Option Expr} {P P' : Option Int → Cells → Prop} (h : WO C E Γ Λ o P) (i : ∀ z Λ, P z Λ → P' z Λ) : WO C E Γ Λ o P' := by
  cases o with
  | none => exact i _ _ h
  | some e => exact we_mono h fun x Λ1 ⟨j, e, h⟩ => ⟨j, e, i _ _ h⟩
theorem we_slM {lo hi : Option Expr} {p2 : Pos} (h : WE C E Γ Λ a fun x Λ1 => WOM κ C E Γ Λ1 lo fun l Λ2 => WOM κ C E Γ Λ2 hi fun r Λ3 => ∃ u, Vw κ Λ3 x u ∧ wp (slM u l r) (fun z => P (em κ z) Λ3) Tr) : WE C E Γ Λ (.Subscript a (.Slice lo hi none p2) pos) P :=
  we_sl (we_mono h fun x Λ1 h => wo_mono (wo_of h) fun l Λ2 h => wo_mono (wo_of h) fun r Λ3 ⟨u, hx, h⟩ => slP_m (P := fun d => P d Λ3) u hx (wp_ret h) fun z h => h)
/-! built-ins -/
theorem we_lenM (hj : GlAt C "len") (hm : C.mg "len" = none) (h : Op1 κ C E Γ Λ e lenM P) (he : plainE e = true := by rfl) : WE C E Γ Λ (.Call (.Name "len" p) [e] [] pos) P := we_len hj hm (we_mono h fun x Λ1 ⟨u, hx, h⟩ => lenP_m (P := fun d => P d Λ1) u hx (wp_ret h) fun z h => h) he
theorem we_isiM {x : Str} {T : String} {p2 : Pos} (hj : GlAt C "isinstance") (hm : C.mg "isinstance" = none) (hj2 : GlAt C x) (hm2 : C.mg x = none) (hv : bootBuiltins x = some (.type T)) (h : Op1 κ C E Γ Λ e (fun u => isiM u T) P) (he : plainE e = true := by rfl)
    (hn : x ≠ "__name__" := by decide) (hd : (x == ("__debug__" : Str)) = false := by decide) : WE C E Γ Λ (.Call (.Name "isinstance" p) [e, .Name x p2] [] pos) P := we_isiN hj hm hj2 hm2 hv (we_mono h fun x Λ1 ⟨u, hx, h⟩ => isiP_m (P := fun d => P d Λ1) u hx (wp_ret h) fun z h => h) he hn hd
/-! what is walked -/
variable {tg : Expr}
theorem wi_range1M (hj : GlAt C "range") (hm : C.mg "range" = none) (h : Op1n κ C E Γ Λ a range1M Pn) (ha : plainE a = true := by rfl) : WI C E Γ Λ tg (.Call (.Name "range" p) [a] [] pos) Pn := wi_range1 hj hm (we_mono h fun x Λ1 ⟨u, hx, h⟩ => rng1P_m (Pl' := fun d => Pn d Λ1) u hx (wp_ret h) fun z h => h) ha
/-! targets -/
variable {α : Type} {Q : α → Prop} {Eh : Str → List U → Prop} {ws : List Nat} {Pg : Pl.Env → Prop}
theorem tg2 {k : U × U → M α} (u : U) (h : wp ((un2 u).bind k) Q Eh) (i : ∀ a b, wp (k (a, b)) Q Eh → WG C Γ Λ tg (.tup [em κ a, em κ b]) ws Pg) : WG C Γ Λ tg (em κ u) ws Pg := by
  replace h := wp_bind h
  unfold un2 at h
  split at h
  · exact i _ _ h
  · exact h.elim
/-! methods of owned lists -/
variable {apos cpos : Pos} {o : Expr}
theorem we_appM (n : Nat) (h : WE C E Γ Λ o fun x Λ1 => x = .loc n ∧ (∃ us : List U, Λ1[n]? = some (.lst (ems κ us))) ∧ WE C E Γ Λ1 e fun y Λ2 => ∃ us u, y = em κ u ∧ Λ2[n]? = some (.lst (ems κ us)) ∧ wp (appM us u) (fun z => P .non (Λ2.set n (.lst (ems κ z)))) Tr)
    (ho : plainO o = true := by rfl) (he : plainE e = true := by rfl) (hl : (apos.endLine == cpos.line) = true := by rfl) : WE C E Γ Λ (.Call (.Attribute o "append" apos) [e] [] cpos) P :=
  we_append (we_mono h fun x Λ1 ⟨hx, ⟨us0, h0⟩, h⟩ => ⟨n, _, hx, h0, we_mono h fun y Λ2 ⟨us, u, hy, h1, h⟩ => by
    subst hy
    obtain ⟨h2, h3⟩ := wp_sz h
    refine ⟨_, h1, by rw [ems_len]; exact sz_ltt h2, ?_⟩
    have h3 : P .non (Λ2.set n (.lst (ems κ (us ++ [u])))) := h3
    rw [ems_app] at h3; exact h3⟩) ho he hl
theorem we_popM (n : Nat) (h : WE C E Γ Λ o fun x Λ1 => x = .loc n ∧ ∃ us, Λ1[n]? = some (.lst (ems κ us)) ∧ wp (popM us) (fun z => P (em κ z.1) (Λ1.set n (.lst (ems κ z.2)))) Tr)
    (ho : plainO o = true := by rfl) (hl : (apos.endLine == cpos.line) = true := by rfl) : WE C E Γ Λ (.Call (.Attribute o "pop" apos) [] [] cpos) P :=
  we_pop (we_mono h fun x Λ1 ⟨hx, us, h1, h⟩ => by
    subst hx
    exact popP_m (P := P) (Q := fun z : U × List U => P (em κ z.1) (Λ1.set n (.lst (ems κ z.2)))) (Eh := Tr) (k := .ok) h1 (wp_ret h) fun z vs h => (show (fun z : U × List U => P (em κ z.1) (Λ1.set n (.lst (ems κ z.2)))) (z, vs) from h)) ho hl
theorem we_extM (n : Nat) (h : WE C E Γ Λ o fun x Λ1 => x = .loc n ∧ (∃ us : List U, Λ1[n]? = some (.lst (ems κ us))) ∧ WE C E Γ Λ1 e fun y Λ2 => ∃ us u, Vw κ Λ2 y u ∧ Λ2[n]? = some (.lst (ems κ us)) ∧ wp (extM us u) (fun z => P .non (Λ2.set n (.lst (ems κ z)))) Tr)
    (ho : plainO o = true := by rfl) (he : plainE e = true := by rfl) (hl : (apos.endLine == cpos.line) = true := by rfl) : WE C E Γ Λ (.Call (.Attribute o "extend" apos) [e] [] cpos) P :=
  we_extend (we_mono h fun x Λ1 ⟨hx, ⟨us0, h0⟩, h⟩ => ⟨n, _, hx, h0, we_mono h fun y Λ2 ⟨us, u, hy, h1, h⟩ =>
    extP_m (P := fun d Λ => P d Λ) u hy h1 (wp_ret h) fun z h => h⟩) ho he hl
/-- owned: the end of an operation on a cell's list -/
theorem finC {β : Type} {f : List U → M β} {n : Nat} {k : β → M α} {P : β → Prop} (us : List U) (hn : Λ[n]? = some (.lst (ems κ us))) (h : wp ((f us).bind k) Q Eh) (i : ∀ z, wp (k z) Q Eh → P z) : ∃ us, Λ[n]? = some (.lst (ems κ us)) ∧ wp (f us) P Tr := ⟨us, hn, fin0 h i⟩
theorem finA {f : List U → U → M (List U)} {n : Nat} {k : List U → M α} {P : List U → Prop} (us : List U) (u : U) (hn : Λ[n]? = some (.lst (ems κ us))) (h : wp ((f us u).bind k) Q Eh) (i : ∀ z, wp (k z) Q Eh → P z) : ∃ us v, em κ u = em κ v ∧ Λ[n]? = some (.lst (ems κ us)) ∧ wp (f us v) P Tr := ⟨us, u, rfl, hn, fin0 h i⟩
theorem finV {f : List U → U → M (List U)} {n : Nat} {y : D} {k : List U → M α} {P : List U → Prop} (us : List U) (u : U) (hy : Vw κ Λ y u) (hn : Λ[n]? = some (.lst (ems κ us))) (h : wp ((f us u).bind k) Q Eh) (i : ∀ z, wp (k z) Q Eh → P z) : ∃ us v, Vw κ Λ y v ∧ Λ[n]? = some (.lst (ems κ us)) ∧ wp (f us v) P Tr := ⟨us, u, hy, hn, fin0 h i⟩
variable {R : Rs} {pos' : Pos} {i : Expr}
theorem ws_setM (n : Nat) (h : WE C R.er Γ Λ e fun d Λ1 => WE C R.er Γ Λ1 o fun x Λ2 => WE C R.er Γ Λ2 i fun y Λ3 => x = .loc n ∧ ∃ us u j, d = em κ u ∧ y = em κ j ∧ Λ3[n]? = some (.lst (ems κ us)) ∧ wp (setM us j u) (fun z => R.nx Γ (Λ3.set n (.lst (ems κ z)))) Tr)
    (hc : noComp e = true := by rfl) (ha : ∀ (env : PySem.Env) v, assign (.Subscript o i pos') env v = (do
      let ov ← holding [v] (eval o env)
      let iv ← holding [v, ov] (eval i env)
      standAt pos'
      holding [v, ov, iv] (setItem ov iv v)
      release [v, ov, iv] []) := by intro _ _; rfl) : WS C Γ Λ (.Assign [.Subscript o i pos'] e pos) R :=
  ws_setix (we_mono h fun d Λ1 h => we_mono h fun x Λ2 h => we_mono h fun y Λ3 ⟨hx, us, u, j, hd, hy, h1, q⟩ => by
    subst hx; subst hd; subst hy
    exact setP_m (P := fun Λ => R.nx Γ Λ) j u vE h1 (wp_ret q) fun z h => h) hc ha
theorem finS {n : Nat} {k : List U → M α} {P : List U → Prop} (us : List U) (u j : U) (hn : Λ[n]? = some (.lst (ems κ us))) (h : wp ((setM us j u).bind k) Q Eh) (i : ∀ z, wp (k z) Q Eh → P z) : ∃ vs v w, em κ u = em κ v ∧ em κ j = em κ w ∧ Λ[n]? = some (.lst (ems κ vs)) ∧ wp (setM vs w v) P Tr := ⟨us, u, j, rfl, rfl, hn, fin0 h i⟩
theorem rtV_v {Q : U → Prop} {u : U} (h : Q u) : rtV κ Q (.val (em κ u)) Λ := .inl ⟨u, rfl, h⟩
theorem rtV_imp {Q : U → Prop} {c : U} {r : Res} (hr : rtV κ (fun u => u = c) r Λ) (h : Q c) : rtV κ Q r Λ := by
  rcases hr with ⟨u, rfl, rfl⟩ | ⟨n, ks, us, rfl, h1, h2⟩
  · exact .inl ⟨_, rfl, h⟩
  · subst h2; exact .inr ⟨n, ks, us, rfl, h1, h⟩
theorem szd {n : Nat} (h : n < 10000000) : n ≤ sizeLine := Pl.sz_lt h
theorem len1 {us : List U} (h : us.length = 1) : ∃ a, us = [a] := by
  match us, h with
  | [a], _ => exact ⟨a, rfl⟩
theorem len2 {us : List U} (h : us.length = 2) : ∃ a b, us = [a, b] := by
  match us, h with
  | [a, b], _ => exact ⟨a, b, rfl⟩
theorem len3 {us : List U} (h : us.length = 3) : ∃ a b c, us = [a, b, c] := by
  match us, h with
  | [a, b, c], _ => exact ⟨a, b, c, rfl⟩
end
end Sh

/-! Sh5: sayings as pure data; sorted. -/
namespace Sh
open PySem L2 Pl Law
/-- a saying's datum -/
def su : Sy → U
  | .no => .tup [.str "no"]
  | .lt l => .tup [.str "letter", .str l.s]
  | .not a => .tup [.str "not", su a]
  | .shown a => .tup [.str "shown", su a]
  | .bin o a b => .tup [.str o.s, su a, su b]
theorem em_su {κ : Kl} : ∀ s : Sy, em κ (su s) = s.pv
  | .no => rfl
  | .lt l => rfl
  | .not a => by rw [su, em, ems, ems, ems, em_su a]; rfl
  | .shown a => by rw [su, em, ems, ems, ems, em_su a]; rfl
  | .bin o a b => by rw [su, em, ems, ems, ems, ems, em_su a, em_su b]; rfl
theorem pyU_su (s : Sy) : pyU (su s) = py s.pv := by rw [← em_su (κ := ⟨fun _ => 0, fun _ => []⟩) s, py_em]
theorem map_inj {α β : Type} {f : α → β} (hf : ∀ a b, f a = f b → a = b) : ∀ {xs ys : List α}, xs.map f = ys.map f → xs = ys
  | [], [], _ => rfl
  | [], _ :: _, h => by simp at h
  | _ :: _, [], h => by simp at h
  | x :: xs, y :: ys, h => by
    rw [List.map_cons, List.map_cons, List.cons.injEq] at h
    rw [hf _ _ h.1, map_inj hf h.2]
end Sh
namespace Law
open PySem L2 Pl
end Law
namespace Sh
open PySem L2 Pl Law
def ltU (l : Lt) : U := .str l.s
section
variable {κ : Kl} {C : Pl.Ctx} {E : ER} {Γ : Pl.Env} {Λ : Cells} {Pn : List D → Cells → Prop} {pos p : Pos} {e : Expr}
end
end Sh

/-! Sh6: more that is walked: enumerate, zip, reversed, ranges down. -/
namespace Sh
open PySem L2 Pl PyProof.Rows
section
variable {K : PySem.W.Frag} {B : Hp}
theorem Reps.at {α : List Addr} {ds : List D} {vs : List V} {i : Nat} {d : D} {x : V} (r : Reps K B α ds vs) (h : ds[i]? = some d) (hx : vs[i]? = some x) : Rep K B α d x := by
  obtain ⟨v, h1, h2⟩ := r.get h
  rw [hx] at h1; cases h1; exact h2
end
/-! the pure side -/
def enumU (us : List U) : List U := us.mapIdx fun i u => .tup [.int (i : Nat), u]
def zipU (us vs : List U) : List U := List.zipWith (fun a b => .tup [a, b]) us vs
def enumM (x : U) : M (List U) := match itemsL x with
  | some us => .ok (enumU us)
  | none => .stuck
def zipM (x y : U) : M (List U) := match itemsL x, itemsL y with
  | some us, some vs => .ok (zipU us vs)
  | _, _ => .stuck
def revM (x : U) : M (List U) := match itemsL x with
  | some us => .ok us.reverse
  | none => .stuck
section
variable {κ : Kl} {C : Pl.Ctx} {E : ER} {Γ : Pl.Env} {Λ : Cells} {Pn : List D → Cells → Prop} {pos p tpos : Pos} {e e2 tg : Expr} {elts : List Expr} {kk : Nat}
end
end Sh

/-! Sh7: cells handed, cells handed back; tuples of owned lists. -/
namespace Sh
open PySem L2 Pl PyProof.Rows
section
variable {κ : Kl} {Λ : Cells}
/-- looked through all cells, d is u -/
def Vx (κ : Kl) (Λ : Cells) (d : D) (u : U) : Prop := dv Λ d = em κ u
theorem Vx.cell {n : Nat} {us : List U} (h : Λ[n]? = some (.lst (ems κ us))) : Vx κ Λ (.loc n) (.lst us) := by
  unfold Vx dv; rw [h]; rfl
theorem Vx.tup {ds : List D} {us : List U} (h : dvs Λ ds = ems κ us) : Vx κ Λ (.tup ds) (.tup us) := by
  unfold Vx dv; rw [h]; rfl
theorem Vx.lst {ds : List D} {us : List U} (h : dvs Λ ds = ems κ us) : Vx κ Λ (.lst ds) (.lst us) := by
  unfold Vx dv; rw [h]; rfl
theorem Vx.nil : dvs Λ [] = ems κ [] := rfl
theorem Vx.cons {d : D} {u : U} {ds : List D} {us : List U} (h : Vx κ Λ d u) (h2 : dvs Λ ds = ems κ us) : dvs Λ (d :: ds) = ems κ (u :: us) := by
  rw [dvs, ems, h2]; unfold Vx at h; rw [h]
end
section
variable {κ : Kl} {C : Pl.Ctx} {E : ER} {Γ : Pl.Env} {Λ : Cells} {P : D → Cells → Prop} {Pt : Bool → Cells → Prop} {Pn : List D → Cells → Prop} {pos p : Pos} {a b e e2 : Expr}
/-- an operation that is known -/
theorem known {α β : Type} {Q : α → Prop} {Eh : Str → List U → Prop} {m : M β} {v : β} {k : β → M α} {A : Prop} (e : m = .ok v) (h : wp (m.bind k) Q Eh) (i : wp (k v) Q Eh → A) : A := by subst e; exact i h
end
/-! ### promises with cells -/
section
variable {κ : Kl} {α γ β : Type} {Dd : α → List D} {L : α → Cells} {f : α → M γ} {g : γ → M β} {R : β → Res} {L' : α → β → Cells}
variable {C : Pl.Ctx} {E : ER} {Γ : Pl.Env} {Λ : Cells} {pos p : Pos}
end
/-! defs -/
section
variable {κ : Kl} {G : Gl} {α γ β : Type} {Dd : α → List D} {L : α → Cells} {f : α → M γ} {g : γ → M β} {R : β → Res} {L' : α → β → Cells}
variable {L0 Λ : Cells} {L1 : β → Cells} {Q : β → Prop}
end
/-! results that are taken apart -/
def gL2 : U → M (List U × List U)
  | .tup [.lst a, .lst b] => .ok (a, b)
  | _ => .stuck
end Sh
namespace Sh
open PySem L2 Pl PyProof.Rows
/-! the cells chosen anew between two statements -/
end Sh
namespace Sh
open PySem L2 Pl PyProof.Rows
end Sh

/-! Sh8: a def sees owned things, and hands back a bare word, number or truth. -/
namespace Sh
open PySem L2 Pl PyProof.Rows
mutual
/-- looked through all cells, dicts too -/
def fv (Λ : Cells) : D → D
  | .loc n => match Λ[n]? with
    | some (.lst ds) => .lst ds
    | some (.dic ks ds) => .dic ks ds
    | _ => .loc n
  | .tup ds => .tup (fvs Λ ds)
  | .lst ds => .lst (fvs Λ ds)
  | .fzl ds => .fzl (fvs Λ ds)
  | d => d
def fvs (Λ : Cells) : List D → List D
  | [] => []
  | d :: ds => fv Λ d :: fvs Λ ds
end
section
variable {K : PySem.W.Frag} {F : Fm} {B : Hp} {α : List Addr} {Γ : Pl.Env} {Λ : Cells} {σ : L2.St} {H : Hp}
end
/-- bare things -/
def atomM : U → M U
  | .non => .ok .non
  | .bl b => .ok (.bl b)
  | .int i => .ok (.int i)
  | .str s => .ok (.str s)
  | _ => .stuck
@[simp] theorem atomM_bl {b : Bool} : atomM (.bl b) = .ok (.bl b) := rfl
@[simp] theorem atomM_int {b : Int} : atomM (.int b) = .ok (.int b) := rfl
@[simp] theorem atomM_str {b : Str} : atomM (.str b) = .ok (.str b) := rfl
@[simp] theorem atomM_non : atomM .non = .ok .non := rfl
section
variable {κ : Kl} {C : Pl.Ctx} {E : ER} {Γ : Pl.Env} {Λ : Cells} {pos p : Pos}
end
end Sh

/-! Sh9: reckoning with the pure reading. -/
namespace Sh
open PySem L2 Pl Law
@[simp] theorem ofS_inj {a b : String} : (Str.ofString a = Str.ofString b) = (a = b) := by
  apply propext; constructor
  · intro h
    rw [Str.ofString_eq_toList, Str.ofString_eq_toList] at h
    have h1 : (a.toList.map Char.toNat) = b.toList.map Char.toNat := by
      have := congrArg (fun s : Str => s.cps.toList) h
      simpa using this
    have h2 : a.toList = b.toList := map_inj (fun c d e => Char.ext (UInt32.toNat_inj.mp e)) h1
    exact String.toList_injective h2
  · intro h; rw [h]
section
variable {i j : Int} {s t : Str} {us vs : List U}
@[simp] theorem addM_int : addM (.int i) (.int j) = .ok (.int (i + j)) := rfl
@[simp] theorem subM_int : subM (.int i) (.int j) = .ok (.int (i - j)) := rfl
@[simp] theorem negM_int : negM (.int i) = .ok (.int (-i)) := rfl
@[simp] theorem modM_int (h : 0 < j) : modM (.int i) (.int j) = .ok (.int (i % j)) := if_pos h
theorem p64 : (2 : Int) ^ 64 = 18446744073709551616 := by decide
theorem p64n : (2 : Nat) ^ 64 = 18446744073709551616 := by decide
theorem p62 : (2 : Int) ^ 62 = 4611686018427387904 := by decide
@[simp] theorem fdivM_int (h : 0 < j) (h2 : j < 18446744073709551616) : fdivM (.int i) (.int j) = .ok (.int (i / j)) := by
  have h3 : j < 2 ^ 8999 := Int.lt_of_lt_of_le h2 (by
    rw [← p64]
    have e : (2 : Int) ^ 8999 = 2 ^ 64 * 2 ^ 8935 := by rw [← Int.pow_add]
    rw [e]
    have : (0 : Int) < 2 ^ 8935 := Int.pow_pos (by decide)
    generalize (2 : Int) ^ 8935 = m at this
    rw [p64]; omega)
  exact if_pos (by rw [Bool.and_eq_true, decide_eq_true_eq, decide_eq_true_eq]; exact ⟨h, h3⟩)
theorem small_of (h : -18446744073709551616 < i) (h2 : i < 18446744073709551616) : small i = true := by
  unfold small; rw [Bool.and_eq_true, decide_eq_true_eq, decide_eq_true_eq, p64]; exact ⟨h, h2⟩
theorem mulM_r (h : -18446744073709551616 < j) (h2 : j < 18446744073709551616) : mulM (.int i) (.int j) = .ok (.int (i * j)) :=
  if_pos (by rw [small_of h h2, Bool.or_true])
theorem mulM_l (h : -18446744073709551616 < i) (h2 : i < 18446744073709551616) : mulM (.int i) (.int j) = .ok (.int (i * j)) :=
  if_pos (by rw [small_of h h2, Bool.true_or])
theorem powM_int (h : 0 ≤ j) (h2 : j ≤ 1000000) (h3 : i.natAbs < 18446744073709551616) : powM (.int i) (.int j) = .ok (.int (i ^ j.toNat)) :=
  if_pos (by rw [Bool.and_eq_true, Bool.and_eq_true, decide_eq_true_eq, decide_eq_true_eq, decide_eq_true_eq, p64n]; exact ⟨h, h2, h3⟩)
@[simp] theorem pow10_1 : powM (.int 10) (.int 1) = .ok (.int 10) := (powM_int (by decide) (by decide) (by decide)).trans (congrArg (fun z => M.ok (U.int z)) (by decide))
@[simp] theorem pow10_2 : powM (.int 10) (.int 2) = .ok (.int 100) := (powM_int (by decide) (by decide) (by decide)).trans (congrArg (fun z => M.ok (U.int z)) (by decide))
@[simp] theorem pow10_3 : powM (.int 10) (.int 3) = .ok (.int 1000) := (powM_int (by decide) (by decide) (by decide)).trans (congrArg (fun z => M.ok (U.int z)) (by decide))
@[simp] theorem pow10_4 : powM (.int 10) (.int 4) = .ok (.int 10000) := (powM_int (by decide) (by decide) (by decide)).trans (congrArg (fun z => M.ok (U.int z)) (by decide))
@[simp] theorem pow10_5 : powM (.int 10) (.int 5) = .ok (.int 100000) := (powM_int (by decide) (by decide) (by decide)).trans (congrArg (fun z => M.ok (U.int z)) (by decide))
@[simp] theorem pow10_6 : powM (.int 10) (.int 6) = .ok (.int 1000000) := (powM_int (by decide) (by decide) (by decide)).trans (congrArg (fun z => M.ok (U.int z)) (by decide))
@[simp] theorem pow10_7 : powM (.int 10) (.int 7) = .ok (.int 10000000) := (powM_int (by decide) (by decide) (by decide)).trans (congrArg (fun z => M.ok (U.int z)) (by decide))
@[simp] theorem pow10_8 : powM (.int 10) (.int 8) = .ok (.int 100000000) := (powM_int (by decide) (by decide) (by decide)).trans (congrArg (fun z => M.ok (U.int z)) (by decide))
@[simp] theorem pow10_9 : powM (.int 10) (.int 9) = .ok (.int 1000000000) := (powM_int (by decide) (by decide) (by decide)).trans (congrArg (fun z => M.ok (U.int z)) (by decide))
@[simp] theorem pow10_12 : powM (.int 10) (.int 12) = .ok (.int 1000000000000) := (powM_int (by decide) (by decide) (by decide)).trans (congrArg (fun z => M.ok (U.int z)) (by decide))
@[simp] theorem pow10_15 : powM (.int 10) (.int 15) = .ok (.int 1000000000000000) := (powM_int (by decide) (by decide) (by decide)).trans (congrArg (fun z => M.ok (U.int z)) (by decide))
@[simp] theorem pow10_18 : powM (.int 10) (.int 18) = .ok (.int 1000000000000000000) := (powM_int (by decide) (by decide) (by decide)).trans (congrArg (fun z => M.ok (U.int z)) (by decide))
@[simp] theorem pow10_20 : powM (.int 10) (.int 20) = .ok (.int 100000000000000000000) := (powM_int (by decide) (by decide) (by decide)).trans (congrArg (fun z => M.ok (U.int z)) (by decide))
@[simp] theorem pow10_24 : powM (.int 10) (.int 24) = .ok (.int 1000000000000000000000000) := (powM_int (by decide) (by decide) (by decide)).trans (congrArg (fun z => M.ok (U.int z)) (by decide))
@[simp] theorem pow10_30 : powM (.int 10) (.int 30) = .ok (.int 1000000000000000000000000000000) := (powM_int (by decide) (by decide) (by decide)).trans (congrArg (fun z => M.ok (U.int z)) (by decide))
@[simp] theorem ltM_int : ltM (.int i) (.int j) = .ok (decide (i < j)) := rfl
@[simp] theorem leM_int : leM (.int i) (.int j) = .ok (decide (i ≤ j)) := rfl
@[simp] theorem gtM_int : gtM (.int i) (.int j) = .ok (decide (j < i)) := rfl
@[simp] theorem geM_int : geM (.int i) (.int j) = .ok (decide (j ≤ i)) := rfl
@[simp] theorem eqM_int : eqM (.int i) (.int j) = .ok (decide (i = j)) := by
  unfold eqM
  rw [if_pos (by simp [pl, dp, pyU, PyData.plain, PyData.depth])]
  simp only [pyU, PyData.eqv]; by_cases h : i = j <;> simp [h]
@[simp] theorem eqM_str : eqM (.str s) (.str t) = .ok (decide (s = t)) := by
  unfold eqM
  rw [if_pos (by simp [pl, dp, pyU, PyData.plain, PyData.depth])]
  simp only [pyU]; rw [Law.Sy.strs_eqv]
@[simp] theorem eqM_bl {a b : Bool} : eqM (.bl a) (.bl b) = .ok (decide (a = b)) := by
  unfold eqM
  rw [if_pos (by simp [pl, dp, pyU, PyData.plain, PyData.depth])]
  have e : PyData.eqv (pyU (.bl a)) (pyU (.bl b)) = decide (a = b) := bl_eqv a b
  rw [e]
@[simp] theorem boolM_bl {b : Bool} : boolM (.bl b) = .ok b := rfl
@[simp] theorem endM_int : endM (.int i) = .ok (some i) := rfl
@[simp] theorem isM_non {x : U} : isM x .non = .ok (isNone x) := by cases x <;> rfl
@[simp] theorem isntM_non {x : U} : isntM x .non = .ok (!isNone x) := by cases x <;> rfl
@[simp] theorem isM_bl {a b : Bool} : isM (.bl a) (.bl b) = .ok (decide (a = b)) := rfl
@[simp] theorem lenM_lst : lenM (.lst us) = .ok (.int us.length) := rfl
@[simp] theorem lenM_fzl : lenM (.fzl us) = .ok (.int us.length) := rfl
@[simp] theorem lenM_tup : lenM (.tup us) = .ok (.int us.length) := rfl
theorem lenM_str (h : s.length ≤ sizeLine) : lenM (.str s) = .ok (.int s.length) := if_pos h
@[simp] theorem iterL_lst : iterL (.lst us) = .ok us := rfl
@[simp] theorem iterL_fzl : iterL (.fzl us) = .ok us := rfl
@[simp] theorem iterT_tup : iterT (.tup us) = .ok us := rfl
@[simp] theorem iterS_str : iterS (.str s) = .ok (s.cps.toList.map fun c => .str ⟨#[c]⟩) := rfl
@[simp] theorem listM_lst : listM (.lst us) = .ok us := rfl
@[simp] theorem listM_fzl : listM (.fzl us) = .ok us := rfl
@[simp] theorem listM_tup : listM (.tup us) = .ok us := rfl
@[simp] theorem tupleM_lst : tupleM (.lst us) = .ok (.tup us) := rfl
@[simp] theorem tupleM_tup : tupleM (.tup us) = .ok (.tup us) := rfl
@[simp] theorem range1M_int (h : -4611686018427387904 ≤ i) (h2 : i < 4611686018427387904) : range1M (.int i) = .ok (rangeU 0 i.toNat) :=
  if_pos (by rw [Bool.and_eq_true, decide_eq_true_eq, decide_eq_true_eq, p62]; exact ⟨h, h2⟩)
@[simp] theorem isi_tup : isiM (.tup us) "tuple" = .ok (.bl true) := rfl
@[simp] theorem isi_lst : isiM (.lst us) "list" = .ok (.bl true) := rfl
@[simp] theorem isi_bl {b : Bool} : isiM (.bl b) "bool" = .ok (.bl true) := rfl
@[simp] theorem isi_str : isiM (.str s) "str" = .ok (.bl true) := rfl
@[simp] theorem isi_int : isiM (.int i) "int" = .ok (.bl true) := rfl
@[simp] theorem isi_st : isiM (.str s) "tuple" = .ok (.bl false) := rfl
@[simp] theorem isi_ts : isiM (.tup us) "str" = .ok (.bl false) := rfl
@[simp] theorem isi_ib : isiM (.int i) "bool" = .ok (.bl false) := rfl
/-! subscripts -/
theorem ixM_seq {x : U} (hx : seqU x = some us) : ixM x (.int i) = match atI us i with | some u => .ok u | none => .stuck := by
  cases x <;> first | (cases hx; done) | (simp only [seqU, Option.some.injEq] at hx; subst hx; rfl)
theorem ixM_at {u : U} {x : U} (hx : seqU x = some us) (h : atI us i = some u) : ixM x (.int i) = .ok u := by rw [ixM_seq hx, h]
theorem ixM_get {k : Nat} {u : U} {x : U} (hx : seqU x = some us) (h : us[k]? = some u) : ixM x (.int (k : Int)) = .ok u := by
  have hk := (List.getElem?_eq_some_iff.mp h).1
  have e : ixN us.length (k : Int) = some k := by
    unfold L2.ixN
    rw [if_pos (by omega), if_pos (by exact_mod_cast hk)]; simp
  exact ixM_at hx (by unfold L2.atI; rw [e]; exact h)
@[simp] theorem ix_t0 {a : U} : ixM (.tup (a :: us)) (.int 0) = .ok a := ixM_get (k := 0) rfl rfl
@[simp] theorem ix_t1 {a b : U} : ixM (.tup (a :: b :: us)) (.int 1) = .ok b := ixM_get (k := 1) rfl rfl
@[simp] theorem ix_t2 {a b c : U} : ixM (.tup (a :: b :: c :: us)) (.int 2) = .ok c := ixM_get (k := 2) rfl rfl
@[simp] theorem ix_t3 {a b c d : U} : ixM (.tup (a :: b :: c :: d :: us)) (.int 3) = .ok d := ixM_get (k := 3) rfl rfl
@[simp] theorem ix_l0 {a : U} : ixM (.lst (a :: us)) (.int 0) = .ok a := ixM_get (k := 0) rfl rfl
@[simp] theorem ix_l1 {a b : U} : ixM (.lst (a :: b :: us)) (.int 1) = .ok b := ixM_get (k := 1) rfl rfl
@[simp] theorem ix_l2 {a b c : U} : ixM (.lst (a :: b :: c :: us)) (.int 2) = .ok c := ixM_get (k := 2) rfl rfl
/-- the last one -/
@[simp] theorem ix_last {u : U} : ixM (.lst (us ++ [u])) (.int (-1)) = .ok u := by
  refine ixM_at rfl ?_
  unfold L2.atI L2.ixN
  rw [if_neg (by omega), if_pos (by rw [List.length_append]; simp only [List.length_cons, List.length_nil]; omega)]
  have e : (-1 + ((us ++ [u]).length : Int)).toNat = us.length := by rw [List.length_append]; simp only [List.length_cons, List.length_nil]; omega
  rw [e]; simp
/-- an index that is known to be within -/
theorem ixM_any {x : U} (hx : seqU x = some us) (h1 : 0 ≤ i) (h2 : i < us.length) : ∃ u ∈ us, ixM x (.int i) = .ok u := by
  obtain ⟨k, rfl⟩ := Int.eq_ofNat_of_zero_le h1
  have hk : k < us.length := by exact_mod_cast h2
  exact ⟨us[k], List.getElem_mem _, ixM_get hx (List.getElem?_eq_getElem hk)⟩
/-! lists that are owned -/
theorem appM_ok {x : U} (h : us.length < 10000000) : appM us x = .ok (us ++ [x]) := sz_ok h
@[simp] theorem popM_last {x : U} : popM (us ++ [x]) = .ok (x, us) := by unfold popM; simp
theorem extM_ok (h : us.length + vs.length < 10000000) : extM us (.lst vs) = .ok (us ++ vs) := sz_ok h
@[simp] theorem setM_last {x y : U} : setM (us ++ [x]) (.int (-1)) y = .ok (us ++ [y]) := by
  unfold setM
  have e : ixN (us ++ [x]).length (-1) = some us.length := by
    unfold L2.ixN
    rw [if_neg (by omega), if_pos (by simp only [List.length_append, List.length_cons, List.length_nil]; omega)]
    congr 1
    simp only [List.length_append, List.length_cons, List.length_nil]; omega
  dsimp only; rw [e]; simp
@[simp] theorem gL2_ok {a b : List U} : gL2 (.tup [.lst a, .lst b]) = .ok (a, b) := rfl
end
@[simp] theorem nB_ok {f : U → U → M Bool} {u v : U} : nB f u v = (f u v).bind fun b => .ok (!b) := rfl
@[simp] theorem vB_ok {f : U → U → M Bool} {u v : U} : vB f u v = (f u v).bind fun b => .ok (.bl b) := rfl
/-! total: m comes to something -/
def Ok {α : Type} (m : M α) (P : α → Prop) : Prop := ∃ a, m = .ok a ∧ P a
theorem Ok.bind {α β : Type} {m : M α} {k : α → M β} {P : α → Prop} {Q : β → Prop} (h : Ok m P) (i : ∀ a, P a → Ok (k a) Q) : Ok (m.bind k) Q := by
  obtain ⟨a, rfl, p⟩ := h; exact i a p
theorem Ok.ret {α : Type} {a : α} {P : α → Prop} (h : P a) : Ok (.ok a) P := ⟨a, rfl, h⟩
theorem Ok.of {α : Type} {m : M α} {a : α} {P : α → Prop} (e : m = .ok a) (h : P a) : Ok m P := ⟨a, e, h⟩
theorem Ok.mono {α : Type} {m : M α} {P P' : α → Prop} (h : Ok m P) (i : ∀ a, P a → P' a) : Ok m P' := by
  obtain ⟨a, e, p⟩ := h; exact ⟨a, e, i a p⟩
theorem Ok.calm {α : Type} {m : M α} {P : α → Prop} (h : Ok m P) : Ok m.calm P := by
  obtain ⟨a, rfl, p⟩ := h; exact ⟨a, rfl, p⟩
theorem Ok.eq {α : Type} {m : M α} {a : α} (h : Ok m fun z => z = a) : m = .ok a := by obtain ⟨z, e, rfl⟩ := h; exact e
theorem Ok.ite {α : Type} {c : Bool} {m m' : M α} {P : α → Prop} (h1 : c = true → Ok m P) (h2 : c = false → Ok m' P) : Ok (if c = true then m else m') P := by
  cases c
  · rw [if_neg (by simp)]; exact h2 rfl
  · rw [if_pos rfl]; exact h1 rfl
/-! loops -/
section
variable {σ ρ : Type}
theorem forN_inv {f : σ → U → M σ} (I : Nat → σ → Prop) : ∀ (xs : List U) (n : Nat) (s : σ), I n s → (∀ k x s, n ≤ k → xs[k - n]? = some x → I k s → Ok (f s x) (I (k + 1))) → Ok (forN f xs s) (I (n + xs.length))
  | [], n, s, h, _ => ⟨s, rfl, h⟩
  | x :: xs, n, s, h, i => by
    obtain ⟨s', e, h'⟩ := i n x s (Nat.le_refl _) (by simp) h
    have := forN_inv I xs (n + 1) s' h' fun k x s hk hx hs => i k x s (by omega) (by
      have e : k - n = (k - (n + 1)) + 1 := by omega
      rw [e]; simpa using hx) hs
    obtain ⟨s2, e2, h2⟩ := this
    refine ⟨s2, by rw [forN, e]; exact e2, ?_⟩
    have e3 : n + 1 + xs.length = n + (x :: xs).length := by simp; omega
    rw [e3] at h2; exact h2
theorem whN_down {c : σ → M Bool} {f : σ → M σ} (I : σ → Prop) (P : σ → Prop) (v : σ → Nat) (hc : ∀ s, I s → Ok (c s) fun b => if b = true then Ok (f s) (fun s' => I s' ∧ v s' < v s) else P s) : ∀ (n : Nat) (s : σ), I s → v s < n → Ok (whN c f n s) P
  | 0, s, _, h => absurd h (Nat.not_lt_zero _)
  | n + 1, s, hs, h => by
    obtain ⟨b, e, p⟩ := hc s hs
    cases b with
    | false => exact ⟨s, by rw [whN, e]; rfl, p⟩
    | true =>
      obtain ⟨s', e2, p1, p2⟩ := p
      obtain ⟨s2, e3, p3⟩ := whN_down I P v hc n s' p1 (by omega)
      exact ⟨s2, by rw [whN, e, M.bind_ok, if_pos rfl, e2]; exact e3, p3⟩
end
/-! comprehensions -/
/-! sayings -/
theorem pl_su (s : Sy) : pl (su s) = true := by unfold pl; rw [pyU_su]; exact Sy.pv_plain s
theorem dp_su (s : Sy) : dp (su s) ≤ s.ht := by unfold dp; rw [pyU_su]; exact Sy.pv_depth s
/-! folds -/
section
variable {σ ρ τ β : Type}
end
theorem rangeU_len {lo : Int} {n : Nat} : (rangeU lo n).length = n := by unfold rangeU; simp
theorem rangeU_mem {lo : Int} {n : Nat} {x : U} (h : x ∈ rangeU lo n) : ∃ i : Nat, i < n ∧ x = .int (lo + i) := by
  unfold rangeU at h
  obtain ⟨i, hi, rfl⟩ := List.mem_map.mp h
  exact ⟨i, List.mem_range.mp hi, rfl⟩
/-- a list that is not empty ends with an item -/
theorem snoc_of {β : Type} {xs : List β} (h : xs ≠ []) : ∃ ys y, xs = ys ++ [y] := ⟨xs.dropLast, xs.getLast h, (List.dropLast_concat_getLast h).symm⟩
theorem snoc2_of {β : Type} {xs : List β} (h : 2 ≤ xs.length) : ∃ ys y z, xs = ys ++ [y] ++ [z] := by
  obtain ⟨ys, z, rfl⟩ := snoc_of (xs := xs) (by intro e; subst e; simp at h)
  obtain ⟨ws, y, rfl⟩ := snoc_of (xs := ys) (by intro e; subst e; simp at h)
  exact ⟨ws, y, z, rfl⟩
theorem forC_unit {ρ : Type} {f : Unit → U → M (Ct Unit ρ)} : ∀ {xs : List U}, (∀ x ∈ xs, f () x = .ok (.nx ())) → forC f xs () = .ok (.nx ())
  | [], _ => rfl
  | x :: xs, i => by
    rw [forC, i x (List.mem_cons_self ..), M.bind_ok]
    exact forC_unit fun x hx => i x (List.mem_cons_of_mem _ hx)
theorem Ok.bindw {α β : Type} {m : M α} {k : α → M β} {Q : β → Prop} (h : Ok m fun a => Ok (k a) Q) : Ok (m.bind k) Q := h.bind fun _ h => h
theorem Ok_ok {α : Type} {a : α} {P : α → Prop} : Ok (.ok a) P = P a := propext ⟨fun ⟨_, e, p⟩ => by cases e; exact p, fun h => ⟨a, rfl, h⟩⟩
theorem Ok_ite {α : Type} {c : Bool} {m m' : M α} {P : α → Prop} : Ok (if c = true then m else m') P = ((c = true → Ok m P) ∧ (c = false → Ok m' P)) := by
  cases c <;> simp
theorem Ok_itd {α : Type} {c : Prop} [Decidable c] {m m' : M α} {P : α → Prop} : Ok (if c then m else m') P = ((c → Ok m P) ∧ (¬ c → Ok m' P)) := by
  by_cases h : c <;> simp [h]
theorem Ok_bind {α β : Type} {m : M α} {k : α → M β} {Q : β → Prop} : Ok (m.bind k) Q = Ok m fun a => Ok (k a) Q := by
  apply propext; constructor
  · rintro ⟨b, e, q⟩
    cases m with
    | ok a => exact ⟨a, rfl, b, e, q⟩
    | stuck => cases e
    | err c us => cases e
  · exact Ok.bindw
theorem Ok_calm {α : Type} {m : M α} {P : α → Prop} : Ok m.calm P = Ok m P := by
  apply propext; constructor
  · rintro ⟨a, e, p⟩
    cases m with
    | ok b => exact ⟨a, e, p⟩
    | stuck => cases e
    | err c us => cases e
  · exact Ok.calm
end Sh

/-! Sh10: sorted lists of sayings, each once. -/
namespace Law
open PySem L2 Pl Sh
def isShown : Sy → Bool
  | .shown _ => true
  | _ => false
end Law
namespace Sh
open PySem L2 Pl Law
@[simp] theorem addM_lst {us vs : List U} (h : us.length + vs.length < 10000000) : addM (.lst us) (.lst vs) = .ok (.lst (us ++ vs)) := sz_ok h
@[simp] theorem slM_tail {us : List U} {a : U} : slM (.tup (a :: us)) (some 1) none = .ok (.tup us) := by
  show M.ok _ = _
  congr 2
  unfold cutU
  have e1 : HT.sIx (a :: us).length 0 (some 1) = 1 := by unfold HT.sIx; simp
  have e2 : HT.sIx (a :: us).length (a :: us).length none = us.length + 1 := by unfold HT.sIx; simp
  rw [e1, e2]; simp
/-- the first word of a saying -/
def wd : Sy → Str
  | .no => "no"
  | .lt _ => "letter"
  | .not _ => "not"
  | .shown _ => "shown"
  | .bin o _ _ => o.s
/-- what stands behind it -/
def tl : Sy → List U
  | .no => []
  | .lt l => [.str l.s]
  | .not a => [su a]
  | .shown a => [su a]
  | .bin _ a b => [su a, su b]
theorem su_tup (s : Sy) : su s = .tup (.str (wd s) :: tl s) := by cases s <;> rfl
@[simp] theorem ix_su0 {s : Sy} : ixM (su s) (.int 0) = .ok (.str (wd s)) := by rw [su_tup]; exact ix_t0
@[simp] theorem wd_shown {s : Sy} : (wd s = Str.ofString "shown") = (isShown s = true) := by
  cases s with
  | bin o a b => cases o <;> simp [wd, isShown, Bop.s]
  | _ => simp [wd, isShown]
end Sh
namespace Sh
open PySem L2 Pl Law
@[simp] theorem un2_ok {a b : U} : un2 (.tup [a, b]) = .ok (a, b) := rfl
@[simp] theorem un3_ok {a b c : U} : un3 (.tup [a, b, c]) = .ok (a, b, c) := rfl
@[simp] theorem zipM_lst {us vs : List U} : zipM (.lst us) (.lst vs) = .ok (zipU us vs) := rfl
@[simp] theorem enumM_lst {us : List U} : enumM (.lst us) = .ok (enumU us) := rfl
@[simp] theorem revM_lst {us : List U} : revM (.lst us) = .ok us.reverse := rfl
end Sh
namespace Sh
open PySem L2 Pl Law
end Sh
namespace Law
open PySem L2 Pl Sh
def words : List Str := ["and", "if", "letter", "no", "not", "or", "shown"]
end Law
namespace Sh
open PySem L2 Pl Law
@[simp] theorem ltM_str {s t : Str} : ltM (.str s) (.str t) = .ok (decide (s.cps.toList < t.cps.toList)) := rfl
end Sh
namespace Sh
open PySem L2 Pl Law
end Sh

/-! Sh11: index; dicts. -/
namespace Sh
open PySem L2 Pl PyProof.Rows Law
/-- a dict's keys and what stands under them -/
abbrev Dc := List Key × List U
section
variable {κ : Kl} {C : Pl.Ctx} {E : ER} {Γ : Pl.Env} {Λ : Cells} {P : D → Cells → Prop} {pos apos cpos p : Pos} {o e f : Expr}
variable {R : Rs} {pos' : Pos} {i : Expr}
end
end Sh
namespace Sh
open PySem L2 Pl PyProof.Rows Law
section
variable {κ : Kl} {Λ : Cells} {α : Type} {Q : α → Prop} {Eh : Str → List U → Prop} {x : D}
def asD : U → M Dc
  | .dic ks us => .ok (ks, us)
  | _ => .stuck
@[simp] theorem asD_ok {ks : List Key} {us : List U} : asD (.dic ks us) = .ok (ks, us) := rfl
end
end Sh
namespace Law
open PySem L2 Pl Sh
theorem canLay_su : ∀ s : Sy, (pyU (su s)).canLay0 = true
  | .no => by show (PyData.tuple [.str "no"]).canLay0 = true; decide +kernel
  | .lt l => by cases l <;> (show (PyData.tuple [.str "letter", .str _]).canLay0 = true) <;> decide +kernel
  | .not a => by
    have h : PyData.canLay0 (.str "not") = true := by decide +kernel
    show (PyData.tuple [.str "not", pyU (su a)]).canLay0 = true
    simp only [PyData.canLay0, PyData.canLayAll0, canLay_su a, Bool.and_true]
    simpa only [PyData.canLay0] using h
  | .shown a => by
    have h : PyData.canLay0 (.str "shown") = true := by decide +kernel
    show (PyData.tuple [.str "shown", pyU (su a)]).canLay0 = true
    simp only [PyData.canLay0, PyData.canLayAll0, canLay_su a, Bool.and_true]
    simpa only [PyData.canLay0] using h
  | .bin o a b => by
    have h : ∀ o : Bop, PyData.canLay0 (.str o.s) = true := by intro o; cases o <;> decide +kernel
    have h := h o
    show (PyData.tuple [.str o.s, pyU (su a), pyU (su b)]).canLay0 = true
    simp only [PyData.canLay0, PyData.canLayAll0, canLay_su a, canLay_su b, Bool.and_true]
    simpa only [PyData.canLay0] using h
theorem canLay_lt (l : Lt) : (pyU (ltU l)).canLay0 = true := by cases l <;> (show (PyData.str _).canLay0 = true) <;> decide +kernel
/-- a letter or a saying, not deep -/
def Th (n : Nat) (u : U) : Prop := (∃ l : Lt, u = ltU l) ∨ ∃ s : Sy, u = su s ∧ s.ht ≤ n
theorem Th.lay {n : Nat} {u : U} (h : Th n u) : (pyU u).canLay0 = true ∧ (pyU u).depth ≤ n ∧ pl u = true := by
  rcases h with ⟨l, rfl⟩ | ⟨s, rfl, hs⟩
  · exact ⟨canLay_lt l, Nat.zero_le _, by cases l <;> rfl⟩
  · have := dp_su s; unfold dp at this
    exact ⟨canLay_su s, by omega, pl_su s⟩
theorem Th.refl {n : Nat} {u : U} (h : Th n u) : PyData.eqv (pyU u) (pyU u) = true := PySem.SeqAt.eqv_refl_plain _ h.lay.2.2
end Law

/-! Sh12: classes: made, their fields, their methods. -/
namespace Sh
open PySem L2 Pl PyProof.Rows Law
/-- a class of the module with plain fields -/
structure ClsAt (K : PySem.W.Frag) (mg : Str → Option Value) (x : Str) (Cl : Addr) (ns : List Str) : Prop where
  gl : mg x = some (.ref Cl)
  cl : Cls K Cl
  nf : ∀ f ∈ ns, NoAttr K Cl f
structure MethAt (K : PySem.W.Frag) (Cl : Addr) (m qual : Str) (st : Stmt) (ps : List Str) : Prop where
  ex : ∃ f fd, Fun K m qual st f fd ∧ Meth K Cl m f ∧ ∀ us : List Value, us.length = ps.length → bindArgs fd ⟨us, []⟩ = pure (ps.zip us)
structure InitAt (K : PySem.W.Frag) (Cl : Addr) (qual : Str) (st : Stmt) (ps : List Str) : Prop where
  ex : ∃ f fd, Fun K "__init__" qual st f fd ∧ Mk K Cl f ∧ ∀ us : List Value, us.length = ps.length → bindArgs fd ⟨us, []⟩ = pure (ps.zip us)
/-- a method's promise, an __init__'s -/
structure Mt (P : Program) (w : World) (K : PySem.W.Frag) (mg : Str → Option Value) (base : Heap) (k : Nat) (Cl : Addr) (m : Str) (n : Nat) (S : Pl.Spec) : Prop where
  ex : ∃ f fd ps, FnG P w K mg base (L2.CX P w) k f fd ps (spOf K n S) ∧ Meth K Cl m f ∧ Binds K fd ps []
structure It (P : Program) (w : World) (K : PySem.W.Frag) (mg : Str → Option Value) (base : Heap) (k : Nat) (Cl : Addr) (n : Nat) (S : Pl.Spec) : Prop where
  ex : ∃ f fd ps, FnG P w K mg base (L2.CX P w) k f fd ps (spOf K n S) ∧ Mk K Cl f ∧ Binds K fd ps []
abbrev it (C : Pl.Ctx) := It C.P C.w C.K C.mg C.base
theorem passF {X : Cx} {P : Program} {w : World} : Passes (L2.CX P w) X fun _ _ _ => False := fun pins σ H s e s' I hc => by
  obtain ⟨_, _, _, _, _, _, _, _, _, _, _, _, z⟩ := hc
  exact z.elim
section
variable {K : PySem.W.Frag} {F : Fm} {B : Hp} {α : List Addr} {Γ : Pl.Env} {Λ : Cells} {σ : L2.St} {H : Hp}
end
section
variable {κ : Kl} {C : Pl.Ctx} {E : ER} {Γ : Pl.Env} {Λ : Cells} {pos p apos pos' : Pos} {o e : Expr} {es : List Expr} {f : Str}
variable {R : Rs}
end
/-! defs of classes -/
section
variable {κ : Kl} {G : Gl} {Cl : Addr}
abbrev Glmt (G : Gl) := Mt G.P G.w G.K G.mg G.base
abbrev Glit (G : Gl) := It G.P G.w G.K G.mg G.base
theorem MethAt.fn {m qual : Str} {st : Stmt} {ps : List Str} (h : MethAt G.K Cl m qual st ps) {k : Nat} {S : Pl.Spec} (H : ∀ (f : Addr) (fd : FuncData), Fun G.K m qual st f fd → FnG G.P G.w G.K G.mg G.base (L2.CX G.P G.w) k f fd ps (spOf G.K ps.length S)) : Glmt G k Cl m ps.length S := by
  obtain ⟨f, fd, h1, h2, h3⟩ := h.ex
  exact ⟨f, fd, ps, H f fd h1, h2, .all h3⟩
theorem InitAt.fn {qual : Str} {st : Stmt} {ps : List Str} (h : InitAt G.K Cl qual st ps) {k : Nat} {S : Pl.Spec} (H : ∀ (f : Addr) (fd : FuncData), Fun G.K "__init__" qual st f fd → FnG G.P G.w G.K G.mg G.base (L2.CX G.P G.w) k f fd ps (spOf G.K ps.length S)) : Glit G k Cl ps.length S := by
  obtain ⟨f, fd, h1, h2, h3⟩ := h.ex
  exact ⟨f, fd, ps, H f fd h1, h2, .all h3⟩
end
end Sh

/-! Sh13: a loop over a list of owned lists, its body one expression. -/
namespace Sh
open PySem L2 Pl PyProof.Rows Law
section
variable {C : Pl.Ctx} {Γ : Pl.Env} {Λ : Cells} {R : Rs} {pos pos2 : Pos}
end
end Sh
namespace Sh
open PySem L2 Pl PyProof.Rows Law
section
variable {κ : Kl} {C : Pl.Ctx} {E : ER} {Γ : Pl.Env} {Λ : Cells} {pos : Pos} {a b : Expr} {P : D → Cells → Prop}
end
end Sh
namespace Sh
open PySem L2 Pl PyProof.Rows Law
/-! classes in the text -/
/-- the one field of a thing of the class c -/
def fldM (c : Str) : U → M U
  | .ins c' [k] => if c' = c then .ok k else .stuck
  | _ => .stuck
@[simp] theorem fldM_ok {c : Str} {k : U} : fldM c (.ins c [k]) = .ok k := if_pos rfl
section
variable {κ : Kl} {Λ : Cells} {α : Type} {Q : α → Prop} {Eh : Str → List U → Prop} {c f : Str} {u : U} {k : U → M α}
end
section
variable {G : Gl} {Cl : Addr}
theorem MethAt.none {m qual : Str} {st : Stmt} {ps : List Str} (h : MethAt G.K Cl m qual st ps) {k : Nat} {S : Pl.Spec} (hS : ∀ ds Λ Q E, ¬ S ds Λ Q E) : Glmt G k Cl m ps.length S :=
  h.fn fun f fd F => ⟨fun vs H Q E ⟨_, _, _, _, _, _, _, z⟩ => absurd z (hS _ _ _ _), fun A outer s H args us vs Q E _ _ _ _ ⟨_, _, _, _, _, _, _, z⟩ => absurd z (hS _ _ _ _)⟩
theorem InitAt.none {qual : Str} {st : Stmt} {ps : List Str} (h : InitAt G.K Cl qual st ps) {k : Nat} {S : Pl.Spec} (hS : ∀ ds Λ Q E, ¬ S ds Λ Q E) : Glit G k Cl ps.length S :=
  h.fn fun f fd F => ⟨fun vs H Q E ⟨_, _, _, _, _, _, _, z⟩ => absurd z (hS _ _ _ _), fun A outer s H args us vs Q E _ _ _ _ ⟨_, _, _, _, _, _, _, z⟩ => absurd z (hS _ _ _ _)⟩
end
section
variable {κ : Kl} {C : Pl.Ctx} {E : ER} {Γ : Pl.Env} {Λ : Cells} {P : D → Cells → Prop} {pos apos cpos : Pos} {o e : Expr}
end
end Sh

/-! Sh14: zip of a text with a list. -/
namespace Sh
open PySem L2 Pl PyProof.Rows Law
section
variable {P : Program} {w : World} {K : PySem.W.Frag} {elts : List Expr} {kk : Nat} {tpos : Pos} {b z TI TO i1 i2 : Addr} {x : Str} {tx : Tok}
end
section
variable {K : PySem.W.Frag} {B : Hp}
end
section
variable {κ : Kl} {C : Pl.Ctx} {E : ER} {Γ : Pl.Env} {Λ : Cells} {Pn : List D → Cells → Prop} {pos p tpos : Pos} {e e2 tg : Expr} {elts : List Expr} {kk : Nat}
end
end Sh

/-! Sh15: things of one of several classes; a def read off a class; what is owned looked at by an expression that gives a bare thing. -/
namespace Sh
open PySem L2 Pl PyProof.Rows Law
section
variable {X : Cx} {CX : CXT} {E : XK} {o e : Expr} {es : List Expr} {m : Str} {pos apos : Pos} {ta : TE} {t : TA} {pl : Sem Bool}
end
section
variable {κ : Kl} {C : Pl.Ctx} {E : ER} {Γ : Pl.Env} {Λ : Cells} {pos p apos pos' : Pos} {o e : Expr} {es : List Expr} {f m : Str} {cs : List Str} {k n : Nat}
end
/-! a def read off a class, called with the thing that is being made -/
structure CAt (K : PySem.W.Frag) (mg : Str → Option Value) (x m qual : Str) (st : Stmt) (ps : List Str) : Prop where
  ex : ∃ Cl mc f fd, mg x = some (.ref Cl) ∧ ClX.CRead K Cl mc ∧ PySem.W.findCls K (.ref Cl) mc m = some (.val (.ref f)) ∧ PySem.W.keepIn K (.ref f) = true ∧ Fun K m qual st f fd ∧ ∀ us : List Value, us.length = ps.length → bindArgs fd ⟨us, []⟩ = pure (ps.zip us)
structure Cfn (P : Program) (w : World) (K : PySem.W.Frag) (mg : Str → Option Value) (base : Heap) (k : Nat) (x m : Str) (n : Nat) (S : Pl.Spec) : Prop where
  ex : ∃ Cl mc f fd ps, mg x = some (.ref Cl) ∧ ClX.CRead K Cl mc ∧ PySem.W.findCls K (.ref Cl) mc m = some (.val (.ref f)) ∧ PySem.W.keepIn K (.ref f) = true ∧ FnG P w K mg base (L2.CX P w) k f fd ps (spOf K n S) ∧ Binds K fd ps []
abbrev Glct (G : Gl) := Cfn G.P G.w G.K G.mg G.base
section
variable {κ : Kl} {C : Pl.Ctx} {E : ER} {Γ : Pl.Env} {Λ : Cells} {pos p apos : Pos} {e : Expr} {es : List Expr} {f m x : Str} {k n : Nat} {G : Gl}
theorem CAt.fn {qual : Str} {st : Stmt} {ps : List Str} (h : CAt G.K G.mg x m qual st ps) {S : Pl.Spec} (H : ∀ (f : Addr) (fd : FuncData), Fun G.K m qual st f fd → FnG G.P G.w G.K G.mg G.base (L2.CX G.P G.w) k f fd ps (spOf G.K ps.length S)) : Glct G k x m ps.length S := by
  obtain ⟨Cl, mc, f, fd, h1, h2, h3, h4, h5, h6⟩ := h.ex
  exact ⟨Cl, mc, f, fd, ps, h1, h2, h3, h4, H f fd h5, .all h6⟩
theorem CAt.none {qual : Str} {st : Stmt} {ps : List Str} (h : CAt G.K G.mg x m qual st ps) {S : Pl.Spec} (hS : ∀ ds Λ Q E, ¬ S ds Λ Q E) : Glct G k x m ps.length S :=
  h.fn fun f fd F => ⟨fun vs H Q E ⟨_, _, _, _, _, _, _, z⟩ => absurd z (hS _ _ _ _), fun A outer s H args us vs Q E _ _ _ _ ⟨_, _, _, _, _, _, _, z⟩ => absurd z (hS _ _ _ _)⟩
end
/-! ### an expression that gives a bare thing sees what is owned -/
inductive ThE (κ : Kl) (Λ : Cells) : Pl.Env → Pl.Env → Prop where
  | nil : ThE κ Λ [] []
  | no {o : Option D} {Γ Γ' : Pl.Env} (h : ThE κ Λ Γ Γ') : ThE κ Λ (o :: Γ) (none :: Γ')
  | so {d : D} {u : U} {Γ Γ' : Pl.Env} (h : fv Λ d = em κ u) (h2 : ThE κ Λ Γ Γ') : ThE κ Λ (some d :: Γ) (some (em κ u) :: Γ')
theorem ThE.len {κ : Kl} {Λ : Cells} {Γ Γ' : Pl.Env} (h : ThE κ Λ Γ Γ') : Γ'.length = Γ.length := by
  induction h with
  | nil => rfl
  | no _ ih => simp [ih]
  | so _ _ ih => simp [ih]
theorem ThE.get {κ : Kl} {Λ : Cells} {Γ Γ' : Pl.Env} (h : ThE κ Λ Γ Γ') : ∀ (i : Nat) (d' : D), Γ'[i]? = some (some d') → ∃ d u, Γ[i]? = some (some d) ∧ fv Λ d = em κ u ∧ d' = em κ u := by
  induction h with
  | nil => intro i d' e; simp at e
  | no _ ih => intro i d' e; cases i with
    | zero => simp at e
    | succ i => simpa using ih i d' (by simpa using e)
  | so h _ ih => intro i d' e; cases i with
    | zero => simp at e; exact ⟨_, _, rfl, h, e.symm⟩
    | succ i => simpa using ih i d' (by simpa using e)
section
variable {κ : Kl} {C : Pl.Ctx} {E : ER} {Γ Γ' : Pl.Env} {Λ : Cells} {e : Expr}
/-- all of them bare -/
def bare : U → Bool
  | .non => true
  | .bl _ => true
  | .int _ => true
  | .str _ => true
  | _ => false
end
/-! ### the facts of classes, out of the text -/
def adOf (mg : Str → Option Value) (x : Str) : Addr := match mg x with
  | some (.ref a) => a
  | _ => 0
section
variable {K : PySem.W.Frag} {mg : Str → Option Value} {x : Str} {C : Addr}
theorem adOf_eq (h : mg x = some (.ref C)) : adOf mg x = C := by unfold adOf; rw [h]
theorem gAt (h : mg x = some (.ref C)) : mg x = some (.ref (adOf mg x)) := by rw [adOf_eq h]; exact h
end
section
variable {κ : Kl} {C : Pl.Ctx} {Γ : Pl.Env} {Λ : Cells} {tg : Expr} {ws : List Nat} {Pg : Pl.Env → Prop} {α : Type} {Q : α → Prop} {Eh : Str → List U → Prop}
end
end Sh

/-! Sh16: what is owned, handed to a def that hands back bare things and tuples of such; things made with what is owned. -/
namespace Sh
open PySem L2 Pl PyProof.Rows Law
/-- bare things and tuples of such -/
def imm : U → Bool
  | .non => true
  | .bl _ => true
  | .int _ => true
  | .str _ => true
  | .tup us => imms us
  | _ => false
where imms : List U → Bool
  | [] => true
  | u :: us => imm u && imms us
def immM (u : U) : M U := if imm u = true then .ok u else .stuck
@[simp] theorem immM_int {i : Int} : immM (.int i) = .ok (.int i) := rfl
@[simp] theorem immM_bl {i : Bool} : immM (.bl i) = .ok (.bl i) := rfl
section
variable {K : PySem.W.Frag} {F : Fm} {B : Hp} {α : List Addr} {Γ : Pl.Env} {Λ : Cells} {σ : L2.St} {H : Hp}
variable {H1 B' H2 : Hp} {α' α0 : List Addr} {Γ' : Pl.Env} {Λ' : Cells} {σ' : L2.St} {X : Addr → Prop}
end
section
variable {κ : Kl} {C : Pl.Ctx} {E : ER} {Γ Γ' : Pl.Env} {Λ : Cells} {e : Expr}
end
/-! ### __init__: the field is a new list -/
section
variable {κ : Kl}
end
section
variable {κ : Kl} {G : Gl} {Cl : Addr} {x m : Str} {N : List Str} {vs ls : List Bool} {gl : List Str} {k : Nat} {f : Str} {g : List U → M (List U)} {qual : Str} {st : Stmt} {ps : List Str}
end
section
variable {κ : Kl} {C : Pl.Ctx} {E : ER} {Γ : Pl.Env} {Λ : Cells} {pos p apos : Pos} {e : Expr} {es : List Expr} {f m x c : Str} {k n : Nat}
variable {R : Rs} {o : Expr}
end
end Sh

/-! Sh17: list(reversed(x)), list(range(..)), x.reverse(), isinstance(x, C). -/
namespace Sh
open PySem PySem.Spec L2 Pl PyProof.Rows Law
section
variable {prog : Program} {w : World} {A : Around} {E : Value → Shared → Prop} {s : Shared}
end
section
variable {κ : Kl} {C : Pl.Ctx} {E : ER} {Γ : Pl.Env} {Λ : Cells} {pos p p2 pos2 apos cpos : Pos} {e e2 o : Expr}
/-- isinstance(x, T), x a thing of the class at Ci -/
structure IsiC (K : PySem.W.Frag) (Ci Ct : Addr) : Prop where
  cl : Cls K Ci
  ha : PySem.W.findIn K (.ref Ci) "__class__" = some (some (.builtin "object.__class__"))
  hn : PySem.W.specialIn K (.builtin "object.__class__") "__get__" = some (some (.builtin "getset_descriptor.__get__"))
  htk : PySem.W.takesIn K (.builtin "object.__class__") = some true
  hm : PySem.W.mroIn K Ci (.type "object") = some true
  me : PySem.W.kitOne K (.ref Ci) (.ref Ct) = some true
end
end Sh

/-! Sh18: refusals: raise, try, what was caught. -/
namespace L2
open PySem PySem.Spec PyProof.Rows
section
variable {X : Cx} {pins : List (Addr × Obj)} {σ : St} {H : Hp} {s : Shared}
/-- X(), X an own exception class without own __init__ -/
theorem pmk_own0 {C : Addr} {bmB : List Value} {B newId initId : String} {x : Str} {p pos : Pos} (F : ExcBaseFacts B newId initId bmB) (q : PySem.W.excIn X.K C bmB newId = true) (gC : X.mg x = some (.ref C))
    (kC : PySem.W.keepIn X.K (.ref C) = true) (r : Raises X (.ref C)) (hg : Gl X x) (hdb : (x == ("__debug__" : Str)) = false) :
    PMk X (.Call (.Name x p) [] [] pos) (fun σ H Q => Q (.ref C) none H) := by
  intro pins s σ H Q I h
  refine wpAny_Call_Name_kw (ld_glob I hg gC ?_ hdb)
  refine PySem.W.callWith_K0 (first := []) I.kIn kC ?_
  show wpAny _ _ (call (.ref C) []) _ _ _
  obtain ⟨bm, N, nm, qn, bs, hdct, sn, sub, ab, col, dd, k0, k1, k2, k3, k5, mN, hC, hN, hni, T⟩ := exc_obj I.kIn q
  refine wpAny_call_exc_subT F T hC hN hni (fun h' e hm => ?_) (Nat.zero_le _)
  exact mk_of I hm r h (I.hok.gone hm.new)
theorem excHO_ok {P : Program} {w : World} {h : Heap} {C a : Addr} {d : Option Addr} {oe : Obj} {vs : Array Value} (e : h.get? a = some oe) (z : Zc (.ref C) d oe) (hd : oe.data = .fields vs) : ObjOk P w H h a (Pl.excHO C a d) :=
  ⟨⟨oe, vs, e, z, hd⟩, ⟨oe, e⟩, fun _ _ ⟨o, v, q, r⟩ k => ⟨o, v, k o q, r⟩⟩
/-- an exception that was caught is tracked -/
theorem Inv.track {a C : Addr} {d : Option Addr} {oe : Obj} {vs : Array Value} (I : Inv X pins σ H s) (ha : s.heap.get? a = some oe) (hz : Zc (.ref C) d oe) (hd : oe.data = .fields vs) (na : H a = none) (n0 : X.s_0.heap.get? a = none) (nL : a ≠ X.env.locals)
    (nP : ∀ p ∈ X.pn ++ pins, p.1 ≠ a) : Inv X pins σ (upd H a (Pl.excHO C a d)) s := by
  have ne0 : ∀ b o, X.s_0.heap.get? b = some o → b ≠ a := fun b o e z => by rw [z, n0] at e; cases e
  have neS : ∀ b u, H b = some u → b ≠ a := fun b u e z => by rw [z, na] at e; cases e
  have neC : ∀ x c, X.env.cells.lookup x = some c → c ≠ a := fun x c e z => by
    obtain ⟨v, o, ho, hc⟩ := I.cell x c e
    rw [z, ha] at ho; cases ho
    rw [hd] at hc; cases hc
  refine ⟨I.ok, I.os, I.bare, ⟨fun b o e n hb hq => I.base.keep b o e n hb hq, fun b o e n hb hq => I.base.slot b o e n hb hq, fun b o e n hq => ?_, fun b o e hq => I.base.there b o e hq, fun b xs e => ?_, fun b o u e => ?_, fun b ps e => ?_⟩, I.loc, I.cell, ?_, fun x c e => ?_, fun p hp => ?_, fun b u e => ?_, I.len⟩
  · rw [upd_ne (ne0 b o e)]; exact I.base.free b o e n hq
  · have q := I.base.tups b xs e
    rw [upd_ne (neS b _ q)]; exact q
  · have q := I.base.frzs b o u e
    rw [upd_ne (neS b _ q)]; exact q
  · obtain ⟨m, q⟩ := I.base.tbls b ps e
    exact ⟨m, by rw [upd_ne (neS b _ q)]; exact q⟩
  · rw [upd_ne (Ne.symm nL)]; exact I.free
  · rw [upd_ne (neC x c e)]; exact I.freeC x c e
  · obtain ⟨e, n, r⟩ := I.pin p hp
    exact ⟨e, by rw [upd_ne (nP p hp)]; exact n, r⟩
  · by_cases hb : b = a
    · subst hb
      rw [upd_same] at e; cases e
      exact excHO_ok ha hz hd
    · rw [upd_ne hb] at e
      refine (I.hok b u e).stay (fun c v hc q => q) (fun c q => ?_) fun c xs q => ?_
      · rw [upd_ne (neS c _ q)]; exact q
      · rw [upd_ne (neS c _ q)]; exact q
end
/-- what the clause 'except x as n: y = n' wishes of an exception of the body: n's slot is i, y's j -/
def wNote (K : PySem.W.Frag) (c : Value) (i j : Nat) (D : Ends) : WX := fun cls d σ H =>
  PySem.W.exmOne K cls c = some true ∧ ∃ C, cls = .ref C ∧ ∀ a, H a = none → D.nx (((σ.set i (some (.ref a))).set j (some (.ref a))).set i none) (upd H a (Pl.excHO C a d))
section
variable {X : Cx} {x n y : Str} {c : Value} {i j : Nat} {body : List Stmt} {np np2 yp apos pos pos' : Pos} {tb : WX → TS}
theorem ps_try_note (hex : X.ex = []) (hs : X.stack = X.env :: X.outer) (hf : X.env.frame = some X.env.locals) (hN : X.N.Nodup) (hi : X.N[i]? = some n) (hln : X.env.kindOf n = some .local) (hj : X.N[j]? = some y) (hlj : X.env.kindOf y = some .local) (hij : i ≠ j) (hc : Names X x c)
    (hnd : (n == ("__debug__" : Str)) = false) (hnc : (n == ("__classdict__" : Str)) = false)
    (hb : ∀ (W : WX) (pn : List (Addr × Obj)) (xe : Value → Shared → Prop), Takes (X.tr pn xe) W → PassesOwn (model X.prog X.w) X.A X.env xe → PSs (X.tr pn xe) body (tb W)) :
    PS X (.Try body [.ExceptHandler (some (.Name x np)) (some n) [.Assign [.Name y yp] (.Name n np2) apos] pos'] [] [] pos) (fun D σ H => tb (wNote X.K c i j D) D σ H) := by
  refine ⟨fun pins s σ H D I h => ?_⟩
  have ok := I.ok
  have hfr : X.A.frames = some (X.env :: X.outer) := by rw [ok.frames, hs]
  have hloc : Loc X.env.scope n := .inl hln
  refine wpAny_Try_except ?_
  refine wpAny_mono ((hb (wNote X.K c i j D) (X.pn ++ pins) (fun e s₁ => wpAny (model X.prog X.w) X.A (noteFrame e X.env) (fun _ s₂ => wpAny (model X.prog X.w) X.A (setFlight e none) (fun _ s₃ =>
    wpAny (model X.prog X.w) X.A (handleBy e X.env [.ExceptHandler (some (.Name x np)) (some n) [.Assign [.Name y yp] (.Name n np2) apos] pos']) (SP X pins D) X.xe s₃) X.xe s₂) X.xe s₁) (fun u s' xx => ?_) PassesOwn.looking).run [] s σ H D (I.toTry _) h) (fun f s1 hsp => ?_) (fun e s1 he => he)
  · -- the catch
    obtain ⟨a, B, sI, pins', σ', H', cls, d, rfl, J', nb, up, sky, na, os, ag, hb1, C, rfl, hyes⟩ := xx
    have J : Inv X pins σ' H' sI := J'.ofTry ok
    have sky' : Sky B (X.env :: X.outer) a (Zc (.ref C) d) X.env.locals s'.heap := by rw [← hs]; exact sky
    show wpAny (model X.prog X.w) X.A (noteFrame (.ref a) X.env) _ _ _
    refine Sky.land Zc.steady hfr hf sky' fun h3 fl3 up3 => ?_
    have J3 : Inv X pins σ' H' { s' with heap := h3 } := J.landed nb fl3.1 (up.trans up3) os ag
    obtain ⟨oe3, vs3, he3, hz3, hd3⟩ := fl3.there
    have notFr : ∀ {h : Heap} {o : Obj} {vs : Array Value}, h.FunFrames B (X.env :: X.outer) → h.get? a = some o → o.data = .fields vs → a ∉ frs (X.env :: X.outer) := fun {h o vs} ff e dd hm => by
      obtain ⟨_, o', e', hnf⟩ := ff.mem hm
      rw [e] at e'; cases e'
      exact hnf _ dd
    have nfr := notFr fl3.2.2.1 he3 hd3
    have nL : a ≠ X.env.locals := fun z => nfr (List.mem_filterMap.mpr ⟨X.env, List.mem_cons_self, by rw [hf, z]⟩)
    have nF : a ∉ X.fs := fun hm => by
      obtain ⟨e, he, q⟩ := List.mem_filterMap.mp hm
      exact nfr (List.mem_filterMap.mpr ⟨e, List.mem_cons_of_mem _ he, q⟩)
    have nI : sI.heap.get? a = none := by
      cases q : sI.heap.get? a with
      | none => rfl
      | some o =>
        have z := nb a o q (by rw [hs]; exact nfr)
        rw [fl3.2.1] at z; cases z
    have nP : ∀ p ∈ X.pn ++ pins, p.1 ≠ a := fun p hp z => by
      have e := (J.pin p hp).1
      rw [z, nI] at e; cases e
    have n0 : X.s_0.heap.get? a = none := by
      cases q : X.s_0.heap.get? a with
      | none => rfl
      | some o =>
        obtain ⟨o', z⟩ := J.base.there a o q (by show a ∉ X.ex; rw [hex]; exact fun z => nomatch z)
        rw [nI] at z; cases z
    have S3 := J3.suite he3 hd3 na nL nF
    refine wpAny_handleBy_cons (codeAny_handlers_test ?_) (by intro q; cases q)
    have LT : PySem.W.Looks (model X.prog X.w) h3 (typeOf (.ref a)) (.ref C) := fun A Q E s k q => wpAny_typeOf_ref (k _ _ he3) (by rw [hz3.1]; exact q)
    have LM := PySem.W.exm_one (M := model X.prog X.w) (J3.kIn) LT hb1
    have test : ∀ {Q : Value → Shared → Prop} {E : Value → Shared → Prop}, Q c { s' with heap := h3 } → wpAny (model X.prog X.w) (X.A.mark (some (.ref a))) (eval (.Name x np) X.env) Q E { s' with heap := h3 } := fun {Q E} q => by
      obtain ⟨hg, hdbg, hm | ⟨hm, hv, hnn⟩⟩ := hc
      · exact ld_glob (X := X.suite a ((a, oe3) :: (X.pn ++ pins))) S3 hg hm q hdbg
      · exact ld_blt (X := X.suite a ((a, oe3) :: (X.pn ++ pins))) S3 hg hm hv q hnn hdbg
    refine test (LM.here ?_)
    refine codeAny_handlers_suite_as ?_
    refine HandSPX.lands_againZ fl3 fun h4 fl4 up4 => ?_
    have J4 : Inv X pins σ' H' { s' with heap := h4 } := J.landed nb fl4.1 ((up.trans up3).trans up4) os ag
    obtain ⟨oe4, vs4, he4, hz4, hd4⟩ := fl4.there
    have S4 := J4.suite he4 hd4 na nL nF
    refine store_ok (X := X.suite a ((a, oe4) :: (X.pn ++ pins))) (v := .ref a) S4 hN hi hloc rfl (fun s5 S5 => ?_) (.inr hln)
    have hlen : i < σ'.length := by rw [J.len]; exact (List.getElem?_eq_some_iff.mp hi).1
    have hp : PSs (X.suite a ((a, oe4) :: (X.pn ++ pins))) [.Assign [.Name y yp] (.Name n np2) apos] _ := pss_one (ps_set hN hj (.inl hlj) (pe_var hi (.inl hln) hnd hnc) rfl (.inr hlj))
    refine wpAny_mono (hp.run [] s5 _ H' { nx := fun σ6 H6 => σ6 = (σ'.set i (some (.ref a))).set j (some (.ref a)) ∧ H6 = H', rt := fun _ _ => False, bk := fun _ _ => False, ct := fun _ _ => False } S5 ?_) (fun f s6 hsp => ?_) (fun _ _ z => False.elim z)
    · exact ⟨.ref a, List.getElem?_set_self hlen, rfl, rfl⟩
    cases f with
    | next =>
      obtain ⟨σ6, H6, S6, e1, e2⟩ := hsp
      subst e1; subst e2
      have he6 := (S6.pin (a, oe4) (List.mem_append_left _ List.mem_cons_self)).1
      have J6 := (S6.unsuite ok).track he6 hz4 hd4 na n0 nL nP
      exact gone_ok J6 hN hi hln fun s7 J7 => ⟨_, _, J7, hyes a na⟩
    | brk => obtain ⟨σ6, H6, S6, z⟩ := hsp; exact z.elim
    | cont => obtain ⟨σ6, H6, S6, z⟩ := hsp; exact z.elim
    | ret u => obtain ⟨v6, σ6, H6, S6, r6, z⟩ := hsp; exact z.elim
  · cases f with
    | next =>
      obtain ⟨σ', H', J', q⟩ := hsp
      exact wpAny_execs_nil ⟨σ', H', J'.ofTry ok, q⟩
    | brk =>
      obtain ⟨σ', H', J', q⟩ := hsp
      exact ⟨σ', H', J'.ofTry ok, q⟩
    | cont =>
      obtain ⟨σ', H', J', q⟩ := hsp
      exact ⟨σ', H', J'.ofTry ok, q⟩
    | ret u =>
      obtain ⟨v, σ', H', J', r, q⟩ := hsp
      exact ⟨v, σ', H', J'.ofTry ok, r, q⟩
end
end L2

/-! Sh19: refusals in the pure reading. -/
namespace Pl
open PySem L2 PyProof.Rows
/-- the datum of an exception that was caught -/
def excD (C : Addr) (e : Err) : D := match e.fs with
  | none => .exc C [] []
  | some (ns, ds) => .exc C ns ds
section
variable {K : PySem.W.Frag} {F : Fm} {B B' : Hp} {α α' : List Addr} {Γ : Env} {Λ : Cells} {σ : L2.St} {H H' : Hp}
theorem Sat.unset {i : Nat} (S : Sat K F B α Γ Λ σ H) : Sat K F B α (Γ.set i none) Λ (σ.set i none) H := by
  refine S.env (by simpa using S.ln) fun k d h => ?_
  by_cases e : i = k
  · subst e
    by_cases hl : i < Γ.length
    · rw [List.getElem?_set_self hl] at h; cases h
    · rw [List.getElem?_eq_none (by simpa using hl)] at h; cases h
  · rw [List.getElem?_set_ne e] at h ⊢
    exact S.sl k d h
/-- a thing of the heap that is new is seen -/
theorem Sat.seeIf {p : Addr} {o : HO} (S : Sat K F B α Γ Λ σ H) (hp : H p = some o) (h : B p = none → F.H0 p = none ∧ p ∉ α) (hn : NoTbl o := by intro _ q; cases q) : ∃ B1, Sat K F B1 α Γ Λ σ H ∧ Ex B B1 ∧ B1 p = some o := by
  cases e : B p with
  | none => exact ⟨_, S.see hp e (h e).1 (h e).2 hn, Ex.new e, upd_same⟩
  | some u =>
    have := S.bh p u e
    rw [hp] at this; cases this
    exact ⟨B, S, Ex.refl B, e⟩
theorem Sat.caught {e : Err} {C a : Addr} {d : Option Addr} (S : Sat K F B α Γ Λ σ H) (ea : ErrAt K F B α H e (.ref C) d) (ha : H a = none) : ∃ B1, Sat K F B1 α Γ Λ σ (upd H a (excHO C a d)) ∧ Ex B B1 ∧ Rep K B1 α (excD C e) (.ref a) := by
  obtain ⟨_, e2⟩ := ea
  unfold excD
  cases hf : e.fs with
  | none =>
    rw [hf] at e2
    have hB : B a = none := S.bh.back ha
    refine ⟨_, S.lay ha, Ex.new hB, ?_⟩
    unfold Rep
    exact ⟨a, d, [], rfl, upd_same, .nil, rfl, (fun _ => rfl), fun dx q => by rw [e2] at q; cases q⟩
  | some z =>
    obtain ⟨ns, ds⟩ := z
    rw [hf] at e2
    obtain ⟨p, vs, q1, q2, q3, q4, q5⟩ := e2
    obtain ⟨B1, S1, x1, h1⟩ := S.seeIf q2 q5
    have hB : B1 a = none := S1.bh.back ha
    have x2 : Ex B1 (upd B1 a (excHO C a d)) := Ex.new hB
    refine ⟨_, S1.lay ha, x1.trans x2, ?_⟩
    dsimp only
    unfold Rep
    exact ⟨a, d, vs, rfl, upd_same, q3.mono (x1.trans x2) (List.prefix_refl _), q4, (fun z => by rw [q1] at z; cases z), fun dx q => by rw [q1] at q; cases q; exact x2 _ _ h1⟩
end
theorem set_note2 {α : Type} {l : List α} {i j : Nat} {r s t : α} (h : i ≠ j) : ((l.set i r).set j s).set i t = (l.set j s).set i t := by
  rw [List.set_comm _ _ h, List.set_set]
section
variable {C : Ctx} {Γ : Env} {Λ : Cells} {R : Rs} {x n y : Str} {CA : Addr} {i j : Nat} {body : List Stmt} {np np2 yp apos pos pos' : Pos}
/-- try: body / except x as n: y = n -/
theorem ws_tryNote (ht : C.tp = true) (hi : C.N[i]? = some n) (hln : C.sc.names.lookup n = some .local) (hj : C.N[j]? = some y) (hlj : C.sc.names.lookup y = some .local) (hij : i ≠ j) (hg : GlAt C x) (hm : C.mg x = some (.ref CA))
    (h : WSs C Γ Λ body { R with er := fun e Γ' Λ' => ∃ C1, e.cls = .ref C1 ∧ PySem.W.exmOne C.K (.ref C1) (.ref CA) = some true ∧ R.nx ((Γ'.set j (some (excD C1 e))).set i none) Λ' })
    (hd : (x == ("__debug__" : Str)) = false := by decide) (hnd : (n == ("__debug__" : Str)) = false := by decide) (hnc : (n == ("__classdict__" : Str)) = false := by decide) :
    WS C Γ Λ (.Try body [.ExceptHandler (some (.Name x np)) (some n) [.Assign [.Name y yp] (.Name n np2) apos] pos'] [] [] pos) R := fun X F W is hm' tk => by
  obtain ⟨h1, h2, h3⟩ := is.tp ht
  have e1 := is.K
  refine ps_imp (ps_try_note (i := i) (j := j) (c := .ref CA) h3 h1 h2 is.nd (is.ni hi) (by show X.env.scope.names.lookup n = _; rw [is.sc]; exact hln) (is.ni hj) (by show X.env.scope.names.lookup y = _; rw [is.sc]; exact hlj) hij
    ⟨is.gl hg, hd, .inl (by rw [is.mg]; exact hm)⟩ hnd hnc fun W' pn xe tk' po => h (X.tr pn xe) F W' ⟨is.prog, is.w, is.K, is.mg, is.base, is.N, is.sc, is.calmW, is.hdW, is.roomW, is.fn, is.good, po, is.tp, is.cdv⟩ hm' tk') fun D σ H ⟨B, α, S, q⟩ => ?_
  refine ⟨B, α, S, q.nx, q.rt, q.bk, q.ct, fun err Γ' Λ' B' α' σ' H' c dx r S' e ea => ?_⟩
  obtain ⟨C1, hc, hx, r⟩ := r
  have ec : c = .ref C1 := by rw [← hc]; exact ea.1
  subst ec
  refine ⟨by rw [e1]; exact hx, C1, rfl, fun a ha => ?_⟩
  obtain ⟨B1, S1, x1, r1⟩ := S'.caught ea ha
  rw [set_note2 hij]
  exact q.nx _ Λ' B1 α' _ _ r (S1.set r1).unset (e.trans x1)
end
end Pl
namespace Sh
open PySem L2 Pl PyProof.Rows
/-- k1 behind what goes well; refusals of the classes cs (each with its number of fields) are caught -/
def tryK {α σ : Type} (cs : List (Str × Nat)) (m : M σ) (k1 : σ → M α) (k2 : Str → List U → M α) : M α := match m with
  | .ok s => k1 s
  | .err c us => if cs.contains (c, us.length) then k2 c us else .stuck
  | .stuck => .stuck
@[simp] theorem tryK_ok {α σ : Type} {cs : List (Str × Nat)} {k1 : σ → M α} {k2 : Str → List U → M α} (a : σ) : tryK cs (.ok a) k1 k2 = k1 a := rfl
@[simp] theorem tryK_err {α σ : Type} {cs : List (Str × Nat)} {k1 : σ → M α} {k2 : Str → List U → M α} (c : Str) (us : List U) : tryK cs (.err c us) k1 k2 = if cs.contains (c, us.length) then k2 c us else .stuck := rfl
/-- .. at this state -/
def EIa (κ : Kl) (Eh : Str → List U → Prop) (E : ER) (Γ : Pl.Env) (Λ : Cells) : Prop := ∀ c us, Eh c us → E (errD κ c us) Γ Λ
theorem EI.at {κ : Kl} {Eh : Str → List U → Prop} {E : ER} {Γ : Pl.Env} {Λ : Cells} (h : EI κ Eh E) : EIa κ Eh E Γ Λ := fun c us q => h c us Γ Λ q
/-- .. where the first m cells are told -/
def EIm (κ : Kl) (m : Nat) (Eh : Str → List U → Prop) (E : ER) : Prop := ∀ c us Γ Λ, m ≤ Λ.length → (Λ.take m).all nlC = true → Eh c us → E (errD κ c us) Γ Λ
theorem EIm.at {κ : Kl} {m : Nat} {Eh : Str → List U → Prop} {E : ER} {Γ : Pl.Env} {Λ : Cells} (h : EIm κ m Eh E) (h1 : m ≤ Λ.length) (h2 : (Λ.take m).all nlC = true) : EIa κ Eh E Γ Λ := fun c us q => h c us Γ Λ h1 h2 q
theorem EI.m {κ : Kl} {m : Nat} {Eh : Str → List U → Prop} {E : ER} (h : EI κ Eh E) : EIm κ m Eh E := fun c us Γ Λ _ _ q => h c us Γ Λ q
/-- the wish of a try's body -/
def erT (κ : Kl) (Eh : Str → List U → Prop) (Γ : Pl.Env) (Λ : Cells) : ER := fun e Γ' Λ' => Γ' = Γ ∧ Λ' = Λ ∧ ∃ c us, e = errD κ c us ∧ Eh c us
theorem EIa.erT {κ : Kl} {Eh : Str → List U → Prop} {Γ : Pl.Env} {Λ : Cells} : EIa κ Eh (erT κ Eh Γ Λ) Γ Λ := fun c us h => ⟨rfl, rfl, c, us, rfl, h⟩
theorem excD_err {κ : Kl} {c : Str} {us : List U} (h : (κ.fs c).length = us.length) : excD (κ.ad c) (errD κ c us) = em κ (.exc c us) := by
  unfold excD errD
  dsimp only
  cases e : κ.fs c with
  | nil =>
    rw [e] at h
    have : us = [] := List.length_eq_zero_iff.mp h.symm
    subst this
    show D.exc _ [] [] = em κ (.exc c [])
    rw [em, e]; rfl
  | cons a b =>
    show D.exc _ _ _ = _
    rw [em, e]
theorem finFt {α β : Type} {κ : Kl} {Q : α → Prop} {Eh : Str → List U → Prop} {n : Nat} {f : List U → M β} {E : ER} {Γ : Pl.Env} {Λ : Cells} {ds : List D} {k : β → M α} {P : β → Prop} (us : List U) (hd : ds = ems κ us) (hn : us.length = n) (hE : EIa κ Eh E Γ Λ) (h : wp ((f us).bind k) Q Eh) (i : ∀ z, wp (k z) Q Eh → P z) : ∃ us, ds = ems κ us ∧ us.length = n ∧ wp (f us) P (fun c es => E (errD κ c es) Γ Λ) :=
  ⟨us, hd, hn, wp_mono (wp_bind h) i fun c es h => hE _ _ h⟩
/-- a class of refusals that a def raises without fields -/
structure ExcK (K : PySem.W.Frag) (mg : Str → Option Value) (κ : Kl) (c : Str) : Prop where
  g : mg c = some (.ref (κ.ad c))
  q : PySem.W.excIn K (κ.ad c) [.type "ValueError", .type "Exception", .type "BaseException", .type "object"] "ValueError.__new__" = true
  k : PySem.W.keepIn K (.ref (κ.ad c)) = true
  b : PySem.W.subIn K (.ref (κ.ad c)) (.type "BaseException") = some true
  t : PySem.W.typeIn K (.ref (κ.ad c)) = some (.type "type")
  f : κ.fs c = []
section
variable {κ : Kl} {C : Pl.Ctx} {E : ER} {Γ : Pl.Env} {Λ : Cells} {R : Rs} {pos pos' np : Pos} {x n y : Str} {Eh : Str → List U → Prop}
theorem tryK_key {α σ : Type} {Q : α → Prop} {cs : List (Str × Nat)} {m : M σ} {k1 : σ → M α} {k2 : Str → List U → M α} (h : wp (tryK cs m k1 k2) Q Eh) : wp m (fun st => wp (k1 st) Q Eh) (fun c us => (c, us.length) ∈ cs ∧ wp (k2 c us) Q Eh) := by
  unfold tryK at h
  cases m with
  | stuck => exact h
  | ok a => exact h
  | err c us =>
    dsimp only at h
    split at h
    · rename_i hc
      exact ⟨List.contains_iff_mem.mp hc, h⟩
    · exact h.elim
theorem ws_tryK {α σ : Type} {Q : α → Prop} {CA : Addr} {body : List Stmt} {np2 yp apos : Pos} (i j : Nat) (sh : σ → Pl.Env → Cells → Prop) (cs : List (Str × Nat)) (ht : C.tp = true) (hi : C.N[i]? = some n) (hln : C.sc.names.lookup n = some .local) (hj : C.N[j]? = some y) (hlj : C.sc.names.lookup y = some .local) (hij : i ≠ j) (hg : GlAt C x) (hm : C.mg x = some (.ref CA))
    (hx : ∀ c ∈ cs, PySem.W.exmOne C.K (.ref (κ.ad c.1)) (.ref CA) = some true ∧ (κ.fs c.1).length = c.2) {m : M σ} {k1 : σ → M α} {k2 : Str → List U → M α} (h : wp (tryK cs m k1 k2) Q Eh)
    (h1 : ∀ Q' E', wp m Q' E' → EIa κ E' (erT κ E' Γ Λ) Γ Λ → WSs C Γ Λ body { R with nx := fun Γ Λ => ∃ st, sh st Γ Λ ∧ Q' st, er := erT κ E' Γ Λ })
    (h3 : ∀ st Γ Λ, sh st Γ Λ → wp (k1 st) Q Eh → R.nx Γ Λ) (h2 : ∀ c us, wp (k2 c us) Q Eh → R.nx ((Γ.set j (some (em κ (.exc c us)))).set i none) Λ)
    (hd1 : (x == ("__debug__" : Str)) = false := by decide) (hnd : (n == ("__debug__" : Str)) = false := by decide) (hnc : (n == ("__classdict__" : Str)) = false := by decide) :
    WS C Γ Λ (.Try body [.ExceptHandler (some (.Name x np)) (some n) [.Assign [.Name y yp] (.Name n np2) apos] pos'] [] [] pos) R := by
  refine ws_tryNote ht hi hln hj hlj hij hg hm (wss_mono (h1 _ _ (tryK_key h) EIa.erT) ⟨fun Γ Λ ⟨st, a, b⟩ => h3 st Γ Λ a b, fun _ _ z => z, fun _ _ z => z, fun _ _ z => z, fun e Γ' Λ' z => ?_⟩) hd1 hnd hnc
  obtain ⟨rfl, rfl, c, us, rfl, hc, hw⟩ := z
  obtain ⟨g1, g2⟩ := hx _ hc
  refine ⟨κ.ad c, rfl, g1, ?_⟩
  rw [excD_err g2]
  exact h2 c us hw
end
/-! ### defs that are handed cells and may refuse -/
section
variable {κ : Kl} {mu : Bool} {α γ β : Type} {Dd : α → List D} {L : α → Cells} {f : α → M γ} {g : γ → M β} {R : β → Res} {L' : α → β → Cells}
theorem setAll_all : ∀ {Λ : Cells} {ls : List Nat} {cs : Cells}, Λ.all nlC = true → cs.all nlC = true → (setAll Λ ls cs).all nlC = true
  | _, [], _, h, _ => by cases ‹Cells› <;> exact h
  | _, _ :: _, [], h, _ => h
  | Λ, n :: ls, c :: cs, h, k => by
    rw [List.all_cons, Bool.and_eq_true] at k
    show (setAll (Λ.set n c) ls cs).all nlC = true
    refine setAll_all ?_ k.2
    rw [List.all_eq_true] at h ⊢
    intro x hx
    rcases List.mem_or_eq_of_mem_set hx with z | z
    · exact h x z
    · rw [z]; exact k.1
end
end Sh

/-! Sh20: what was caught is asked: isinstance, fields; calls with cells that refuse. -/
namespace L2
open PySem PySem.Spec PyProof.Rows
section
variable {X : Cx}
theorem exc_inst {pins : List (Addr × Obj)} {σ : St} {H : Hp} {s : Shared} {a C : Addr} {d : Option Addr} (I : Inv X pins σ H s) (ha : H a = some (Pl.excHO C a d)) (hd : ∀ dx, d = some dx → ∃ fs, H dx = some (.xd fs)) :
    ∃ oe od, PySem.W.InstAt s.heap a oe C od ∧ oe.dict = d ∧ ∀ dx, d = some dx → ∃ o, od = some o ∧ s.heap.get? dx = some o := by
  obtain ⟨⟨oe, vs, h1, hz, h2⟩, _⟩ := I.hok a _ ha
  have no : PySem.W.notCls oe = true := by unfold PySem.W.notCls; rw [h2] <;> rfl
  cases hd' : d with
  | none => exact ⟨oe, none, ⟨h1, hz.1, no, by rw [hz.2, hd']; trivial⟩, by rw [hz.2, hd'], fun dx z => by cases z⟩
  | some dx =>
    obtain ⟨fs, ea⟩ := hd dx hd'
    obtain ⟨mA, hns, hr⟩ := I.hok dx _ ea
    obtain ⟨od, ho, hl⟩ := lookIn_ns hns
    exact ⟨oe, some od, ⟨h1, hz.1, no, by rw [hz.2, hd']; exact ho⟩, by rw [hz.2, hd'], fun dx' z => by cases z; exact ⟨od, rfl, ho⟩⟩
theorem call_isExc : CallR X (.builtin "isinstance") fun xs H Q => ∃ (a C : Addr) (d : Option Addr) (c : V) (cv : Value) (b : Bool), xs = [.ref a, c] ∧ H a = some (Pl.excHO C a d) ∧ (∀ dx, d = some dx → ∃ fs, H dx = some (.xd fs)) ∧ ExcC X.K C ∧ (∀ u, RelV c u → u = cv) ∧ PySem.W.kitOne X.K (.ref C) cv = some b ∧ Q (.bl b) H := by
  intro pins s σ H xs us Q I r h
  obtain ⟨a, C, d, c, cv, b, rfl, ha, hd, T, hcv, e, q⟩ := h
  cases r with
  | cons rx rr =>
    cases rr with
    | cons rt rr =>
      cases rr
      cases rx
      have ec := hcv _ rt
      subst ec
      obtain ⟨oe, od, J, _, _⟩ := exc_inst I ha hd
      obtain ⟨cd, hc, _⟩ := PySem.W.any_some T.hd
      exact PySem.W.kia_one (PySem.W.kitx_exc (by rw [hc]; rfl) T.hg T.hk T.hs T.ha T.hn T.ht T.hm) I.kIn J e (fun z => nomatch z) fun tk => ⟨.bl b, H, I.kept (t' := tk) fun _ _ z => z, rfl, q⟩
/-- x.f of an exception that was caught -/
theorem pe_xfA {e : Expr} {te : TE} {n : Str} {pos : Pos} (he : PE X e te) (hb : attributeBase e n X.env (eval e X.env) = eval e X.env := by rfl) :
    PE X (.Attribute e n pos) (fun σ H Q => te σ H fun x H1 => ∃ (a C dd : Addr) (fs : List (Str × V)) (v : V), x = .ref a ∧ H1 a = some (Pl.excHO C a (some dd)) ∧ H1 dd = some (.xd fs) ∧ XfC X.K C ∧ PySem.W.findIn X.K (.ref C) n = some none ∧ fs.lookup n = some v ∧ Q v H1) := by
  refine ⟨fun pins s σ H Q I h => ?_⟩
  refine attr_of hb (thn (he.run pins s σ H _ I h) fun u s1 hh => ?_)
  obtain ⟨x, H1, I1, rx, a, C, dd, fs, v, ex, hx, ea, T, hno, l, q⟩ := hh
  subst ex
  obtain rfl : u = Value.ref a := rx
  obtain ⟨⟨oe, vs, h1, hz, h2⟩, _⟩ := I1.hok a _ hx
  obtain ⟨mA, hns, hr⟩ := I1.hok dd _ ea
  obtain ⟨od, ho, hl⟩ := lookIn_ns hns
  obtain ⟨u, hu, ru⟩ := RelO.some_of (v := v) (o := mA n) (by rw [← l]; exact hr n)
  have J : PySem.W.InstAt s1.heap a oe C (some od) := ⟨h1, hz.1, by unfold PySem.W.notCls; rw [h2] <;> rfl, by rw [hz.2]; exact ho⟩
  exact HandSPX.exc_get I1.kIn J T.ga T.gg T.exC (PySem.W.findObj_own T.hdC hno rfl (by rw [hl, hu])) (handed_of ru) ⟨v, H1, I1.tok _, ru, q⟩
end
end L2
namespace Sh
open PySem L2 Pl PyProof.Rows
/-- isinstance(x, T) of what was caught: the answer by the class -/
def isEM (tbl : List (Str × Bool)) : U → M U
  | .exc c _ => match tbl.lookup c with
    | some b => .ok (.bl b)
    | none => .stuck
  | _ => .stuck
/-- x.f of what was caught -/
def excF (c : Str) : U → M U
  | .exc c' [v] => if c' = c then .ok v else .stuck
  | _ => .stuck
structure ExcF (K : PySem.W.Frag) (κ : Kl) (c f : Str) : Prop where
  x : XfC K (κ.ad c)
  n : PySem.W.findIn K (.ref (κ.ad c)) f = some none
  f : κ.fs c = [f]
theorem lookup_mem {β : Type} {c : Str} {b : β} : ∀ {tbl : List (Str × β)}, tbl.lookup c = some b → (c, b) ∈ tbl
  | [], h => by cases h
  | (k, v) :: r, h => by
    rw [List.lookup_cons] at h
    split at h
    · rename_i e
      cases h
      have : c = k := by simpa using e
      subst this
      exact List.mem_cons_self
    · exact List.mem_cons_of_mem _ (lookup_mem h)
section
variable {κ : Kl} {C : Pl.Ctx} {E : ER} {Γ : Pl.Env} {Λ : Cells} {pos p p2 : Pos} {x : Str} {e : Expr} {P : D → Cells → Prop} {Eh : Str → List U → Prop}
theorem isE_key {tbl : List (Str × Bool)} {u : U} {Q : U → Prop} (h : wp (isEM tbl u) Q Tr) : ∃ c us b, u = .exc c us ∧ (c, b) ∈ tbl ∧ Q (.bl b) := by
  unfold isEM at h
  split at h
  · rename_i c us
    split at h
    · rename_i b hb
      exact ⟨c, us, b, rfl, lookup_mem hb, h⟩
    · exact h.elim
  · exact h.elim
theorem rep_exc {K : PySem.W.Frag} {B H : Hp} {α : List Addr} {c : Str} {us : List U} {v : V} (x : Ex B H) (h : Rep K B α (em κ (.exc c us)) v) : ∃ a d, v = .ref a ∧ H a = some (excHO (κ.ad c) a d) ∧ ∀ dx, d = some dx → ∃ fs, H dx = some (.xd fs) := by
  have hr : Rep K B α (.exc (κ.ad c) (κ.fs c) (ems κ us)) v := h
  unfold Rep at hr
  obtain ⟨a, d, vs, rfl, g1, g2, g3, g5, g4⟩ := hr
  exact ⟨a, d, rfl, x _ _ g1, fun dx z => ⟨_, x _ _ (g4 dx z)⟩⟩
theorem we_isEM {tbl : List (Str × Bool)} {Ct : Addr} (hj : GlAt C "isinstance") (hm : C.mg "isinstance" = none) (hj2 : GlAt C x) (hg : C.mg x = some (.ref Ct)) (hK : ∀ q ∈ tbl, ExcC C.K (κ.ad q.1) ∧ PySem.W.kitOne C.K (.ref (κ.ad q.1)) (.ref Ct) = some q.2)
    (h : WE C E Γ Λ e fun d Λ1 => ∃ u, d = em κ u ∧ wp (isEM tbl u) (fun z => P (em κ z) Λ1) Tr) (he : plainE e = true := by rfl) (hd : (x == ("__debug__" : Str)) = false := by decide) : WE C E Γ Λ (.Call (.Name "isinstance" p) [e, .Name x p2] [] pos) P := fun X F W is tk => by
  refine pe_imp (pe_callB call_isExc (is.gl hj) (by rw [is.mg]; exact hm) boot_isinstance (pa_cons pe_U (pa_cons (pe_glob (v := .ref Ct) (is.gl hj2) (by rw [is.mg]; exact hg) rfl hd) pa_nil (star_plain rfl)) (star_plain he)) (he := by rw [star_plain he]) (hpl := back_plain rfl)) fun σ H Q ⟨B, α, S, q, er⟩ => ?_
  refine WE.use h is tk S er fun d Λ1 v B1 α1 H1 p1 S1 x1 f1 r1 => ?_
  obtain ⟨u, rfl, p1⟩ := p1
  obtain ⟨c, us, b, rfl, hc, hp⟩ := isE_key p1
  obtain ⟨k1, k2⟩ := hK _ hc
  obtain ⟨a, d, rfl, g1, g2⟩ := rep_exc S1.bh r1
  refine ⟨a, κ.ad c, d, .ref Ct, .ref Ct, b, rfl, g1, g2, by rw [is.K]; exact k1, fun u z => z, by rw [is.K]; exact k2, ?_⟩
  exact q _ Λ1 _ B1 α1 H1 hp S1 x1 f1 (by show Rep _ _ _ (.bl b) _; unfold Rep; rfl)
theorem we_isEB {tbl : List (Str × Bool)} {Tn : String} (hj : GlAt C "isinstance") (hm : C.mg "isinstance" = none) (hj2 : GlAt C x) (hm2 : C.mg x = none) (hv : bootBuiltins x = some (.type Tn)) (hK : ∀ q ∈ tbl, ExcC C.K (κ.ad q.1) ∧ PySem.W.kitOne C.K (.ref (κ.ad q.1)) (.type Tn) = some q.2)
    (h : WE C E Γ Λ e fun d Λ1 => ∃ u, d = em κ u ∧ wp (isEM tbl u) (fun z => P (em κ z) Λ1) Tr) (he : plainE e = true := by rfl) (hn : x ≠ "__name__" := by decide) (hd : (x == ("__debug__" : Str)) = false := by decide) : WE C E Γ Λ (.Call (.Name "isinstance" p) [e, .Name x p2] [] pos) P := fun X F W is tk => by
  refine pe_imp (pe_callB call_isExc (is.gl hj) (by rw [is.mg]; exact hm) boot_isinstance (pa_cons pe_U (pa_cons (pe_bltn (is.gl hj2) (by rw [is.mg]; exact hm2) hv (v := .ty Tn) rfl hn hd) pa_nil (star_plain rfl)) (star_plain he)) (he := by rw [star_plain he]) (hpl := back_plain rfl)) fun σ H Q ⟨B, α, S, q, er⟩ => ?_
  refine WE.use h is tk S er fun d Λ1 v B1 α1 H1 p1 S1 x1 f1 r1 => ?_
  obtain ⟨u, rfl, p1⟩ := p1
  obtain ⟨c, us, b, rfl, hc, hp⟩ := isE_key p1
  obtain ⟨k1, k2⟩ := hK _ hc
  obtain ⟨a, d, rfl, g1, g2⟩ := rep_exc S1.bh r1
  refine ⟨a, κ.ad c, d, .ty Tn, .type Tn, b, rfl, g1, g2, by rw [is.K]; exact k1, fun u z => z, by rw [is.K]; exact k2, ?_⟩
  exact q _ Λ1 _ B1 α1 H1 hp S1 x1 f1 (by show Rep _ _ _ (.bl b) _; unfold Rep; rfl)
theorem we_excF {c f : Str} (T : ExcF C.K κ c f) (h : WE C E Γ Λ e fun d Λ1 => ∃ u, d = em κ u ∧ wp (excF c u) (fun z => P (em κ z) Λ1) Tr) (hb : ∀ env : PySem.Env, attributeBase e f env (eval e env) = eval e env := by intro _; rfl) : WE C E Γ Λ (.Attribute e f pos) P := fun X F W is tk => by
  refine pe_imp (pe_xfA pe_U (hb X.env)) fun σ H Q ⟨B, α, S, q, er⟩ => ?_
  refine WE.use h is tk S er fun d Λ1 v B1 α1 H1 p1 S1 x1 f1 r1 => ?_
  obtain ⟨u, rfl, p1⟩ := p1
  have key : ∃ w, u = .exc c [w] ∧ P (em κ w) Λ1 := by
    unfold excF at p1
    split at p1
    · split at p1
      · rename_i e; subst e; exact ⟨_, rfl, p1⟩
      · exact p1.elim
    · exact p1.elim
  obtain ⟨w, rfl, hp⟩ := key
  have hr : Rep C.K B1 α1 (.exc (κ.ad c) (κ.fs c) (ems κ [w])) v := r1
  rw [T.f] at hr
  unfold Rep at hr
  obtain ⟨a, d, vs, rfl, g1, g2, g3, g7, g4⟩ := hr
  unfold ems at g2
  unfold Reps at g2
  obtain ⟨v1, r, rfl, g5, g6⟩ := g2
  cases d with
  | none => cases g7 rfl
  | some dd =>
    have ex : List.lookup f (([f] : List Str).zip (v1 :: r)) = some v1 := by
      show List.lookup f ((f, v1) :: ([] : List Str).zip r) = some v1
      rw [List.lookup_cons_self]
    exact ⟨a, κ.ad c, dd, _, v1, rfl, S1.bh _ _ g1, S1.bh _ _ (g4 dd rfl), by rw [is.K]; exact T.x, by rw [is.K]; exact T.n, ex, q _ Λ1 _ B1 α1 H1 hp S1 x1 f1 g5⟩
end
/-! ### calls with cells that may refuse -/
section
variable {κ : Kl} {mu : Bool} {α γ β : Type} {Dd : α → List D} {L : α → Cells} {f : α → M γ} {g : γ → M β} {R : β → Res} {L' : α → β → Cells} {C : Pl.Ctx} {E : ER} {Γ : Pl.Env} {Λ : Cells} {Eh : Str → List U → Prop}
/-- what a call with cells wishes of a refusal -/
def EIp (κ : Kl) (mu : Bool) (Eh : Str → List U → Prop) (E : ER) (Γ : Pl.Env) (Λ : Cells) (ls : List Nat) (L0 : Cells) : Prop := ∀ c us Λ', Λ'.length = L0.length → Λ'.all nlC = true → (mu = false → Λ' = L0) → Eh c us → E (errD κ c us) Γ (putB Λ ls Λ')
theorem EI.p {ls : List Nat} {L0 : Cells} (h : EI κ Eh E) : EIp κ mu Eh E Γ Λ ls L0 := fun c us Λ' _ _ _ q => h c us _ _ q
theorem EIa.p {ls : List Nat} {L0 : Cells} (h : EIa κ Eh E Γ Λ) (e : putB Λ ls L0 = Λ) : EIp κ false Eh E Γ Λ ls L0 := fun c us Λ' _ _ z q => by rw [z rfl, e]; exact h c us q
theorem putB_len {ls : List Nat} {Λ' : Cells} : Λ.length ≤ (putB Λ ls Λ').length := by
  unfold putB
  rw [List.length_append, setAll_length]; omega
theorem putB_nl {ls : List Nat} {Λ' : Cells} (h : Λ.all nlC = true) (h' : Λ'.all nlC = true) : (putB Λ ls Λ').all nlC = true := by
  unfold putB
  rw [List.all_append, Bool.and_eq_true]
  rw [List.all_eq_true] at h'
  refine ⟨setAll_all h (List.all_eq_true.mpr fun x hx => h' x (List.mem_of_mem_take hx)), List.all_eq_true.mpr fun x hx => h' x (List.mem_of_mem_drop hx)⟩
theorem EIm.p {m : Nat} {ls : List Nat} {L0 : Cells} (h : EIm κ m Eh E) (hm : m ≤ Λ.length) (hn : Λ.all nlC = true) : EIp κ mu Eh E Γ Λ ls L0 := fun c us Λ' _ n _ q => h c us _ _ (Nat.le_trans hm putB_len) (by
  have := putB_nl (ls := ls) hn n
  rw [List.all_eq_true] at this ⊢
  exact fun x hx => this x (List.mem_of_mem_take hx)) q
/-- .. where the cells stay -/
def EIz (κ : Kl) (L0 : Cells) (Eh : Str → List U → Prop) (E : ER) : Prop := ∀ c us Γ Λ, L0.length ≤ Λ.length → Λ.take L0.length = L0 → L0.all nlC = true → Eh c us → E (errD κ c us) Γ Λ
theorem EIz.at {L0 : Cells} (h : EIz κ L0 Eh E) (h1 : L0.length ≤ Λ.length) (h2 : Λ.take L0.length = L0) (h3 : L0.all nlC = true) : EIa κ Eh E Γ Λ := fun c us q => h c us Γ Λ h1 h2 h3 q
end
end Sh

/-! Sh21: calls without arguments. -/
namespace Sh
open PySem L2 Pl PyProof.Rows
theorem boot_VE : bootBuiltins "ValueError" = some (.type "ValueError") := by decide +kernel
section
variable {κ : Kl} {C : Pl.Ctx} {E : ER} {Γ : Pl.Env} {Λ : Cells} {pos p : Pos}
end
/-! what the text tells of the classes of refusals -/
section
variable {K : PySem.W.Frag} {mg : Str → Option Value} {x y : Str} {Cx Cy : Addr} {fs : Str → List Str}
theorem excAt {hp : Heap} (KX : K.In hp) (h : mg x = some (.ref Cx)) (xq : PySem.W.excIn K Cx [.type "ValueError", .type "Exception", .type "BaseException", .type "object"] "ValueError.__new__" = true) (k : PySem.W.keepIn K (.ref Cx) = true)
    (b : PySem.W.subIn K (.ref Cx) (.type "BaseException") = some true) (t : PySem.W.typeIn K (.ref Cx) = some (.type "type")) (f : fs x = []) : ExcK K mg ⟨adOf mg, fs⟩ x := by
  have e : adOf mg x = Cx := adOf_eq h
  refine ⟨?_, ?_, ?_, ?_, ?_, f⟩
  · show mg x = some (.ref (adOf mg x)); rw [e]; exact h
  · show PySem.W.excIn K (adOf mg x) _ _ = _; rw [e]; exact xq
  · show PySem.W.keepIn K (.ref (adOf mg x)) = _; rw [e]; exact k
  · show PySem.W.subIn K (.ref (adOf mg x)) _ = _; rw [e]; exact b
  · show PySem.W.typeIn K (.ref (adOf mg x)) = _; rw [e]; exact t
theorem excCAt {hp : Heap} (KX : K.In hp) (h : mg x = some (.ref Cx)) (hg : PySem.W.findIn K (.ref Cx) "__getattribute__" = some (some (.builtin "BaseException.__getattribute__"))) (hk : PySem.W.findIn K (.ref Cx) "__getattr__" = some none) (hs : PySem.W.subIn K (.ref Cx) (.type "BaseException") = some true)
    (hd : PySem.W.hasDictIn K Cx = true) (ha : PySem.W.findIn K (.ref Cx) "__class__" = some (some (.builtin "object.__class__"))) (hn : PySem.W.specialIn K (.builtin "object.__class__") "__get__" = some (some (.builtin "getset_descriptor.__get__")))
    (ht : PySem.W.takesIn K (.builtin "object.__class__") = some true) (hm : PySem.W.mroIn K Cx (.type "object") = some true) : ExcC K (adOf mg x) := by rw [adOf_eq h]; exact ⟨hg, hk, hs, hd, ha, hn, ht, hm⟩
theorem kitXX {b : Bool} {hp : Heap} (KX : K.In hp) (h : mg x = some (.ref Cx)) (h2 : mg y = some (.ref Cy)) (me : PySem.W.kitOne K (.ref Cx) (.ref Cy) = some b) : PySem.W.kitOne K (.ref (adOf mg x)) (.ref (adOf mg y)) = some b := by rw [adOf_eq h, adOf_eq h2]; exact me
theorem kitXT {b : Bool} {T : String} {hp : Heap} (KX : K.In hp) (h : mg x = some (.ref Cx)) (me : PySem.W.kitOne K (.ref Cx) (.type T) = some b) : PySem.W.kitOne K (.ref (adOf mg x)) (.type T) = some b := by rw [adOf_eq h]; exact me
theorem exmXX {hp : Heap} (KX : K.In hp) (h : mg x = some (.ref Cx)) (h2 : mg y = some (.ref Cy)) (h1 : PySem.W.subIn K (.ref Cy) (.type "BaseException") = some true) (hd : PySem.W.hasDictIn K Cy = true) (ht : PySem.W.typeIn K (.ref Cy) = some (.type "type")) (h4 : PySem.W.subIn K (.ref Cx) (.ref Cy) = some true) :
    PySem.W.exmOne K (.ref (adOf mg x)) (.ref (adOf mg y)) = some true := by rw [adOf_eq h, adOf_eq h2]; exact PySem.W.exm_ref h1 hd ht h4
theorem excFAt {f : Str} {hp : Heap} (KX : K.In hp) (h : mg x = some (.ref Cx)) (ga : PySem.W.findIn K (.ref Cx) "__getattribute__" = some (some (.builtin "BaseException.__getattribute__"))) (gg : PySem.W.findIn K (.ref Cx) "__getattr__" = some none) (hs : PySem.W.subIn K (.ref Cx) (.type "BaseException") = some true)
    (hd : PySem.W.hasDictIn K Cx = true) (nf : PySem.W.findIn K (.ref Cx) f = some none) (e : fs x = [f]) : ExcF K ⟨adOf mg, fs⟩ x f := by
  have e2 : adOf mg x = Cx := adOf_eq h
  refine ⟨?_, ?_, e⟩
  · show XfC K (adOf mg x); rw [e2]; exact ⟨ga, gg, hs, hd⟩
  · show PySem.W.findIn K (.ref (adOf mg x)) f = some none; rw [e2]; exact nf
end
end Sh

/-! Sh22: {k: v}. -/
namespace Pl
open PySem L2
section
variable {C : Ctx} {E : ER} {Γ : Env} {Λ : Cells} {pos : Pos}
end
end Pl
namespace Pl
open PySem L2
section
variable {C : Ctx} {Γ : Env} {Λ : Cells} {pos : Pos} {P : Env → Prop}
end
end Pl
namespace Sh
open PySem L2 Pl PyProof.Rows
def un2l : U → M (U × U)
  | .lst [a, b] => .ok (a, b)
  | _ => .stuck
@[simp] theorem un2l_ok {a b : U} : un2l (.lst [a, b]) = .ok (a, b) := rfl
end Sh

/-! Sh23: a str that is put down once or not at all. -/
namespace Pl
open PySem L2
section
variable {C : Ctx} {E : ER} {Γ : Env} {Λ : Cells} {P : D → Cells → Prop} {pos : Pos} {a b : Expr}
end
end Pl
namespace Sh
open PySem L2 Pl PyProof.Rows
def smulM (x y : U) : M U := match x, y with
  | .str s, .int n => if n = 0 then .ok (.str "") else if n = 1 then .ok (.str s) else .stuck
  | _, _ => .stuck
section
variable {κ : Kl} {C : Pl.Ctx} {E : ER} {Γ : Pl.Env} {Λ : Cells} {P : D → Cells → Prop} {pos : Pos} {a b : Expr}
end
@[simp] theorem smulM_0 {s : Str} : smulM (.str s) (.int 0) = .ok (.str "") := rfl
@[simp] theorem smulM_1 {s : Str} : smulM (.str s) (.int 1) = .ok (.str s) := rfl
end Sh

/-! Sh24: a tuple of the module. -/
namespace Sh
open PySem L2 Pl PyProof.Rows
section
variable {κ : Kl} {C : Pl.Ctx} {E : ER} {Γ : Pl.Env} {Λ : Cells} {P : D → Cells → Prop} {pos : Pos}
end
end Sh

/-! Sh25: x is not True. -/
namespace Sh
open PySem L2 Pl PyProof.Rows
def isntbM (x y : U) : M Bool := match x, y with
  | .bl a, .bl b => .ok (!decide (a = b))
  | _, _ => .stuck
section
variable {κ : Kl} {C : Pl.Ctx} {E : ER} {Γ : Pl.Env} {Λ : Cells} {P : D → Cells → Prop} {Pt : Bool → Cells → Prop} {pos : Pos} {a b : Expr}
end
@[simp] theorem isntbM_bl {a b : Bool} : isntbM (.bl a) (.bl b) = .ok (!decide (a = b)) := rfl
end Sh

/-! Sh26: comprehensions over an owned list. -/
namespace Pl
open PySem L2
section
variable {C : Ctx} {E : ER} {Γ : Env} {Λ : Cells} {tg : Expr} {P : List D → Cells → Prop}
end
section
variable {C : Ctx} {E : ER} {Γ : Env} {Λ : Cells}
end
end Pl
namespace Sh
open PySem L2 Pl
end Sh

/-! Sh27: enumerate of a text. -/
namespace Pl
open PySem PySem.Spec L2 PyProof.Rows
end Pl
namespace Sh
open PySem L2 Pl
def enumSM : U → M (List U)
  | .str s => .ok (s.cps.toList.mapIdx fun i c => .tup [.int (i : Nat), .str ⟨#[c]⟩])
  | _ => .stuck
@[simp] theorem enumSM_str {s : Str} : enumSM (.str s) = .ok (s.cps.toList.mapIdx fun i c => .tup [.int (i : Nat), .str ⟨#[c]⟩]) := rfl
end Sh

/-! Sh28: d != e, two dicts alike. -/
namespace Sh
open PySem L2 Pl PyProof.Rows
end Sh

/-! Sh29: d[k] = [.. for ..], d owned -/
namespace Pl
open PySem L2
section
variable {C : Ctx} {Γ : Env} {Λ : Cells} {R : Rs} {pos pos' : Pos} {e o i : Expr}
end
end Pl
namespace Sh
open PySem L2 Pl PyProof.Rows Law
section
variable {κ : Kl} {C : Pl.Ctx} {Γ : Pl.Env} {Λ : Cells} {R : Rs} {pos pos' : Pos} {e o i : Expr}
end
end Sh

/-! Sh30: exceptions with fields: C.__init__(self, ..) where C is a class of the program with ValueError's own __init__. -/
namespace L2
open PySem PySem.Spec PyProof.Rows
section
variable {X : Cx} {e : Expr} {es : List Expr} {ta : TA} {p1 p2 pos : Pos} {x : Str} {S : Addr}
theorem pe_cinit {pl : Sem Bool} (hg : Gl X x) (hm : X.mg x = some (.ref S)) (hga : PySem.W.specialIn X.K (.ref S) "__getattribute__" = some (some (.builtin "type.__getattribute__"))) (hr : PySem.W.readsIn X.K S (.type "type") = true)
    (hf : PySem.W.findCls X.K (.ref S) (.type "type") "__init__" = some (.val (.builtin "ValueError.__init__"))) (ha : PA X (e :: es) ta) (hd : (x == ("__debug__" : Str)) = false := by decide)
    (hc : eval (.Call (.Attribute (.Name x p1) "__init__" p2) (e :: es) [] pos) X.env = (do
      let ov ← eval (.Name x p1) X.env
      standAt p2.atName
      let (f, first) ← holding [ov] (getMethod ov "__init__" pl)
      callWith pos f first (backTo pos (starEach (e :: es) X.env)) (backToKw pos (keywordEach [] X.env))) := by rfl)
    (he : starEach (e :: es) X.env = (false, eval e X.env) :: starEach es X.env := by rfl) (hpl : (backTo pos (starEach es X.env)).any (·.1) = false := by rfl) :
    PE X (.Call (.Attribute (.Name x p1) "__init__" p2) (e :: es) [] pos) (tVeI X.K ta) := by
  refine ⟨fun pins s σ H Q I h => ?_⟩
  refine PySem.W.methodCall_KW (ld_glob I hg hm ?_ hd) hc
  refine PySem.W.method_cls I.kIn hga (PySem.W.cls_value I.kIn hr hf (by decide +kernel) ?_)
  show wpAny _ _ (callWith pos (Value.builtin "ValueError.__init__") [] (backTo pos (starEach (e :: es) X.env)) []) _ _ _
  refine PyProof.Rows.callWith_method1 (thn (ha.run pos pins _ σ H _ (I.tok _) h) fun us s1 ⟨vs, H1, I1, r1, a, C, ws, ev, hl, T, ea, q⟩ => ?_) he hpl
  subst ev
  cases r1 with
  | @cons _ u0 _ ur ra rw' =>
    obtain rfl : u0 = Value.ref a := ra
    have hlen : ur.length ≤ sizeLine := by
      rw [← Paired.length rw', sizeLine_eq]
      omega
    exact oinit_ok T I1 ea hlen fun s' J => ⟨.non, H1, J, rfl, q⟩
end
end L2
namespace L2
open PySem PySem.Spec PyProof.Rows
/-- what the own __init__ of a refusal does: it keeps its argument under f -/
def spFld (K : PySem.W.Frag) (f : Str) : Sp := fun vs H Q _ => ∃ (a C : Addr) (y : V), vs = [.ref a, y] ∧ OexC K C ∧ PySem.W.findIn K (.ref C) f = some none ∧ H a = some (exo a C none) ∧ ∀ dx, H dx = none → dx ≠ a → Q .non (upd (upd H dx (exd dx [(f, y)])) a (exo a C (some dx)))
theorem exinit_ok {P : Program} {w : World} {K : PySem.W.Frag} {mg : Str → Option Value} {base : Heap} {qual x x2 m fld : Str} {st : Stmt} {f : Addr} {fd : FuncData} {k j : Nat} {S : Addr} {p1 p2 p3 p4 p5 p6 p7 p8 p9 p10 : Pos} {pl : Env → Sem Bool} (F : Fun K "__init__" qual st f fd) (sc : FnScope ["self", x2] ["self", x2] (defScope st))
    (hb : defBody st = [.Expr (.Call (.Attribute (.Name x p1) "__init__" p2) [.Name "self" p3, .Constant (.str m) j p4] [] p5) p6, .Assign [.Attribute (.Name "self" p7) fld p8] (.Name x2 p9) p10])
    (hg : (defScope st).names.lookup x = some .globalImplicit) (v1 : Vis (defScope st) "self") (v2 : Vis (defScope st) x2) (hm : mg x = some (.ref S)) (hga : PySem.W.specialIn K (.ref S) "__getattribute__" = some (some (.builtin "type.__getattribute__"))) (hr : PySem.W.readsIn K S (.type "type") = true)
    (hf : PySem.W.findCls K (.ref S) (.type "type") "__init__" = some (.val (.builtin "ValueError.__init__"))) (hd : (x == ("__debug__" : Str)) = false) (hd2 : (x2 == ("__debug__" : Str)) = false) (hd3 : (x2 == ("__classdict__" : Str)) = false)
    (hc : ∀ env : Env, eval (.Call (.Attribute (.Name x p1) "__init__" p2) [.Name "self" p3, .Constant (.str m) j p4] [] p5) env = (do
      let ov ← eval (.Name x p1) env
      standAt p2.atName
      let (f, first) ← holding [ov] (getMethod ov "__init__" (pl env))
      callWith p5 f first (backTo p5 (starEach [.Name "self" p3, .Constant (.str m) j p4] env)) (backToKw p5 (keywordEach [] env)))) : FnOk P w K mg base (L2.CX P w) (k + 1) f fd ["self", x2] (spFld K fld) := by
  refine F.okX sc (fun vs H Q E h => by obtain ⟨a, C, y, rfl, _⟩ := h; rfl) fun cdv A outer s H vs Q E hr' h => ?_
  obtain ⟨a, C, y, rfl, T, hno, ha, q⟩ := h
  rw [hb]
  refine ⟨_, pss_cons (ps_expr (pe_cinit (x := x) (S := S) hg hm hga hr hf (pa_cons (pe_var (i := 0) rfl v1) (pa_cons pe_str pa_nil)) hd (hc _))) (pss_cons (ps_ost (pe_var (i := 0) rfl v1) (pe_var (i := 1) rfl v2 hd2 hd3)) pss_nil), ?_⟩
  exact ⟨.ref a, rfl, a, C, [.str m], rfl, by simp, T, ha, y, rfl, .ref a, rfl, a, C, rfl, T, hno, .inl ⟨ha, q⟩⟩
end L2
namespace Pl
open PySem L2 PyProof.Rows
section
variable {C : Ctx} {Γ : Env} {Λ : Cells} {R : Rs} {x f : Str} {CA fI : Addr} {k : Nat} {fd : FuncData} {ps : List Str} {np pos pos' : Pos} {e : Expr}
/-- raise x(e), x keeping e under f -/
theorem ws_raise1 [Cool C] (T : OexC C.K CA) (iC : PySem.W.findIn C.K (.ref CA) "__init__" = some (some (.ref fI))) (tI : PySem.W.typeIn C.K (.ref fI) = some (.type "function")) (hno : PySem.W.findIn C.K (.ref CA) f = some none)
    (F1 : FnOk C.P C.w C.K C.mg C.base (L2.CX C.P C.w) k fI fd ps (spFld C.K f)) (hk : 4 * (k + 1) ≤ C.k) (hb : Binds C.K fd ps []) (hg : GlAt C x) (hm : C.mg x = some (.ref CA)) (h : WE C R.er Γ Λ e fun d Λ1 => R.er ⟨.ref CA, some ([f], [d])⟩ Γ Λ1)
    (he : plainE e = true := by rfl) (hd : (x == ("__debug__" : Str)) = false := by decide) : WS C Γ Λ (.Raise (some (.Call (.Name x np) [e] [] pos)) none pos') R := fun X F W is hm' tk => by
  have e1 := is.prog; have e2 := is.w; have e3 := is.K; have e4 := is.mg; have e5 := is.base
  refine ps_imp (ps_raise is.calm tk (pmk_oex (dvs := []) (ds := []) (by rw [e3]; exact T) (by rw [e3]; exact iC) (by rw [e3]; exact tI) (by rw [e1, e2, e3, e4, e5]; exact F1) (is.room.room hk) (by rw [e3]; exact hb) .nil Sh.passF (is.gl hg) (by rw [e4]; exact hm) (pa_cons pe_U pa_nil (star_plain he)) hd (star_plain he) rfl)) fun Dn σ H ⟨B, α, S, q⟩ => ?_
  refine WE.use h is tk S q.er.at fun d Λ1 v B1 α1 H1 p1 S1 x1 f1 r1 => ?_
  refine ⟨by simp, fun a ha => ⟨a, CA, v, rfl, T, hno, upd_same, fun dx hdx ne => ⟨rfl, dx, [(f, v)], upd_same, ?_, ?_, ?_⟩⟩⟩
  · rw [upd_ne ne, upd_same]
  · rw [upd_ne ne] at hdx; exact hdx
  · rw [upd_ne ne] at hdx
    have eH : upd (del (upd (upd (upd H1 a (exo a CA none)) dx (exd dx [(f, v)])) a (exo a CA (some dx))) a) dx (.xd [(f, v)]) = upd H1 dx (.xd [(f, v)]) := by
      funext b
      by_cases hb : b = dx
      · subst hb; rw [upd_same, upd_same]
      · rw [upd_ne hb, upd_ne hb]
        by_cases hba : b = a
        · subst hba; rw [del_same, ha]
        · rw [del_ne hba, upd_ne hba, upd_ne hb, upd_ne hba]
    rw [eH]
    have S2 := S1.lay (o := .xd [(f, v)]) hdx
    have hB : B1 dx = none := S1.bh.back hdx
    have hx : Ex B1 (upd B1 dx (.xd [(f, v)])) := Ex.new hB
    refine q.er ⟨.ref CA, some ([f], [d])⟩ Γ Λ1 (upd B1 dx (.xd [(f, v)])) α1 σ _ (.ref CA) (some dx) p1 S2 (x1.trans hx) ⟨rfl, dx, [v], rfl, upd_same, .one (r1.mono hx (List.prefix_refl _)), rfl, fun z => by rw [upd_same] at z; cases z⟩
end
end Pl
namespace Sh
open PySem L2 Pl PyProof.Rows
/-- a class of refusals that keeps one thing -/
structure Exc1 (P : Program) (w : World) (K : PySem.W.Frag) (mg : Str → Option Value) (base : Heap) (κ : Kl) (k : Nat) (c : Str) : Prop where
  g : mg c = some (.ref (κ.ad c))
  ex : ∃ (fI : Addr) (fd : FuncData) (ps : List Str) (f : Str), OexC K (κ.ad c) ∧ PySem.W.findIn K (.ref (κ.ad c)) "__init__" = some (some (.ref fI)) ∧ PySem.W.typeIn K (.ref fI) = some (.type "function") ∧ PySem.W.findIn K (.ref (κ.ad c)) f = some none ∧
    FnOk P w K mg base (L2.CX P w) k fI fd ps (spFld K f) ∧ Binds K fd ps [] ∧ κ.fs c = [f]
theorem errD1 {κ : Kl} {c f : Str} {u : U} (h : κ.fs c = [f]) : errD κ c [u] = ⟨.ref (κ.ad c), some ([f], [em κ u])⟩ := by unfold errD; rw [h]; rfl
theorem ws_raiseM1 {κ : Kl} {C : Pl.Ctx} [Cool C] {Γ : Pl.Env} {Λ : Cells} {R : Rs} {pos pos' np : Pos} {c : Str} {e : Expr} {k : Nat} (hg : GlAt C c) (G : Exc1 C.P C.w C.K C.mg C.base κ k c) (hk : 4 * (k + 1) ≤ C.k)
    (h : WE C R.er Γ Λ e fun d Λ1 => ∃ u, d = em κ u ∧ R.er (errD κ c [u]) Γ Λ1) (he : plainE e = true := by rfl) (hd : (c == ("__debug__" : Str)) = false := by decide) : WS C Γ Λ (.Raise (some (.Call (.Name c np) [e] [] pos)) none pos') R := by
  obtain ⟨fI, fd, ps, f, T, iC, tI, hno, F1, hb, hf⟩ := G.ex
  refine ws_raise1 T iC tI hno F1 hk hb hg G.g (we_mono h fun d Λ1 ⟨u, hu, h⟩ => ?_) he hd
  subst hu
  rw [← errD1 hf]
  exact h
theorem oexcAt {K : PySem.W.Frag} {mg : Str → Option Value} {x : Str} {hp : Heap} {C : Addr} {nm q N bs bm sn sub ab col dd k0 k1 k2 k3 k5} (KX : K.In hp) (h : mg x = some (.ref C)) (T1 : K.lookup C = some (excClassObj nm q C N bs bm true sn sub ab col dd k0 k1 k2 k3 k5 "ValueError.__new__")) (T2 : PySem.HandSPX.refsVE bm = true) (sa : PySem.W.findIn K (.ref C) "__setattr__" = some (some (.builtin "object.__setattr__")))
    (b : PySem.W.subIn K (.ref C) (.type "BaseException") = some true) (t : PySem.W.typeIn K (.ref C) = some (.type "type")) (k : PySem.W.keepIn K (.ref C) = true) : OexC K C := ⟨⟨_, _, _, _, _, _, _, _, _, _, _, _, _, _, _, T1, T2⟩, sa, b, t, k⟩
/-- the fact Exc1 from what the law's image holds -/
theorem exc1At {K : PySem.W.Frag} {mg : Str → Option Value} {x y x2 m fld qual : Str} {Cx S f : Addr} {fs : Str → List Str} {st : Stmt} {j : Nat} {p1 p2 p3 p4 p5 p6 p7 p8 p9 p10 : Pos} {pl : PySem.Env → Sem Bool}
    {oc : Value} {od an : Option Addr} {osl : Array (Option Value)} {kV doc pm cdv ct : Value} {hp : Heap} (KX : K.In hp) (h : mg x = some (.ref Cx)) (hS : mg y = some (.ref S))
    (hb : ∀ (kV doc pm : Value) (an : Option Addr) (cdv ct : Value) (us : List Value), us.length = (["self", x2] : List Str).length → bindArgs (PySem.W.fnOf "__init__" qual (defArgs st) (defBody st) (defScope st) .none kV doc pm an cdv ct) ⟨us, []⟩ = pure ((["self", x2] : List Str).zip us))
    (sc : FnScope ["self", x2] ["self", x2] (defScope st))
    (hbody : defBody st = [.Expr (.Call (.Attribute (.Name y p1) "__init__" p2) [.Name "self" p3, .Constant (.str m) j p4] [] p5) p6, .Assign [.Attribute (.Name "self" p7) fld p8] (.Name x2 p9) p10])
    (hg : (defScope st).names.lookup y = some .globalImplicit) (v1 : Vis (defScope st) "self") (v2 : Vis (defScope st) x2) (hd : (y == ("__debug__" : Str)) = false) (hd2 : (x2 == ("__debug__" : Str)) = false) (hd3 : (x2 == ("__classdict__" : Str)) = false)
    (hc : ∀ env : PySem.Env, eval (.Call (.Attribute (.Name y p1) "__init__" p2) [.Name "self" p3, .Constant (.str m) j p4] [] p5) env = (do
      let ov ← eval (.Name y p1) env
      standAt p2.atName
      let (f, first) ← holding [ov] (getMethod ov "__init__" (pl env))
      callWith p5 f first (backTo p5 (starEach [.Name "self" p3, .Constant (.str m) j p4] env)) (backToKw p5 (keywordEach [] env)))) (e : fs x = [fld])
    (a : PySem.W.findIn K (.ref Cx) "__init__" = some (some (.ref f))) (l : K.lookup f = some ⟨oc, od, .func (PySem.W.fnOf "__init__" qual (defArgs st) (defBody st) (defScope st) .none kV doc pm an cdv ct), osl⟩) (c : PySem.W.codeIn K cdv qual = true) (k : PySem.W.keepIn K (.ref f) = true)
    (t : PySem.W.typeIn K (.ref f) = some (.type "function")) (T : OexC K Cx) (nf : PySem.W.findIn K (.ref Cx) fld = some none)
    (ga : PySem.W.specialIn K (.ref S) "__getattribute__" = some (some (.builtin "type.__getattribute__"))) (rd : PySem.W.readsIn K S (.type "type") = true) (fc : PySem.W.findCls K (.ref S) (.type "type") "__init__" = some (.val (.builtin "ValueError.__init__"))) : ∀ (P : Program) (w : World) (base : Heap) (kf : Nat), Exc1 P w K mg base ⟨adOf mg, fs⟩ (kf + 1) x := by
  intro P w base kf
  have e2 : adOf mg x = Cx := adOf_eq h
  refine ⟨by show mg x = some (.ref (adOf mg x)); rw [e2]; exact h, f, _, ["self", x2], fld, ?_, ?_, t, ?_, exinit_ok (fun_mk l c k) sc hbody hg v1 v2 hS ga rd fc hd hd2 hd3 hc, Binds.all fun us hl => ?_, e⟩
  · show OexC K (adOf mg x); rw [e2]; exact T
  · show PySem.W.findIn K (.ref (adOf mg x)) _ = _; rw [e2]; exact a
  · show PySem.W.findIn K (.ref (adOf mg x)) fld = some none; rw [e2]; exact nf
  · exact hb kV doc pm an cdv ct us hl
end Sh

/-! Sh31: repr; a thing whose two fields are an owned list and an owned dict, handed to its own methods. -/
namespace Pl
open PySem L2 PyProof.Rows
section
variable {K : PySem.W.Frag} {F : Fm} {B B' : Hp} {α α' : List Addr} {Γ : Env} {Λ Λ' : Cells} {σ : L2.St} {H H' : Hp} {m : Nat}
end
end Pl
namespace Sh
open PySem L2 Pl PyProof.Rows
section
variable {κ : Kl} {C : Pl.Ctx} {E : ER} {Γ : Pl.Env} {Λ : Cells} {pos p apos pos' : Pos} {o e : Expr} {es : List Expr} {f m c : Str} {k n : Nat}
variable {R : Rs}
end
end Sh

/-! Sh32: the owned list of a thing seen from now on; global tuples of texts. -/
namespace Sh
open PySem L2 Pl PyProof.Rows
end Sh

/-! Sh33: for over a list that is owned (alone, in zip, in enumerate): no turn changes it. -/
namespace Pl
open PySem L2 PyProof.Rows
/-- what is walked, as long as the list at a bears ds0 -/
structure ItsC (K : PySem.W.Frag) (B : Hp) (a : Addr) (ds0 : List D) (J : It) (ds : List D) : Prop where
  go : ∀ (i : Nat) (H : Hp) (vs : List V) (B1 : Hp) (α1 : List Addr), i < ds.length → Ex B B1 → Ex B1 H → H a = some (.lst vs) → Reps K B1 α1 ds0 vs → J.go i H
  stop : ∀ (H : Hp) (vs : List V) (B1 : Hp) (α1 : List Addr), Ex B B1 → Ex B1 H → H a = some (.lst vs) → Reps K B1 α1 ds0 vs → J.stop ds.length H
  yld : ∀ (i : Nat) (H : Hp) (x : V) (H' : Hp) (d : D) (vs : List V) (B1 : Hp) (α1 : List Addr), ds[i]? = some d → Ex B B1 → Ex B1 H → H a = some (.lst vs) → Reps K B1 α1 ds0 vs → J.yld i H x H' →
    (H' = H ∧ Rep K B1 α1 d x) ∨ (∃ p o vs es, x = .ref p ∧ H p = none ∧ H' = upd H p o ∧ TupHO o vs es ∧ d = .tup es ∧ Reps K B1 α1 es vs)
/-- the context in which M cells stay where they are -/
@[reducible] def Ctx.at (C : Ctx) (M : Nat) : Ctx := { C with m := M }
instance {C : Ctx} {M : Nat} [c : Cool C] : Cool (C.at M) := ⟨c.h⟩
theorem Ctx.Is.at {C : Ctx} {X : Cx} (is : C.Is X) (M : Nat) : (C.at M).Is X := ⟨is.prog, is.w, is.K, is.mg, is.base, is.N, is.sc, is.calmW, is.hdW, is.roomW, is.fn, ⟨is.good.nd, is.good.vis, is.good.sto, is.good.glo⟩, is.po, is.tp, is.cdv⟩
def LoopPO (C : Ctx) (tg : Expr) (vs : List Nat) (body : List Stmt) (R : Rs) (M n : Nat) (ds0 : List D) : List D → Env → Cells → Prop
  | [], Γ, Λ => Λ[n]? = some (Cell.lst ds0) ∧ R.nx Γ Λ
  | d :: ds, Γ, Λ => Λ[n]? = some (Cell.lst ds0) ∧ WG C Γ Λ tg d vs fun Γ' => WSs (C.at M) Γ' Λ body { R with nx := LoopPO C tg vs body R M n ds0 ds, ct := LoopPO C tg vs body R M n ds0 ds, bk := R.nx }
theorem LoopPO.cell {C : Ctx} {tg : Expr} {vs : List Nat} {body : List Stmt} {R : Rs} {M n : Nat} {ds0 ds : List D} {Γ : Env} {Λ : Cells} (h : LoopPO C tg vs body R M n ds0 ds Γ Λ) : Λ[n]? = some (Cell.lst ds0) := by
  cases ds <;> exact h.1
section
variable {K : PySem.W.Frag} {F : Fm} {B B' : Hp} {α α' : List Addr} {Γ Γ' : Env} {Λ Λ' : Cells} {σ σ' : L2.St} {H H' : Hp} {W : WX} {R : Rs} {D' : Ends}
end
section
variable {C : Ctx} {Γ : Env} {Λ : Cells} {R : Rs} {pos : Pos}
end
section
variable {C : Ctx} {E : ER} {Γ : Env} {Λ : Cells} {tg : Expr} {P : List D → Nat → List D → Cells → Prop} {p pos tpos : Pos} {elts : List Expr} {kk : Nat} {K : PySem.W.Frag} {B : Hp}
end
end Pl
namespace Sh
open PySem L2 Pl
section
variable {κ : Kl} {C : Pl.Ctx} {E : ER} {Γ : Pl.Env} {Λ : Cells} {α : Type} {Q : α → Prop} {Eh : Str → List U → Prop} {tg : Expr} {ws : List Nat} {body : List Stmt} {R : Rs} {Mc n : Nat} {us0 : List U}
variable {Pn : List D → Nat → List D → Cells → Prop} {pos p tpos : Pos} {e e2 : Expr} {elts : List Expr} {kk : Nat}
end
end Sh

/-! Sh34: methods and __init__s that refuse. -/
namespace L2
open PySem PySem.Spec PyProof.Rows
section
variable {X : Cx} {CX : CXT} {k : Nat} {f C : Addr} {fd : FuncData} {ps : List Str} {sp : Sp} {E : St → XK} {x m : Str} {p pos apos : Pos} {e o : Expr} {es : List Expr} {ta : TE} {t : TA}
end
end L2
namespace Sh
open PySem L2 Pl PyProof.Rows
section
variable {κ : Kl} {G : Gl} {Cl : Addr} {x m : Str} {N : List Str} {vs ls : List Bool} {gl : List Str} {k : Nat} {f : Str} {g : List U → M (List U)} {qual : Str} {st : Stmt} {ps : List Str}
end
theorem nls_nil : nls [] = true := rfl
theorem nls_cons (d : D) (ds : List D) : nls (d :: ds) = (nl d && nls ds) := rfl
/-- a refusal's wish -/
structure Rto (κ : Kl) (E : ER) (c : Str) (u : U) (Γ : Pl.Env) (Λ : Cells) : Prop where
  to : E (errD κ c [u]) Γ Λ
theorem ws_raiseM2 {κ : Kl} {C : Pl.Ctx} [Cool C] {Γ : Pl.Env} {Λ : Cells} {R : Rs} {pos pos' np : Pos} {c : Str} {e : Expr} {k : Nat} (hg : GlAt C c) (G : Exc1 C.P C.w C.K C.mg C.base κ k c) (hk : 4 * (k + 1) ≤ C.k)
    (h : WE C R.er Γ Λ e fun d Λ1 => ∃ u, d = em κ u ∧ Rto κ R.er c u Γ Λ1) (he : plainE e = true := by rfl) (hd : (c == ("__debug__" : Str)) = false := by decide) : WS C Γ Λ (.Raise (some (.Call (.Name c np) [e] [] pos)) none pos') R :=
  ws_raiseM1 hg G hk (we_mono h fun d Λ1 ⟨u, h1, h2⟩ => ⟨u, h1, h2.to⟩) he hd
theorem errC {κ : Kl} {α : Type} {Q : α → Prop} {Eh : Str → List U → Prop} {E : ER} {Γ : Pl.Env} {Λ : Cells} {c : Str} {u : U} (hE : EIa κ Eh E Γ Λ) (h : wp (M.err c [u] : M α) Q Eh) : ∃ u', em κ u = em κ u' ∧ Rto κ E c u' Γ Λ := ⟨u, rfl, ⟨hE c [u] h⟩⟩
section
variable {κ : Kl} {C : Pl.Ctx} {E : ER} {Γ : Pl.Env} {Λ : Cells} {pos p apos : Pos} {e : Expr} {es : List Expr} {f m x c : Str} {k n : Nat}
end
end Sh

/-! Sh35: the module's dicts of texts and whole numbers by words. -/
namespace Sh
open PySem L2 Pl PyProof.Rows
/-- the entries of a written dict -/
def entsU : List DictEntry → List (Str × U) → Prop
  | [], [] => True
  | e :: r, p :: ps => (∃ t, e.key = .str p.1 t) ∧ ((∃ s t, p.2 = .str s ∧ e.val = .str s t) ∨ (∃ i t, p.2 = .int i ∧ e.val = .int i t)) ∧ entsU r ps
  | _, _ => False
def atU (u : U) (v : Value) : Prop := (∃ s t, u = .str s ∧ v = .str s t) ∨ (∃ i t, u = .int i ∧ v = .int i t)
/-- the dict x of the module -/
def DicK (K : PySem.W.Frag) (w : World) (mg : Str → Option Value) (x : Str) (ps : List (Str × U)) : Prop := ∃ a es n, mg x = some (.ref a) ∧ KDict K w a es n ∧ entsU es.toList ps
theorem ents_find {z : Str} : ∀ {es : List DictEntry} {ps : List (Str × U)}, entsU es ps → match ps.lookup z with
    | some u => ∃ e, es.find? (·.key.isStr z) = some e ∧ atU u e.val
    | none => es.find? (·.key.isStr z) = none ∧ es.any (·.refKey) = false
  | [], [], _ => ⟨rfl, rfl⟩
  | e :: r, p :: ps, h => by
    obtain ⟨⟨t, hk⟩, hv, hr⟩ := h
    have ih := ents_find (z := z) hr
    have hs : e.key.isStr z = (p.1 == z) := by rw [hk]; rfl
    have hrk : e.refKey = false := by unfold DictEntry.refKey; rw [hk]
    obtain ⟨px, pu⟩ := p
    rw [List.lookup_cons, List.find?_cons, List.any_cons, hs, hrk, Bool.false_or]
    by_cases hz : z = px
    · subst hz
      rw [beq_self_eq_true]
      exact ⟨e, rfl, hv⟩
    · rw [beq_false_of_ne hz]
      have hz2 : (px == z) = false := beq_false_of_ne fun q => hz q.symm
      dsimp only at hz2 ⊢
      rw [hz2]
      exact ih
  | [], _ :: _, h => h.elim
  | _ :: _, [], h => h.elim
theorem dic_ns {K : PySem.W.Frag} {w : World} {a : Addr} {es : Array DictEntry} {n : Nat} {ps : List (Str × U)} (D : KDict K w a es n) (h : entsU es.toList ps) (z : Str) : match ps.lookup z with
    | some u => ∃ v, PySem.W.nsIn K a z = some (some v) ∧ atU u v
    | none => PySem.W.nsIn K a z = some none := by
  have q := ents_find (z := z) h
  unfold PySem.W.nsIn
  rw [D.at_]
  dsimp only
  cases e : ps.lookup z with
  | some u =>
    rw [e] at q
    obtain ⟨en, h1, h2⟩ := q
    rw [h1]
    exact ⟨_, rfl, h2⟩
  | none =>
    rw [e] at q
    rw [q.1, q.2]
    rfl
/-- x[u] -/
def dicM (ps : List (Str × U)) : U → M U
  | .str z => match ps.lookup z with
    | some u => .ok u
    | none => .stuck
  | _ => .stuck
section
variable {κ : Kl} {C : Pl.Ctx} {E : ER} {Γ : Pl.Env} {Λ : Cells} {P : D → Cells → Prop} {Pb : Bool → Cells → Prop} {pos p : Pos} {e : Expr} {x : Str} {ps : List (Str × U)}
theorem atU_rel {u : U} {v : Value} (h : atU u v) : ∃ w, RelV w v ∧ ∀ (K : PySem.W.Frag) (B : Hp) (α : List Addr), Rep K B α (em κ u) w := by
  rcases h with ⟨s, t, rfl, rfl⟩ | ⟨i, t, rfl, rfl⟩
  · exact ⟨.str s, ⟨t, rfl⟩, fun K B α => by show Rep K B α (.str s) _; unfold Rep; rfl⟩
  · exact ⟨.int i, ⟨t, rfl⟩, fun K B α => by show Rep K B α (.int i) _; unfold Rep; rfl⟩
theorem we_gdicK (D : DicK C.K C.w C.mg x ps) (hj : GlAt C x) (h : WE C E Γ Λ e fun d Λ' => ∃ u, d = em κ u ∧ wp (dicM ps u) (fun z => P (em κ z) Λ') Tr) (hs : PlainIx e := by intro _ _; rfl) (hd : (x == ("__debug__" : Str)) = false := by decide) : WE C E Γ Λ (.Subscript (.Name x p) e pos) P := fun X F W is tk => by
  obtain ⟨a, es, n, hm, hk, he⟩ := D
  refine pe_imp (pe_ix ix_kdict (pe_glob (v := .ref a) (is.gl hj) (by rw [is.mg]; exact hm) rfl hd) pe_U hs) fun σ H Q ⟨B, α, S, q, er⟩ => ?_
  refine WE.use h is tk S er fun d Λ' v B' α' H' p S' e f r => ?_
  obtain ⟨u, rfl, p⟩ := p
  unfold dicM at p
  split at p
  · rename_i z
    split at p
    · rename_i u hu
      have hn := dic_ns hk he z
      rw [hu] at hn
      obtain ⟨v0, h1, h2⟩ := hn
      obtain ⟨w, h3, h4⟩ := atU_rel (κ := κ) h2
      have r : Rep C.K B' α' (.str z) v := r
      unfold Rep at r
      exact ⟨a, z, w, rfl, r, by rw [is.K, is.w]; exact ⟨es, n, v0, hk.at_, hk.lit, h1, h3⟩, q _ _ _ _ _ _ p S' e f (h4 _ _ _)⟩
    · exact p.elim
  · exact p.elim
theorem dicK_mk {K : PySem.W.Frag} {w : World} {mg : Str → Option Value} {h : Heap} {a : Addr} {es : Array DictEntry} {n : Nat} (X : K.In h) (G : h.Ns mainGlobals mg)
    (ha : PySem.W.nsIn K mainGlobals x = some (some (.ref a))) (l : K.lookup a = some ⟨.type "dict", none, .dict es n, #[]⟩) (hk : PySem.W.KeysLit w.params es.toList) (hv : entsU es.toList ps) (low : (a == sysModules) = false) : DicK K w mg x ps :=
  ⟨a, es, n, PySem.W.mg_of X G ha, ⟨l, hk, low⟩, hv⟩
end
end Sh

/-! Sh36: split, partition, upper, replace, str(int). -/
namespace L2
open PySem PySem.Spec PyProof.Rows
section
variable {X : Cx} {a o e : Expr} {ta to te : TE} {t : TE} {y z : Str} {j : Int} {k k1 k2 : Nat} {c0 c1 c2 apos pos p1 p2 : Pos}
end
end L2
namespace Sh
open PySem L2 Pl PyProof.Rows
section
variable {κ : Kl} {C : Pl.Ctx} {E : ER} {Γ : Pl.Env} {Λ : Cells} {P : D → Cells → Prop} {Pn : List D → Cells → Prop} {pos apos cpos p p1 p2 c0 c1 c2 : Pos} {o e a : Expr} {j : Int} {k k1 k2 : Nat} {y z : Str}
end
end Sh

/-! Sh37: a thing with one field that bears a bare thing, owned, changed by its own methods, which may refuse. -/
namespace Sh
open PySem L2 Pl PyProof.Rows
section
variable {κ : Kl} {c f : Str} {n : Nat}
variable {G : Gl} {Cl : Addr} {m qual : Str} {st : Stmt} {ps : List Str} {N : List Str} {vs ls : List Bool} {gl : List Str} {k : Nat} {g : List U → U → M (U × U)}
end
section
variable {κ : Kl} {C : Pl.Ctx} {E : ER} {Γ : Pl.Env} {Λ : Cells} {pos p apos pos' : Pos} {o e : Expr} {es : List Expr} {f m c : Str} {k n : Nat}
variable {R : Rs}
end
end Sh

/-! Sh38: x or y of texts; what stays as it was. -/
namespace Sh
open PySem L2 Pl PyProof.Rows
section
variable {κ : Kl} {C : Pl.Ctx} {E : ER} {Γ : Pl.Env} {Λ : Cells} {a b : Expr} {pos : Pos} {P : D → Cells → Prop}
end
/-- it is as it was -/
noncomputable def sameM (u v : U) : M Unit := by classical exact if u = v then .ok () else .stuck
@[simp] theorem sameM_ok {u : U} : sameM u u = .ok () := by unfold sameM; rw [if_pos rfl]
end Sh

/-! Sh39: sorted(e, key=lambda x: ..): the lambda made, called for each thing, the things sorted by what it gives. -/
namespace PySem.W
open PySem PySem.Calls PyProof.Rows
section
variable {prog : Program} {w : World} {A : Around} {E : Value → Shared → Prop} {s : Shared} {a kS : Addr} {vs : List Value} {e1 : Nat} {P : PySem.Fin → Shared → Prop} {kz : List Int} {J : Shared → Prop}
/-- both objects that a sort writes are elsewhere -/
def Off (a kS : Addr) (h h' : Heap) : Prop := ∀ b o, b ≠ a → b ≠ kS → h.get? b = some o → h'.get? b = some o
theorem Off.trans {a kS : Addr} {h h1 h2 : Heap} (x : Off a kS h h1) (y : Off a kS h1 h2) : Off a kS h h2 := fun b o n1 n2 e => y b o n1 n2 (x b o n1 n2 e)
end
end PySem.W

namespace L2
open PySem PySem.Spec PyProof.Rows LamX
section
variable {X : Cx} {pins : List (Addr × Obj)} {σ : St} {H : Hp} {s : Shared}
end
end L2
namespace Pl
open PySem L2 PyProof.Rows LamX
section
variable {K : PySem.W.Frag} {F : Fm} {B : Hp} {α : List Addr} {Γ : Env} {Λ : Cells} {σ : L2.St} {H H' : Hp}
end
@[reducible] def lamCtx (C : Ctx) (N : List Str) (sc : Scope) (vs ls : List Bool) (gl : List Str) (k : Nat) : Ctx := ⟨C.P, C.w, C.K, C.mg, C.base, N, sc, vs, ls, gl, k, 0, true, none, false⟩
instance {C : Ctx} {N : List Str} {sc : Scope} {vs ls : List Bool} {gl : List Str} {k : Nat} : Cool (lamCtx C N sc vs ls gl k) := ⟨rfl⟩
section
variable {C : Ctx} {E : ER} {Γ : Env} {Λ : Cells} {P : List D → Cells → Prop} {pos p kpos lpos : Pos} {e : Expr}
end
end Pl

/-! Sh40: t.count(b) of truths; sorted by a lambda in the pure reading; defs that make lambdas. -/
namespace L2
open PySem PySem.Spec PyProof.Rows PySem.W
section
variable {X : Cx} {o e : Expr} {es : List Expr} {to : TE} {t : TA} {name : Str} {apos cpos : Pos} {id : String} {r : V → List V → Hp → VK → Prop}
end
end L2
namespace Sh
open PySem L2 Pl PyProof.Rows
section
variable {κ : Kl} {C : Pl.Ctx} {E : ER} {Γ : Pl.Env} {Λ : Cells} {P : D → Cells → Prop} {o e : Expr} {apos cpos : Pos} {α : Type} {Q : α → Prop} {Eh : Str → List U → Prop}
end
section
variable {κ : Kl} {C C' : Pl.Ctx} {Λ1 : Cells} {α : Type} {Q : α → Prop} {Eh : Str → List U → Prop} {N : List Str} {body : Expr} {P : List D → Cells → Prop}
end
end Sh
namespace Pl
open PySem L2 PyProof.Rows
/-- a def of the module that makes lambdas: its code object stands at c -/
structure DefAtL (K : PySem.W.Frag) (mg : Str → Option Value) (x : Str) (st : Stmt) (ps : List Str) (c : Addr) : Prop where
  ex : ∃ f fd, Fun K x x st f fd ∧ mg x = some (.ref f) ∧ (∀ us : List Value, us.length = ps.length → bindArgs fd ⟨us, []⟩ = pure (ps.zip us)) ∧ fd.code = .ref c
theorem DefAtL.at {K : PySem.W.Frag} {mg : Str → Option Value} {x : Str} {st : Stmt} {ps : List Str} {c : Addr} (h : DefAtL K mg x st ps c) : DefAt K mg x st ps := by
  obtain ⟨f, fd, h1, h2, h3, _⟩ := h.ex
  exact ⟨f, fd, h1, h2, h3⟩
end Pl
namespace Sh
open PySem L2 Pl PyProof.Rows
end Sh

/-! Sh41: sorted(rows): rows are tuples of truths. -/
namespace Law
end Law
namespace L2
open PySem PySem.Spec PyProof.Rows PySem.W
end L2
namespace Sh
open PySem L2 Pl PyProof.Rows
section
variable {κ : Kl} {C : Pl.Ctx} {E : ER} {Γ : Pl.Env} {Λ : Cells} {Pn : List D → Cells → Prop} {pos p : Pos} {e : Expr}
end
end Sh

/-! Sh42: s < t of tuples of truths. -/
namespace L2
open PySem PySem.Spec PyProof.Rows PySem.W
end L2
namespace Sh
open PySem L2 Pl PyProof.Rows
section
variable {κ : Kl} {C : Pl.Ctx} {E : ER} {Γ : Pl.Env} {Λ : Cells} {Pt : Bool → Cells → Prop} {pos : Pos} {a b : Expr}
end
end Sh

/-! Sh43: defs that are called while an exception is being handled. -/
namespace L2
open PySem PySem.Spec PyProof.Rows
theorem RoomW.mono {j k : Nat} {A : Around} (r : RoomW k A) (h : j ≤ k) : RoomW j A := ⟨r.gd, by have := r.dp; omega, by have := r.un; omega⟩
theorem RoomW.deeper {k : Nat} {A : Around} (r : RoomW (k + 1) A) (env : Env) : RoomW k (A.deeper env) :=
  ⟨r.gd, by have := r.dp; show A.depth + 1 + k + 8 < _; omega, by have := r.un; show A.units + 3 + 4 * k + 220 < _; omega⟩
theorem RoomW.depth {k : Nat} {A : Around} (r : RoomW k A) : A.depth < recursionLimit := by have := r.dp; omega
/-- what a def promises, whatever is being handled -/
structure FnW (P : Program) (w : World) (K : PySem.W.Frag) (mg : Str → Option Value) (base : Heap) (CX : CXT) (k : Nat) (f : Addr) (fd : FuncData) (ps : List Str) (sp : Sp) : Prop where
  len : ∀ vs H Q E, sp vs H Q E → vs.length = ps.length
  run : ∀ (A : Around) (outer : List Env) (s : Shared) (H : Hp) (args : Args) (us : List Value) (vs : List V) (Q : VK) (E : XK), RoomW k A → Env0 P w K mg base A outer s H → BindsTo s fd args (ps.zip us) → Vals vs us → sp vs H Q E →
    codeAny (model P w) A (.call (.ref f) args) (CR CX outer P w H s Q E) s
/-- .. so where nothing is, too -/
theorem FnW.g {P : Program} {w : World} {K : PySem.W.Frag} {mg : Str → Option Value} {base : Heap} {CX : CXT} {k : Nat} {f : Addr} {fd : FuncData} {ps : List Str} {sp : Sp} (F : FnW P w K mg base CX k f fd ps sp) : FnG P w K mg base CX k f fd ps sp :=
  ⟨F.len, fun A outer s H args us vs Q E hr => F.run A outer s H args us vs Q E hr.w⟩
section
variable {P : Program} {w : World} {K : PySem.W.Frag} {mg : Str → Option Value} {base : Heap}
end
section
variable {X : Cx} {CX : CXT} {k : Nat} {f : Addr} {fd : FuncData} {ps : List Str} {sp : Sp} {dvs : List V} {ds : List Value} {E : St → XK} {x : Str} {p pos : Pos} {e : Expr} {es : List Expr} {t : TA}
end
end L2
namespace Pl
open PySem L2 PyProof.Rows
/-- a def of the module, whatever is being handled -/
structure FnHot (P : Program) (w : World) (K : PySem.W.Frag) (mg : Str → Option Value) (base : Heap) (k : Nat) (x : Str) (n : Nat) (S : Spec) : Prop where
  ex : ∃ f fd ps, FnW P w K mg base (L2.CX P w) k f fd ps (spOf K n S) ∧ mg x = some (.ref f) ∧ PySem.W.keepIn K (.ref f) = true ∧ Binds K fd ps [] ∧ ps.length = n
theorem FnHot.g {P : Program} {w : World} {K : PySem.W.Frag} {mg : Str → Option Value} {base : Heap} {k : Nat} {x : Str} {n : Nat} {S : Spec} (h : FnHot P w K mg base k x n S) : Fn P w K mg base k x n S := by
  obtain ⟨f, fd, ps, h1, h2⟩ := h.ex
  exact ⟨f, fd, ps, h1.g, h2⟩
section
variable {C : Ctx} {E : ER} {Γ : Env} {Λ : Cells} {pos p : Pos}
end
@[reducible] def Gl.cxh (G : Gl) (N : List Str) (sc : Scope) (vs ls : List Bool) (gl : List Str) (k : Nat) (m : Nat := 0) : Ctx := ⟨G.P, G.w, G.K, G.mg, G.base, N, sc, vs, ls, gl, k, m, true, none, true⟩
end Pl
namespace Sh
open PySem L2 Pl PyProof.Rows
section
variable {κ : Kl} {C : Pl.Ctx} {E : ER} {Γ : Pl.Env} {Λ : Cells} {n : Nat} {pos p : Pos}
end
section
variable {κ : Kl} {G : Gl}
end
end Sh

/-! Sh44: a suite of one statement behind `except x as n`, walked while the exception is being handled. -/
namespace L2
open PySem PySem.Spec PyProof.Rows
section
variable {X : Cx} {x n : Str} {c : Value} {i : Nat} {body : List Stmt} {b₀ : Stmt} {np pos pos' : Pos} {tb : WX → TS}
end
end L2
namespace Pl
open PySem L2 PyProof.Rows
/-- the context while an exception is being handled -/
@[reducible] def Ctx.heat (C : Ctx) : Ctx := { C with hot := true }
section
variable {C : Ctx} {Γ : Env} {Λ : Cells} {R : Rs} {x n : Str} {CA : Addr} {i : Nat} {body : List Stmt} {b₀ : Stmt} {np pos pos' : Pos}
end
end Pl
namespace Sh
open PySem L2 Pl PyProof.Rows
section
variable {κ : Kl} {C : Pl.Ctx} {E : ER} {Γ : Pl.Env} {Λ : Cells} {R : Rs} {pos pos' np : Pos} {x n y : Str} {Eh : Str → List U → Prop}
end
end Sh

/-! Sh45: int(text). -/
namespace Sh
open PySem L2 Pl
section
variable {κ : Kl} {C : Pl.Ctx} {E : ER} {Γ : Pl.Env} {Λ : Cells} {e : Expr} {p pos : Pos} {P : D → Cells → Prop}
end
end Sh

/-! Sh46: comprehensions whose items may be refused. -/
namespace Pl
open PySem L2

section
variable {M : Model} {A : Around} {E : Value → Shared → Prop} {s : Shared} {Z : Obj → Prop} {base : Heap} {env : PySem.Env} {outer l : List PySem.Env} {L e : Addr}
end

section
variable {M : Model} {A : Around} {E : Value → Shared → Prop} {s : Shared} {env : PySem.Env}
end

section
variable {X : Cx} {pins : List (Addr × Obj)} {σ : L2.St} {H H3 : Hp} {s s3 : Shared} {W : WX}
end

/-! ### the loop -/
section
variable {X : Cx}
end

section
variable {C : Ctx} {E : ER} {Γ : Env} {Λ : Cells}
end
end Pl
namespace Sh
open PySem L2 Pl
section
variable {κ : Kl} {C : Pl.Ctx} {E : ER} {Γ : Pl.Env} {Λ : Cells} {α : Type} {Q : α → Prop} {Eh : Str → List U → Prop} {tg : Expr} {ws : List Nat}
end
end Sh

/-! Sh47: a dict of items that is owned; a, b = u, v. -/
namespace Pl
open PySem L2 PyProof.Rows
section
variable {C : Ctx} {E : ER} {Γ : Env} {Λ : Cells} {pos : Pos}
end
section
variable {C : Ctx} {E : ER} {Γ : Env} {Λ : Cells}
end
end Pl

/-! Sh48: x.index(y) of a list of deep things. -/
namespace Pl
open PySem PySem.Spec PyProof.Rows L2
section
variable {X : Cx}
end
end Pl
namespace Sh
open PySem L2 Pl PyProof.Rows
section
variable {κ : Kl} {C : Pl.Ctx} {E : ER} {Γ : Pl.Env} {Λ : Cells} {P : D → Cells → Prop} {o e : Expr} {apos cpos : Pos}
end
end Sh
namespace Law
open PySem L2 Pl Sh PyProof.Rows
end Law

/-! Sh49: sorted(d.keys()); defs that hand back a tuple in which a list is owned; cells thrown away. -/
namespace L2
open PySem PySem.Spec PyProof.Rows
section
variable {X : Cx} {e : Expr} {td : TE} {apos cpos : Pos}
end
end L2
namespace Sh
open PySem L2 Pl PyProof.Rows Law
section
variable {κ : Kl} {C : Pl.Ctx} {E : ER} {Γ : Pl.Env} {Λ : Cells} {Pn : List D → Cells → Prop} {pos p apos cpos : Pos} {e : Expr}
end
/-! cells thrown away -/
/-! results that are taken apart -/
end Sh

/-! Sh50: exceptions made as values. -/
namespace L2
open PySem PySem.Spec PyProof.Rows
/-- an exception that is made, and tracked from now on -/
theorem pe_mkO {X : Cx} {e : Expr} {t : St → Hp → XK → Prop} (hm : PMk X e t) : PE X e (fun σ H Q => t σ H fun cls d H' => ∃ C, cls = .ref C ∧ ∀ a, H' a = none → Q (.ref a) (upd H' a (Pl.excHO C a d))) := by
  refine ⟨fun pins s σ H Q I h => wpAny_mono (hm pins s σ H _ I h) (fun u s1 hu => ?_) fun _ _ x => x⟩
  obtain ⟨a, oe, vs, sI, H', cls, d, rfl, J, k, hne, ha, hz, hd, h1, na, os, ag, r, C, rfl, q⟩ := hu
  have J2 := J.laidN (t' := s1.toks) k hne na (excHO_ok ha hz hd)
  exact ⟨.ref a, _, ⟨J2.ok, os.trans J2.os, ag, J2.base, J2.loc, J2.cell, J2.free, J2.freeC, J2.pin, J2.hok, J2.len⟩, rfl, q a na⟩
end L2
namespace Pl
open PySem L2 PyProof.Rows
section
variable {C : Ctx} {E : ER} {Γ : Env} {Λ : Cells} {P : D → Cells → Prop} {x f : Str} {CA fI : Addr} {k : Nat} {fd : FuncData} {ps : List Str} {np pos : Pos} {e : Expr}
theorem we_mk0 [Cool C] (hg : GlAt C x) (hm : C.mg x = some (.ref CA)) (hq : PySem.W.excIn C.K CA [.type "ValueError", .type "Exception", .type "BaseException", .type "object"] "ValueError.__new__" = true) (hk : PySem.W.keepIn C.K (.ref CA) = true)
    (hb : PySem.W.subIn C.K (.ref CA) (.type "BaseException") = some true) (ht : PySem.W.typeIn C.K (.ref CA) = some (.type "type")) (h : P (.exc CA [] []) Λ) (hd : (x == ("__debug__" : Str)) = false := by decide) :
    Pl.WE C E Γ Λ (.Call (.Name x np) [] [] pos) P := fun X F W is tk => by
  have e1 := is.K; have e2 := is.mg
  refine pe_imp (pe_mkO (pmk_own0 PySem.F.excBase_ValueError (by rw [e1]; exact hq) (by rw [e2]; exact hm) (by rw [e1]; exact hk) (raises_own (by rw [e1]; exact hb) (by rw [e1]; exact ht)) (is.gl hg) hd)) fun σ H Q ⟨B, α, S, q, er⟩ => ?_
  refine ⟨CA, rfl, fun a ha => ?_⟩
  have hx : Ex B (upd B a (excHO CA a none)) := Ex.new (S.bh.back ha)
  refine q _ Λ _ _ α _ h (S.lay ha) hx (List.prefix_refl _) ?_
  show Rep C.K _ α (.exc CA [] []) (.ref a)
  unfold Rep
  exact ⟨a, none, [], rfl, upd_same, .nil, rfl, fun _ => rfl, fun dx q => by cases q⟩
theorem we_mk1 [Cool C] (T : OexC C.K CA) (iC : PySem.W.findIn C.K (.ref CA) "__init__" = some (some (.ref fI))) (tI : PySem.W.typeIn C.K (.ref fI) = some (.type "function")) (hno : PySem.W.findIn C.K (.ref CA) f = some none)
    (F1 : FnOk C.P C.w C.K C.mg C.base (L2.CX C.P C.w) k fI fd ps (spFld C.K f)) (hk : 4 * (k + 1) ≤ C.k) (hb : Binds C.K fd ps []) (hg : GlAt C x) (hm : C.mg x = some (.ref CA)) (h : Pl.WE C E Γ Λ e fun d Λ1 => P (.exc CA [f] [d]) Λ1)
    (he : plainE e = true := by rfl) (hd : (x == ("__debug__" : Str)) = false := by decide) : Pl.WE C E Γ Λ (.Call (.Name x np) [e] [] pos) P := fun X F W is tk => by
  have e1 := is.prog; have e2 := is.w; have e3 := is.K; have e4 := is.mg; have e5 := is.base
  refine pe_imp (pe_mkO (pmk_oex (dvs := []) (ds := []) (by rw [e3]; exact T) (by rw [e3]; exact iC) (by rw [e3]; exact tI) (by rw [e1, e2, e3, e4, e5]; exact F1) (is.room.room hk) (by rw [e3]; exact hb) .nil Sh.passF (is.gl hg) (by rw [e4]; exact hm) (pa_cons pe_U pa_nil (star_plain he)) hd (star_plain he) rfl)) fun σ H Q ⟨B, α, S, q, er⟩ => ?_
  refine WE.use h is tk S er fun d Λ1 v B1 α1 H1 p1 S1 x1 f1 r1 => ?_
  refine ⟨by simp, fun a ha => ⟨a, CA, v, rfl, T, hno, upd_same, fun dx hdx ne => ⟨rfl, dx, [(f, v)], upd_same, ?_, ?_, ?_⟩⟩⟩
  · rw [upd_ne ne, upd_same]
  · rw [upd_ne ne] at hdx; exact hdx
  · rw [upd_ne ne] at hdx
    have eH : upd (del (upd (upd (upd H1 a (exo a CA none)) dx (exd dx [(f, v)])) a (exo a CA (some dx))) a) dx (.xd [(f, v)]) = upd H1 dx (.xd [(f, v)]) := by
      funext b
      by_cases hb : b = dx
      · subst hb; rw [upd_same, upd_same]
      · rw [upd_ne hb, upd_ne hb]
        by_cases hba : b = a
        · subst hba; rw [del_same, ha]
        · rw [del_ne hba, upd_ne hba, upd_ne hb, upd_ne hba]
    rw [eH]
    have S2 := S1.lay (o := .xd [(f, v)]) hdx
    have hB : B1 dx = none := S1.bh.back hdx
    have hx : Ex B1 (upd B1 dx (.xd [(f, v)])) := Ex.new hB
    refine ⟨CA, rfl, fun a2 ha2 => ?_⟩
    have S3 := S2.lay (o := excHO CA a2 (some dx)) ha2
    have hx2 : Ex (upd B1 dx (.xd [(f, v)])) (upd (upd B1 dx (.xd [(f, v)])) a2 (excHO CA a2 (some dx))) := Ex.new (S2.bh.back ha2)
    refine q _ Λ1 _ _ α1 _ p1 S3 (x1.trans (hx.trans hx2)) f1 ?_
    show Rep C.K _ α1 (.exc CA [f] [d]) (.ref a2)
    unfold Rep
    exact ⟨a2, some dx, [v], rfl, upd_same, .one (r1.mono (hx.trans hx2) (List.prefix_refl _)), rfl, fun z => (nomatch z), fun dx' z => by cases z; exact hx2 _ _ upd_same⟩
end
end Pl
namespace Sh
open PySem L2 Pl PyProof.Rows
section
variable {κ : Kl} {C : Pl.Ctx} {E : ER} {Γ : Pl.Env} {Λ : Cells} {P : D → Cells → Prop} {pos np : Pos} {c : Str} {e : Expr} {k : Nat}
theorem we_mk0M [Cool C] (hg : GlAt C c) (T : ExcK C.K C.mg κ c) (h : P (em κ (.exc c [])) Λ) (hd : (c == ("__debug__" : Str)) = false := by decide) : Pl.WE C E Γ Λ (.Call (.Name c np) [] [] pos) P := by
  refine we_mk0 hg T.g T.q T.k T.b T.t ?_ hd
  have : em κ (.exc c []) = .exc (κ.ad c) (κ.fs c) [] := rfl
  rw [this, T.f] at h
  exact h
theorem we_mk1M [Cool C] (hg : GlAt C c) (G : Exc1 C.P C.w C.K C.mg C.base κ k c) (hk : 4 * (k + 1) ≤ C.k) (h : Pl.WE C E Γ Λ e fun d Λ1 => ∃ u, d = em κ u ∧ P (em κ (.exc c [u])) Λ1) (he : plainE e = true := by rfl) (hd : (c == ("__debug__" : Str)) = false := by decide) :
    Pl.WE C E Γ Λ (.Call (.Name c np) [e] [] pos) P := by
  obtain ⟨fI, fd, ps, f, T, iC, tI, hno, F1, hb, hf⟩ := G.ex
  refine we_mk1 T iC tI hno F1 hk hb hg G.g (we_mono h fun d Λ1 ⟨u, hu, h⟩ => ?_) he hd
  subst hu
  have : em κ (.exc c [u]) = .exc (κ.ad c) (κ.fs c) [em κ u] := rfl
  rw [this, hf] at h
  exact h
end
end Sh

namespace Law
open PySem L2 Pl Sh
local macro_rules | `(tactic| walk_at "ms") => `(tactic| simp only [Ok_bind, Ok_calm, Ok_ok, Ok_ite, Ok_itd, M.bind_ok, M.calm_ok, eqM_int, eqM_str, eqM_bl, ltM_int, leM_int, gtM_int, geM_int, addM_int, subM_int, negM_int, lenM_lst, lenM_fzl, lenM_tup, modM_int, fdivM_int, mulM_l, mulM_r, Int.reduceLT, Int.reduceNeg, nB_ok, vB_ok, boolM_bl, endM_int, listM_lst, listM_tup, iterL_lst, iterL_fzl, iterT_tup, isi_tup, isi_lst, isi_bl, isi_str, isi_int, isi_st, isi_ts, isi_ib, ix_t0, ix_t1, ix_t2, ix_l0, ix_l1, ix_l2, pow10_6, pow10_9, pow10_12, pow10_30, decide_eq_true_eq, decide_eq_false_iff_not, Bool.not_true, Bool.not_false, Bool.not_eq_true, if_true, if_false, reduceIte, Bool.false_eq_true, true_implies, false_implies, implies_true, and_self, and_true, true_and, reduceCtorEq])
local macro_rules | `(tactic| walk_at "nlc") => `(tactic| simp only [cellsAt, List.map, List.take_succ_cons, List.take_zero, List.take_nil, List.all_cons, List.all_nil, nlC, nls_em, nls_nil, nls_cons, nl_em, Bool.and_self, Bool.and_true, List.getElem?_cons_zero, List.getElem?_cons_succ, Option.getD_some, Option.getD_none])
abbrev dc_WORDS : List (Str × U) := [("&", .str "and"), ("|", .str "or"), (">", .str "if")]

noncomputable def sh__law_text : Nat → List U → M U
  | kk + 1, [v_saying] =>
    (ixM v_saying (.int 0)).bind fun z1 =>
    (eqM z1 (.str "no")).bind fun b2 =>
    if b2 then
      .ok (.str "0")
    else
      (ixM v_saying (.int 0)).bind fun z3 =>
      (eqM z3 (.str "letter")).bind fun b4 =>
      if b4 then
        (ixM v_saying (.int 1)).bind fun z5 =>
        .ok z5
      else
        (ixM v_saying (.int 0)).bind fun z6 =>
        (eqM z6 (.str "not")).bind fun b7 =>
        if b7 then
          (ixM v_saying (.int 1)).bind fun z8 =>
          (sh__law_text kk [z8]).bind fun z9 =>
          (addM (.str "~") z9).bind fun z10 =>
          .ok z10
        else
          (ixM v_saying (.int 0)).bind fun z11 =>
          (eqM z11 (.str "shown")).bind fun b12 =>
          if b12 then
            (ixM v_saying (.int 1)).bind fun z13 =>
            (sh__law_text kk [z13]).bind fun z14 =>
            (addM (.str "[") z14).bind fun z15 =>
            (addM z15 (.str "]")).bind fun z16 =>
            .ok z16
          else
            (ixM v_saying (.int 0)).bind fun z17 =>
            (ixdM (.dic ((["and", "or", "if"] : List Str).map .inr) [.str "&", .str "|", .str ">"]) z17).bind fun z18 =>
            (ixM v_saying (.int 1)).bind fun z19 =>
            (sh__law_text kk [z19]).bind fun z20 =>
            (addM (.str "(") z20).bind fun z21 =>
            (addM z21 z18).bind fun z22 =>
            (ixM v_saying (.int 2)).bind fun z23 =>
            (sh__law_text kk [z23]).bind fun z24 =>
            (addM z22 z24).bind fun z25 =>
            (addM z25 (.str ")")).bind fun z26 =>
            .ok z26
  | _, _ => .stuck

noncomputable def sh__law_mix : Nat → List U → M U
  | kk + 1, [v_script, v_k] =>
    (
      (lenM v_script).bind fun z1 =>
      (ltM v_k z1).bind fun b2 =>
      if b2 then
        (ixM v_script v_k).bind fun z3 =>
        .ok z3
      else
        .ok (.int 0)
    ).bind fun v_cell_4 =>
    (mulM (.int 7) v_k).bind fun z5 =>
    (mulM z5 v_k).bind fun z6 =>
    (addM v_cell_4 z6).bind fun z7 =>
    (addM z7 (.int 11)).bind fun z8 =>
    (mulM z8 (.int 48271)).bind fun z9 =>
    (modM z9 (.int 2147483647)).bind fun z10 =>
    (mulM z10 (.int 69621)).bind fun z11 =>
    (modM z11 (.int 1000000007)).bind fun z12 =>
    .ok z12
  | _, _ => .stuck

noncomputable def sh__law_built : Nat → List U → M U
  | kk + 1, [v_script, v_at, v_count] =>
    (range1M v_count).bind fun it1 =>
    (forN (fun v_stack_2 x3 =>
        (addM v_at x3).bind fun z4 =>
        (sh__law_mix kk [v_script, z4]).bind fun z5 =>
        (modM z5 (.int 9)).bind fun z6 =>
        (fdivM z5 (.int 9)).bind fun z7 =>
        (modM z7 (.int 4)).bind fun z8 =>
        (ixM (.lst [.tup [.str "no"], .tup [.str "letter", .str "p"], .tup [.str "letter", .str "q"], .tup [.str "letter", .str "r"]]) z8).bind fun z9 =>
        (
          (
            (ltM z6 (.int 4)).bind fun b10 =>
            if b10 then
              .ok true
            else
              (lenM (.lst v_stack_2)).bind fun z11 =>
              (eqM z11 (.int 0)).bind fun b12 =>
              .ok b12
          ).bind fun b13 =>
          if b13 then
            (appM v_stack_2 z9).bind fun l14 =>
            .ok l14
          else
            (
              (ltM z6 (.int 7)).bind fun b15 =>
              if b15 then
                (subM z6 (.int 4)).bind fun z16 =>
                (ixM (.lst [.str "not", .str "shown", .str "shown"]) z16).bind fun z17 =>
                (negM (.int 1)).bind fun z18 =>
                (ixM (.lst v_stack_2) z18).bind fun z19 =>
                (negM (.int 1)).bind fun z20 =>
                (setM v_stack_2 z20 (.tup [z17, z19])).bind fun l21 =>
                .ok l21
              else
                (
                  (lenM (.lst v_stack_2)).bind fun z22 =>
                  (gtM z22 (.int 1)).bind fun b23 =>
                  if b23 then
                    (popM v_stack_2).bind fun (z24, l25) =>
                    (fdivM z5 (.int 9)).bind fun z27 =>
                    (modM z27 (.int 3)).bind fun z28 =>
                    (ixM (.lst [.str "and", .str "or", .str "if"]) z28).bind fun z29 =>
                    (negM (.int 1)).bind fun z30 =>
                    (ixM (.lst l25) z30).bind fun z31 =>
                    (negM (.int 1)).bind fun z32 =>
                    (setM l25 z32 (.tup [z29, z31, z24])).bind fun l33 =>
                    .ok l33
                  else
                    .ok v_stack_2
                ).bind fun v_stack_34 =>
                .ok v_stack_34
            ).bind fun v_stack_35 =>
            .ok v_stack_35
        ).bind fun v_stack_36 =>
        .ok v_stack_36
      ) it1 []).bind fun v_stack_37 =>
    (whN (fun v_stack_38 =>
        (lenM (.lst v_stack_38)).bind fun z39 =>
        (gtM z39 (.int 1)).bind fun b40 =>
        .ok b40
      ) (fun v_stack_41 =>
        (popM v_stack_41).bind fun (z42, l43) =>
        (lenM (.lst l43)).bind fun z45 =>
        (modM z45 (.int 3)).bind fun z46 =>
        (ixM (.lst [.str "and", .str "or", .str "if"]) z46).bind fun z47 =>
        (negM (.int 1)).bind fun z48 =>
        (ixM (.lst l43) z48).bind fun z49 =>
        (negM (.int 1)).bind fun z50 =>
        (setM l43 z50 (.tup [z47, z49, z42])).bind fun l51 =>
        .ok l51
      ) 1000000 v_stack_37).bind fun v_stack_52 =>
    (ixM (.lst v_stack_52) (.int 0)).bind fun z53 =>
    .ok z53
  | _, _ => .stuck

noncomputable def sh__law_spoilt : Nat → List U → M U
  | kk + 1, [v_text_here, v_cell] =>
    (fdivM v_cell (.int 5)).bind fun z1 =>
    (lenM v_text_here).bind fun z2 =>
    (addM z2 (.int 1)).bind fun z3 =>
    (modM z1 z3).bind fun z4 =>
    (fdivM v_cell (.int 1009)).bind fun z5 =>
    (modM z5 (.int 26)).bind fun z6 =>
    (ixM (.str "0pqr~[](&|>) xsPa=-+.,{}<1") z6).bind fun z7 =>
    (modM v_cell (.int 5)).bind fun z8 =>
    (eqM z8 (.int 0)).bind fun b9 =>
    if b9 then
      (endM z4).bind fun z10 =>
      (slM v_text_here none z10).bind fun z11 =>
      (addM z4 (.int 1)).bind fun z12 =>
      (endM z12).bind fun z13 =>
      (slM v_text_here z13 none).bind fun z14 =>
      (addM z11 z14).bind fun z15 =>
      .ok z15
    else
      (modM v_cell (.int 5)).bind fun z16 =>
      (eqM z16 (.int 1)).bind fun b17 =>
      if b17 then
        (endM z4).bind fun z18 =>
        (slM v_text_here none z18).bind fun z19 =>
        (addM z19 z7).bind fun z20 =>
        (endM z4).bind fun z21 =>
        (slM v_text_here z21 none).bind fun z22 =>
        (addM z20 z22).bind fun z23 =>
        .ok z23
      else
        (modM v_cell (.int 5)).bind fun z24 =>
        (eqM z24 (.int 2)).bind fun b25 =>
        if b25 then
          (endM z4).bind fun z26 =>
          (slM v_text_here none z26).bind fun z27 =>
          (addM z27 z7).bind fun z28 =>
          (addM z4 (.int 1)).bind fun z29 =>
          (endM z29).bind fun z30 =>
          (slM v_text_here z30 none).bind fun z31 =>
          (addM z28 z31).bind fun z32 =>
          .ok z32
        else
          (modM v_cell (.int 5)).bind fun z33 =>
          (eqM z33 (.int 3)).bind fun b34 =>
          if b34 then
            (endM z4).bind fun z35 =>
            (slM v_text_here none z35).bind fun z36 =>
            .ok z36
          else
            (fdivM v_cell (.int 1009)).bind fun z37 =>
            (modM z37 (.int 6)).bind fun z38 =>
            (ixM (.lst ([.str "p", .str "]", .str ")", .str "&q", .str "~", .str " "])) z38).bind fun z39 =>
            (addM v_text_here z39).bind fun z40 =>
            .ok z40
  | _, _ => .stuck

noncomputable def sh__law_told : Nat → List U → M U
  | kk + 1, [v_e] =>
    (isEM [("NoSaying", true), ("NoTree", false), ("HasLetter", false), ("TooMany", false), ("NoRule", false), ("Outside", false), ("NoLine", false), ("Nothing", false)] v_e).bind fun z1 =>
    (isEM [("NoSaying", false), ("NoTree", false), ("HasLetter", false), ("TooMany", true), ("NoRule", false), ("Outside", false), ("NoLine", false), ("Nothing", false)] v_e).bind fun z2 =>
    (isEM [("NoSaying", false), ("NoTree", false), ("HasLetter", false), ("TooMany", false), ("NoRule", true), ("Outside", false), ("NoLine", false), ("Nothing", false)] v_e).bind fun z3 =>
    (isEM [("NoSaying", false), ("NoTree", false), ("HasLetter", false), ("TooMany", false), ("NoRule", false), ("Outside", true), ("NoLine", false), ("Nothing", false)] v_e).bind fun z4 =>
    (isEM [("NoSaying", false), ("NoTree", false), ("HasLetter", false), ("TooMany", false), ("NoRule", false), ("Outside", false), ("NoLine", true), ("Nothing", false)] v_e).bind fun z5 =>
    (isEM [("NoSaying", false), ("NoTree", false), ("HasLetter", false), ("TooMany", false), ("NoRule", false), ("Outside", false), ("NoLine", false), ("Nothing", true)] v_e).bind fun z6 =>
    (isEM [("NoSaying", false), ("NoTree", true), ("HasLetter", false), ("TooMany", false), ("NoRule", false), ("Outside", false), ("NoLine", false), ("Nothing", false)] v_e).bind fun z7 =>
    (isEM [("NoSaying", false), ("NoTree", false), ("HasLetter", true), ("TooMany", false), ("NoRule", false), ("Outside", false), ("NoLine", false), ("Nothing", false)] v_e).bind fun z8 =>
    (addM (.lst [z1, z2, z3, z4]) (.lst [z5, z6, z7, z8])).bind fun z9 =>
    (
      (isEM [("NoSaying", true), ("NoTree", true), ("HasLetter", true), ("TooMany", true), ("NoRule", true), ("Outside", true), ("NoLine", true), ("Nothing", true)] v_e).bind fun z10 =>
      (boolM z10).bind fun b11 =>
      if b11 then
        (isEM [("NoSaying", true), ("NoTree", true), ("HasLetter", true), ("TooMany", true), ("NoRule", true), ("Outside", true), ("NoLine", true), ("Nothing", true)] v_e).bind fun z12 =>
        .ok z12
      else
        .ok (.bl false)
    ).bind fun z13 =>
    .ok (.tup [z9, z13])
  | _, _ => .stuck

noncomputable def sh__law_made_well : Nat → List U → M U
  | kk + 10, [v_number] =>
    (modM v_number (.int 3)).bind fun z1 =>
    (ixM (.str "pqr") z1).bind fun z2 =>
    (range1M (.int 8)).bind fun it3 =>
    (forC (ρ := U) (fun _ x4 =>
        (ixM (.lst [.exc "NoSaying" [v_number], .exc "TooMany" [], .exc "NoRule" [], .exc "Outside" [], .exc "NoLine" [], .exc "Nothing" [], .exc "NoTree" [v_number], .exc "HasLetter" [z2]]) x4).bind fun z5 =>
        (sh__law_told (kk + 9) [z5]).bind fun z6 =>
        (range1M (.int 8)).bind fun it7 =>
        (compM (fun x8 =>
            ((vB eqM) x8 x4).bind fun z10 =>
            .ok z10
          ) it7).bind fun zs9 =>
        ((nB eqM) z6 (.tup [.lst zs9, .bl true])).bind fun b11 =>
        if b11 then
          .ok (.rt (.bl false))
        else
          .ok (.nx ())
      ) it3 ()).bind fun r => match r with
    | .bk _ => .stuck
    | .rt c => .ok c
    | .nx _ =>
      (
        (excF "NoSaying" (.exc "NoSaying" [v_number])).bind fun z12 =>
        ((vB eqM) z12 v_number).bind fun z13 =>
        (boolM z13).bind fun b14 =>
        if b14 then
          (excF "NoTree" (.exc "NoTree" [v_number])).bind fun z15 =>
          ((vB eqM) z15 v_number).bind fun z16 =>
          (boolM z16).bind fun b17 =>
          if b17 then
            (excF "HasLetter" (.exc "HasLetter" [z2])).bind fun z18 =>
            ((vB eqM) z18 z2).bind fun z19 =>
            .ok z19
          else
            .ok (.bl false)
        else
          .ok (.bl false)
      ).bind fun z20 =>
      .ok z20
  | _, _ => .stuck

noncomputable def sh__law_bad_place : Nat → List U → M U
  | kk + 1, [v_text_here] =>
    (lenM v_text_here).bind fun z2 =>
    (range1M z2).bind fun it1 =>
    (forC (ρ := U) (fun v_wanted_3 x4 =>
        (lenM (.lst v_wanted_3)).bind fun z5 =>
        (eqM z5 (.int 0)).bind fun b6 =>
        if b6 then
          .ok (.rt x4)
        else
          (popM v_wanted_3).bind fun (z7, l8) =>
          (ixM v_text_here x4).bind fun z10 =>
          ((nB eqM) z7 (.str "saying")).bind fun b11 =>
          if b11 then
            ((nB inM) z10 z7).bind fun b12 =>
            if b12 then
              .ok (.rt x4)
            else
              .ok (.nx l8)
          else
            (inM z10 (.str "0pqr")).bind fun b13 =>
            if b13 then
              .ok (.nx l8)
            else
              ((
                (eqM z10 (.str "~")).bind fun b14 =>
                if b14 then
                  (appM l8 (.str "saying")).bind fun l15 =>
                  .ok (.nx l15)
                else
                  ((
                    (eqM z10 (.str "[")).bind fun b16 =>
                    if b16 then
                      (extM l8 (.lst ([.str "]", .str "saying"]))).bind fun l17 =>
                      .ok (.nx l17)
                    else
                      (eqM z10 (.str "(")).bind fun b18 =>
                      if b18 then
                        (extM l8 (.lst ([.str ")", .str "saying", .str "&|>", .str "saying"]))).bind fun l19 =>
                        .ok (.nx l19)
                      else
                        .ok (.rt x4)
                   : M (Ct (List U) (U)))).bind fun r => match r with
                  | .bk _ => .stuck
                  | .rt c => .ok (.rt c)
                  | .nx v_wanted_20 =>
                    .ok (.nx v_wanted_20)
               : M (Ct (List U) (U)))).bind fun r => match r with
              | .bk _ => .stuck
              | .rt c => .ok (.rt c)
              | .nx v_wanted_21 =>
                .ok (.nx v_wanted_21)
      ) it1 [.str "saying"]).bind fun r => match r with
    | .bk _ => .stuck
    | .rt c => .ok c
    | .nx v_wanted_22 =>
      (lenM (.lst v_wanted_22)).bind fun z23 =>
      (gtM z23 (.int 0)).bind fun b24 =>
      if b24 then
        (lenM v_text_here).bind fun z25 =>
        .ok z25
      else
        .ok .non
  | _, _ => .stuck

noncomputable def sh_sign_at : Nat → List U → M U
  | kk + 10, [v_text, v_at, v_allowed] =>
    (
      (lenM v_text).bind fun z1 =>
      (eqM v_at z1).bind fun b2 =>
      if b2 then
        .ok true
      else
        (ixM v_text v_at).bind fun z3 =>
        ((nB inM) z3 v_allowed).bind fun b4 =>
        .ok b4
    ).bind fun b5 =>
    if b5 then
      .err "NoSaying" [v_at]
    else
      (ixM v_text v_at).bind fun z6 =>
      .ok z6
  | _, _ => .stuck

noncomputable def sh_read_from : Nat → List U → M U
  | kk + 1, [v_text, v_at] =>
    (sh_sign_at kk [v_text, v_at, .str "0pqr~[("]).bind fun z1 =>
    (eqM z1 (.str "0")).bind fun b2 =>
    if b2 then
      (addM v_at (.int 1)).bind fun z3 =>
      .ok (.tup [.tup [.str "no"], z3])
    else
      (eqM z1 (.str "~")).bind fun b4 =>
      if b4 then
        (addM v_at (.int 1)).bind fun z5 =>
        (sh_read_from kk [v_text, z5]).bind fun z6 =>
        (un2 z6).bind fun (v_part_7, v_past_8) =>
        .ok (.tup [.tup [.str "not", v_part_7], v_past_8])
      else
        (eqM z1 (.str "[")).bind fun b9 =>
        if b9 then
          (addM v_at (.int 1)).bind fun z10 =>
          (sh_read_from kk [v_text, z10]).bind fun z11 =>
          (un2 z11).bind fun (v_part_12, v_past_13) =>
          (sh_sign_at kk [v_text, v_past_13, .str "]"]).bind fun z14 =>
          (addM v_past_13 (.int 1)).bind fun z15 =>
          .ok (.tup [.tup [.str "shown", v_part_12], z15])
        else
          ((nB eqM) z1 (.str "(")).bind fun b16 =>
          if b16 then
            (addM v_at (.int 1)).bind fun z17 =>
            .ok (.tup [.tup [.str "letter", z1], z17])
          else
            (addM v_at (.int 1)).bind fun z18 =>
            (sh_read_from kk [v_text, z18]).bind fun z19 =>
            (un2 z19).bind fun (v_one_20, v_middle_21) =>
            (sh_sign_at kk [v_text, v_middle_21, .str "&|>"]).bind fun z22 =>
            (dicM dc_WORDS z22).bind fun z23 =>
            (addM v_middle_21 (.int 1)).bind fun z24 =>
            (sh_read_from kk [v_text, z24]).bind fun z25 =>
            (un2 z25).bind fun (v_other_26, v_past_27) =>
            (sh_sign_at kk [v_text, v_past_27, .str ")"]).bind fun z28 =>
            (addM v_past_27 (.int 1)).bind fun z29 =>
            .ok (.tup [.tup [z23, v_one_20, v_other_26], z29])
  | _, _ => .stuck

noncomputable def sh_read : Nat → List U → M U
  | kk + 10, [v_text] =>
    (sh_read_from (kk + 9) [v_text, .int 0]).bind fun z1 =>
    (un2 z1).bind fun (v_saying_2, v_past_3) =>
    (lenM v_text).bind fun z4 =>
    (ltM v_past_3 z4).bind fun b5 =>
    if b5 then
      .err "NoSaying" [v_past_3]
    else
      .ok v_saying_2
  | _, _ => .stuck

noncomputable def sh__law_kinds : Nat → List U → M U
  | kk + 1, [v_e] =>
    (sh__law_told kk [v_e]).bind fun z1 =>
    ((vB eqM) z1 (.tup [.lst [.bl true, .bl false, .bl false, .bl false, .bl false, .bl false, .bl false, .bl false], .bl true])).bind fun z2 =>
    .ok z2
  | _, _ => .stuck

noncomputable def sh__law_asked : Nat → List U → M U
  | kk + 1, [v_text_here] =>
    (sh__law_bad_place kk [v_text_here]).bind fun z1 =>
    tryK (σ := U) [("NoSaying", 1), ("NoTree", 1), ("HasLetter", 1), ("TooMany", 0), ("NoRule", 0), ("Outside", 0), ("NoLine", 0), ("Nothing", 0)] (
      (sh_read kk [v_text_here]).bind fun z2 =>
      .ok z2
      ) (fun v_found_3 =>
        (isM z1 .non).bind fun b4 =>
        if b4 then
          (
            ((vB isM) .non .non).bind fun z5 =>
            (boolM z5).bind fun b6 =>
            if b6 then
              (sh__law_text kk [v_found_3]).bind fun z7 =>
              ((vB eqM) z7 v_text_here).bind fun z8 =>
              .ok z8
            else
              .ok (.bl false)
          ).bind fun z9 =>
          .ok z9
        else
          (
            (isM .non .non).bind fun b10 =>
            if b10 then
              .ok true
            else
              (sh__law_kinds kk [.non]).bind fun z11 =>
              (boolM z11).bind fun b12 =>
              .ok (!b12)
          ).bind fun b13 =>
          if b13 then
            .ok (.bl false)
          else
            (
              (excF "NoSaying" .non).bind fun z14 =>
              (isiM z14 "int").bind fun z15 =>
              (boolM z15).bind fun b16 =>
              if b16 then
                (excF "NoSaying" .non).bind fun z17 =>
                (isiM z17 "bool").bind fun z18 =>
                (boolM z18).bind fun z19 =>
                (boolM (.bl (!z19))).bind fun b20 =>
                if b20 then
                  (excF "NoSaying" .non).bind fun z21 =>
                  ((vB eqM) z21 z1).bind fun z22 =>
                  .ok z22
                else
                  .ok (.bl false)
              else
                .ok (.bl false)
            ).bind fun z23 =>
            .ok z23
      ) (fun ec24 eu25 =>
        (isM z1 .non).bind fun b26 =>
        if b26 then
          (
            ((vB isM) (.exc ec24 eu25) .non).bind fun z27 =>
            (boolM z27).bind fun b28 =>
            if b28 then
              (sh__law_text kk [.non]).bind fun z29 =>
              ((vB eqM) z29 v_text_here).bind fun z30 =>
              .ok z30
            else
              .ok (.bl false)
          ).bind fun z31 =>
          .ok z31
        else
          (
            (isM (.exc ec24 eu25) .non).bind fun b32 =>
            if b32 then
              .ok true
            else
              (sh__law_kinds kk [.exc ec24 eu25]).bind fun z33 =>
              (boolM z33).bind fun b34 =>
              .ok (!b34)
          ).bind fun b35 =>
          if b35 then
            .ok (.bl false)
          else
            (
              (excF "NoSaying" (.exc ec24 eu25)).bind fun z36 =>
              (isiM z36 "int").bind fun z37 =>
              (boolM z37).bind fun b38 =>
              if b38 then
                (excF "NoSaying" (.exc ec24 eu25)).bind fun z39 =>
                (isiM z39 "bool").bind fun z40 =>
                (boolM z40).bind fun z41 =>
                (boolM (.bl (!z41))).bind fun b42 =>
                if b42 then
                  (excF "NoSaying" (.exc ec24 eu25)).bind fun z43 =>
                  ((vB eqM) z43 z1).bind fun z44 =>
                  .ok z44
                else
                  .ok (.bl false)
              else
                .ok (.bl false)
            ).bind fun z45 =>
            .ok z45
      )
  | _, _ => .stuck

noncomputable def sh_law : Nat → List U → M U
  | kk + 1, [v_script] =>
    (sh__law_mix kk [v_script, .int 0]).bind fun z1 =>
    (modM z1 (.int 28)).bind fun z2 =>
    (addM (.int 1) z2).bind fun z3 =>
    (sh__law_built kk [v_script, .int 2, z3]).bind fun z4 =>
    (sh__law_text kk [z4]).bind fun z5 =>
    (sh__law_mix kk [v_script, .int 1]).bind fun z6 =>
    (sh__law_spoilt kk [z5, z6]).bind fun z7 =>
    (
      (sh__law_mix kk [v_script, .int 0]).bind fun z8 =>
      (fdivM z8 (.int 28)).bind fun z9 =>
      (modM z9 (.int 3)).bind fun z10 =>
      (eqM z10 (.int 1)).bind fun b11 =>
      if b11 then
        (sh__law_mix kk [v_script, .int 40]).bind fun z12 =>
        (sh__law_spoilt kk [z7, z12]).bind fun z13 =>
        .ok z13
      else
        .ok z7
    ).bind fun v_bad_14 =>
    (
      (sh__law_mix kk [v_script, .int 0]).bind fun z15 =>
      (fdivM z15 (.int 84)).bind fun z16 =>
      (modM z16 (.int 9)).bind fun z17 =>
      (eqM z17 (.int 4)).bind fun b18 =>
      if b18 then
        .ok (.str "")
      else
        .ok v_bad_14
    ).bind fun v_bad_19 =>
    (sh__law_mix kk [v_script, .int 41]).bind fun z20 =>
    (modM z20 (.int 200)).bind fun z21 =>
    (sh__law_made_well kk [z21]).bind fun z22 =>
    (boolM z22).bind fun b23 =>
    if (!b23) then
      .ok (.bl false)
    else
      (
        (sh__law_asked kk [v_bad_19]).bind fun z24 =>
        (boolM z24).bind fun b25 =>
        if b25 then
          (sh__law_asked kk [z5]).bind fun z26 =>
          (boolM z26).bind fun b27 =>
          if b27 then
            (sh__law_asked kk [v_bad_19]).bind fun z28 =>
            .ok z28
          else
            .ok (.bl false)
        else
          .ok (.bl false)
      ).bind fun z29 =>
      .ok z29
  | _, _ => .stuck

theorem rng1 {n : Nat} (h : n < 1000000) : range1M (.int (n : Int)) = .ok ((List.range n).map fun i => .int (i : Nat)) := by
  rw [range1M_int (by omega) (by omega)]
  unfold rangeU
  simp

/-- a stack of sayings, not empty, with at most n parts -/
def Stk (n : Nat) (l : List U) : Prop := ∃ sts : List Sy, l = sts.map su ∧ sts ≠ [] ∧ tot sts ≤ n
theorem Stk.mono {n m : Nat} {l : List U} (h : Stk n l) (i : n ≤ m) : Stk m l := by obtain ⟨s, h1, h2, h3⟩ := h; exact ⟨s, h1, h2, by omega⟩
/-- the top is put otherwise -/
theorem Stk.upd {α : Type} {n m : Nat} {l : List U} {f : U → U} {k : List U → M α} {P : α → Prop} (h : Stk n l) (hf : ∀ s : Sy, ∃ t : Sy, f (su s) = su t ∧ t.size ≤ s.size + m) (i : ∀ l, Stk (n + m) l → Ok (k l) P) :
    Ok ((negM (.int 1)).bind fun z => (ixM (.lst l) z).bind fun z26 => (negM (.int 1)).bind fun z27 => (setM l z27 (f z26)).bind k) P := by
  obtain ⟨s, rfl, h2, h3⟩ := h
  obtain ⟨ys, y, rfl⟩ := snoc_of h2
  obtain ⟨t, e, ht⟩ := hf y
  rw [List.map_append, List.map_cons, List.map_nil]
  simp only [negM_int, M.bind_ok, ix_last, setM_last]
  refine i _ ⟨ys ++ [t], by simp [e], by simp, ?_⟩
  rw [tot_snoc] at h3 ⊢; omega
theorem Stk.pop {n : Nat} {l : List U} (h : Stk n l) (hl : 2 ≤ l.length) : ∃ (a : Sy) (l' : List U), popM l = .ok (su a, l') ∧ Stk (n - a.size) l' ∧ a.size ≤ n := by
  obtain ⟨s, rfl, h2, h3⟩ := h
  rw [List.length_map] at hl
  obtain ⟨ys, y, z, rfl⟩ := snoc2_of hl
  refine ⟨z, (ys ++ [y]).map su, by rw [List.map_append, List.map_cons, List.map_nil, popM_last], ⟨_, rfl, by simp, ?_⟩, ?_⟩
  · rw [tot_snoc] at h3; omega
  · rw [tot_snoc] at h3; omega
theorem bops {u : U} (h : u ∈ [U.str "and", .str "or", .str "if"]) : ∃ o : Bop, u = .str o.s := by
  simp only [List.mem_cons, List.not_mem_nil, or_false] at h
  rcases h with rfl | rfl | rfl
  · exact ⟨.and, rfl⟩
  · exact ⟨.or, rfl⟩
  · exact ⟨.iff, rfl⟩
theorem leafs {u : U} (h : u ∈ [U.tup [.str "no"], .tup [.str "letter", .str "p"], .tup [.str "letter", .str "q"], .tup [.str "letter", .str "r"]]) : ∃ s : Sy, u = su s ∧ s.size = 1 := by
  simp only [List.mem_cons, List.not_mem_nil, or_false] at h
  rcases h with rfl | rfl | rfl | rfl
  · exact ⟨.no, rfl, rfl⟩
  · exact ⟨.lt .p, rfl, rfl⟩
  · exact ⟨.lt .q, rfl, rfl⟩
  · exact ⟨.lt .r, rfl, rfl⟩

--#sub sh__law_text=sh__law_text
--#sub dc_WORDS=dc_WORDS
/-- a text by its signs -/
def tS (l : List Nat) : Str := ⟨l.toArray⟩
theorem tS_len (l : List Nat) : (tS l).length = l.length := by show l.toArray.size = _; simp
theorem tS_cps (l : List Nat) : (tS l).cps.toList = l := by show l.toArray.toList = l; simp
theorem tS_app (a b : List Nat) : tS a ++ tS b = tS (a ++ b) := by show (⟨a.toArray ++ b.toArray⟩ : Str) = ⟨(a ++ b).toArray⟩; simp
theorem tS_of (s : Str) : tS s.cps.toList = s := by cases s; rfl
theorem tS_inj {a b : List Nat} : tS a = tS b ↔ a = b := ⟨fun h => by have := congrArg (fun s : Str => s.cps.toList) h; simpa [tS] using this, fun h => by rw [h]⟩
theorem addM_tS {a b : List Nat} (h : a.length + b.length < 10000000) : addM (.str (tS a)) (.str (tS b)) = .ok (.str (tS (a ++ b))) := by
  show sz ((tS a).length + (tS b).length) _ = _
  rw [tS_len, tS_len, sz_ok h, tS_app]
theorem sizeL : sizeLine = 16777216 := by rw [PySem.sizeLine_eq]
theorem ixM_tS {l : List Nat} {i c : Nat} (h : l[i]? = some c) (hl : l.length ≤ 1000000) : ixM (.str (tS l)) (.int (i : Nat)) = .ok (.str (tS [c])) := by
  have hi : i < l.length := (List.getElem?_eq_some_iff.mp h).1
  show (match atI (tS l).cps.toList (i : Int) with | some c => if (tS l).length ≤ sizeLine then M.ok (U.str ⟨#[c]⟩) else .stuck | none => .stuck) = _
  have e : atI (tS l).cps.toList (i : Int) = some c := by
    rw [tS_cps]
    unfold L2.atI L2.ixN
    rw [if_pos (by omega), if_pos (by omega)]
    simpa using h
  rw [e]
  dsimp only
  rw [if_pos (by rw [tS_len, sizeL]; omega)]; rfl
theorem lenM_tS {l : List Nat} (hl : l.length ≤ 1000000) : lenM (.str (tS l)) = .ok (.int (l.length : Nat)) := by
  rw [lenM_str (by rw [tS_len, sizeL]; omega), tS_len]
theorem strIn_tS {c : Nat} {t : Str} : strIn (tS [c]) t = decide (c ∈ t.cps.toList) := PySem.StrLaws.found_one t c
theorem inM_tS {c : Nat} {t : Str} : inM (.str (tS [c])) (.str t) = .ok (decide (c ∈ t.cps.toList)) := by rw [← strIn_tS]; rfl
def Lt.cp : Lt → Nat | .p => 112 | .q => 113 | .r => 114
def Bop.cp : Bop → Nat | .and => 38 | .or => 124 | .iff => 62
theorem lt_tS (l : Lt) : l.s = tS [l.cp] := by cases l <;> decide +kernel
/-- the signs of a saying's text -/
def wtx : Sy → List Nat
  | .no => [48]
  | .lt l => [l.cp]
  | .not a => 126 :: wtx a
  | .shown a => 91 :: (wtx a ++ [93])
  | .bin o a b => 40 :: (wtx a ++ o.cp :: (wtx b ++ [41]))
theorem wtx_len : ∀ s : Sy, (wtx s).length ≤ 3 * s.size
  | .no => by simp [wtx, Sy.size]
  | .lt l => by simp [wtx, Sy.size]
  | .not a => by have := wtx_len a; simp [wtx, Sy.size]; omega
  | .shown a => by have := wtx_len a; simp [wtx, Sy.size]; omega
  | .bin o a b => by have := wtx_len a; have := wtx_len b; simp [wtx, Sy.size]; omega
theorem dot_tS : ("~" : Str) = tS [126] ∧ ("[" : Str) = tS [91] ∧ ("]" : Str) = tS [93] ∧ ("(" : Str) = tS [40] ∧ (")" : Str) = tS [41] ∧ ("0" : Str) = tS [48] := by decide +kernel
theorem op_d (o : Bop) : ixdM (.dic ((["and", "or", "if"] : List Str).map .inr) [.str "&", .str "|", .str ">"]) (.str o.s) = .ok (.str (tS [o.cp])) := by
  cases o
  · exact congrArg M.ok (congrArg U.str (by decide +kernel : ("&" : Str) = tS [38]))
  · exact congrArg M.ok (congrArg U.str (by decide +kernel : ("|" : Str) = tS [124]))
  · exact congrArg M.ok (congrArg U.str (by decide +kernel : (">" : Str) = tS [62]))
theorem sh_lw : ∀ (k : Nat) (s : Sy), s.ht ≤ k → (wtx s).length ≤ 1000000 → sh__law_text (k + 1) [su s] = .ok (.str (tS (wtx s)))
  | 0, s, h, _ => by have := Sy.ht_pos s; omega
  | k + 1, .no, _, _ => by
    rw [sh__law_text]
    simp only [su, ix_t0, M.bind_ok, eqM_str, decide_true, if_true]
    rw [dot_tS.2.2.2.2.2]; rfl
  | k + 1, .lt l, _, _ => by
    rw [sh__law_text]
    simp only [su, ix_t0, ix_t1, M.bind_ok, eqM_str, ofS_inj, String.reduceEq, decide_false, decide_true, Bool.false_eq_true, if_false, if_true]
    rw [lt_tS]; rfl
  | k + 1, .not a, h, hl => by
    simp only [Sy.ht] at h
    simp only [wtx, List.length_cons] at hl
    rw [sh__law_text]
    simp only [su, ix_t0, ix_t1, M.bind_ok, eqM_str, ofS_inj, String.reduceEq, decide_false, decide_true, Bool.false_eq_true, if_false, if_true]
    rw [sh_lw k a (by omega) (by omega), M.bind_ok, dot_tS.1, addM_tS (by simp; omega), M.bind_ok]; rfl
  | k + 1, .shown a, h, hl => by
    simp only [Sy.ht] at h
    simp only [wtx, List.length_cons, List.length_append] at hl
    rw [sh__law_text]
    simp only [su, ix_t0, ix_t1, M.bind_ok, eqM_str, ofS_inj, String.reduceEq, decide_false, decide_true, Bool.false_eq_true, if_false, if_true]
    rw [sh_lw k a (by omega) (by omega), M.bind_ok, dot_tS.2.1, addM_tS (by simp; omega), M.bind_ok, dot_tS.2.2.1, addM_tS (by simp; omega), M.bind_ok]; rfl
  | k + 1, .bin o a b, h, hl => by
    simp only [Sy.ht] at h
    simp only [wtx, List.length_cons, List.length_append] at hl
    have ew : ∀ w : String, w ∈ ["no", "letter", "not", "shown"] → decide (o.s = Str.ofString w) = false := fun w hw => by
      simp only [List.mem_cons, List.not_mem_nil, or_false] at hw
      rcases hw with rfl | rfl | rfl | rfl <;> cases o <;> decide
    rw [sh__law_text]
    simp only [su, ix_t0, ix_t1, ix_t2, M.bind_ok, eqM_str]
    rw [ew _ (by decide), ew _ (by decide), ew _ (by decide), ew _ (by decide)]
    simp only [Bool.false_eq_true, if_false]
    rw [op_d, M.bind_ok, sh_lw k a (by omega) (by omega), M.bind_ok, dot_tS.2.2.2.1, addM_tS (by simp; omega), M.bind_ok, addM_tS (by simp; omega), M.bind_ok, sh_lw k b (by omega) (by omega), M.bind_ok, addM_tS (by simp; omega), M.bind_ok, dot_tS.2.2.2.2.1, addM_tS (by simp; omega), M.bind_ok]
    congr 3
    simp [wtx]

theorem sh_sign {k : Nat} {T : List Nat} {i c : Nat} {A : Str} (h : T[i]? = some c) (hc : c ∈ A.cps.toList) (hl : T.length ≤ 1000000) : sh_sign_at (k + 10) [.str (tS T), .int (i : Nat), .str A] = .ok (.str (tS [c])) := by
  have hi : i < T.length := (List.getElem?_eq_some_iff.mp h).1
  rw [sh_sign_at, lenM_tS hl, M.bind_ok, eqM_int, decide_eq_false (by omega), M.bind_ok, if_neg (by simp), ixM_tS h hl, M.bind_ok, nB_ok, inM_tS, decide_eq_true hc, M.bind_ok, M.bind_ok, M.bind_ok]
  rfl
theorem drop_c {T r : List Nat} {i c : Nat} (h : T.drop i = c :: r) : T[i]? = some c ∧ T.drop (i + 1) = r := by
  constructor
  · have := congrArg (fun l => l[0]?) h
    simpa using this
  · have := congrArg List.tail h
    simpa [List.tail_drop] using this
theorem drop_a {T a b : List Nat} {i : Nat} (h : T.drop i = a ++ b) : T.drop (i + a.length) = b := by
  rw [← List.drop_drop, h, List.drop_append_of_le_length (Nat.le_refl _), List.drop_length, List.nil_append]
theorem one_eq {c d : Nat} {s : Str} (hs : s = tS [d]) : eqM (.str (tS [c])) (.str s) = .ok (decide (c = d)) := by
  rw [hs, eqM_str]; congr 1; rw [decide_eq_decide, tS_inj]; simp
theorem op_wd (o : Bop) : dicM dc_WORDS (.str (tS [o.cp])) = .ok (.str o.s) := by
  cases o
  · rw [show tS [Bop.and.cp] = ("&" : Str) by decide +kernel]; rfl
  · rw [show tS [Bop.or.cp] = ("|" : Str) by decide +kernel]; rfl
  · rw [show tS [Bop.iff.cp] = (">" : Str) by decide +kernel]; rfl
theorem sh_rf : ∀ (k : Nat) (s : Sy) (T : List Nat) (i : Nat) (post : List Nat), s.ht ≤ k → T.length ≤ 1000000 → T.drop i = wtx s ++ post → sh_read_from (k + 10) [.str (tS T), .int (i : Nat)] = .ok (.tup [su s, .int ((i + (wtx s).length : Nat) : Int)])
  | 0, s, _, _, _, h, _, _ => by have := Sy.ht_pos s; omega
  | k + 1, .no, T, i, post, _, hl, hd => by
    obtain ⟨h1, h2⟩ := drop_c hd
    rw [sh_read_from, sh_sign h1 (by decide +kernel) hl, M.bind_ok, one_eq (d := 48) (by decide +kernel), M.bind_ok]
    simp only [decide_true, if_true]
    rw [addM_int, M.bind_ok]; rfl
  | k + 1, .lt l, T, i, post, _, hl, hd => by
    obtain ⟨h1, h2⟩ := drop_c hd
    rw [sh_read_from, sh_sign h1 (by cases l <;> decide +kernel) hl, M.bind_ok, one_eq (d := 48) (by decide +kernel), decide_eq_false (by cases l <;> decide), M.bind_ok, if_neg (by simp), one_eq (d := 126) (by decide +kernel), decide_eq_false (by cases l <;> decide), M.bind_ok, if_neg (by simp),
      one_eq (d := 91) (by decide +kernel), decide_eq_false (by cases l <;> decide), M.bind_ok, if_neg (by simp), nB_ok, one_eq (d := 40) (by decide +kernel), decide_eq_false (by cases l <;> decide), M.bind_ok, M.bind_ok]
    simp only [Bool.not_false, if_true]
    rw [addM_int, M.bind_ok, ← lt_tS]; rfl
  | k + 1, .not a, T, i, post, h, hl, hd => by
    simp only [Sy.ht] at h
    obtain ⟨h1, h2⟩ := drop_c hd
    rw [sh_read_from, sh_sign h1 (by decide +kernel) hl, M.bind_ok, one_eq (d := 48) (by decide +kernel), decide_eq_false (by decide), M.bind_ok, if_neg (by simp), one_eq (d := 126) (by decide +kernel), decide_eq_true rfl, M.bind_ok, if_pos rfl, addM_int, M.bind_ok,
      show ((i : Nat) : Int) + 1 = ((i + 1 : Nat) : Int) by omega, sh_rf k a T (i + 1) post (by omega) hl h2, M.bind_ok, un2_ok, M.bind_ok]
    simp only [wtx, su, List.length_cons]
    congr 5; omega
  | k + 1, .shown a, T, i, post, h, hl, hd => by
    simp only [Sy.ht] at h
    obtain ⟨h1, h2⟩ := drop_c hd
    have h2 : T.drop (i + 1) = wtx a ++ (93 :: post) := by rw [h2]; simp
    have h3 := drop_a h2
    obtain ⟨h4, _⟩ := drop_c h3
    rw [sh_read_from, sh_sign h1 (by decide +kernel) hl, M.bind_ok, one_eq (d := 48) (by decide +kernel), decide_eq_false (by decide), M.bind_ok, if_neg (by simp), one_eq (d := 126) (by decide +kernel), decide_eq_false (by decide), M.bind_ok, if_neg (by simp), one_eq (d := 91) (by decide +kernel), decide_eq_true rfl, M.bind_ok, if_pos rfl, addM_int, M.bind_ok,
      show ((i : Nat) : Int) + 1 = ((i + 1 : Nat) : Int) by omega, sh_rf k a T (i + 1) _ (by omega) hl h2, M.bind_ok, un2_ok, M.bind_ok]
    dsimp only
    rw [sh_sign h4 (by decide +kernel) hl, M.bind_ok, addM_int, M.bind_ok]
    simp only [wtx, su, List.length_cons, List.length_append, List.length_nil]
    congr 5; omega
  | k + 1, .bin o a b, T, i, post, h, hl, hd => by
    simp only [Sy.ht] at h
    obtain ⟨h1, h2⟩ := drop_c hd
    have h2 : T.drop (i + 1) = wtx a ++ (o.cp :: (wtx b ++ (41 :: post))) := by rw [h2]; simp
    have h3 := drop_a h2
    obtain ⟨h4, h5⟩ := drop_c h3
    have h6 := drop_a h5
    obtain ⟨h7, _⟩ := drop_c h6
    rw [sh_read_from, sh_sign h1 (by decide +kernel) hl, M.bind_ok, one_eq (d := 48) (by decide +kernel), decide_eq_false (by decide), M.bind_ok, if_neg (by simp), one_eq (d := 126) (by decide +kernel), decide_eq_false (by decide), M.bind_ok, if_neg (by simp), one_eq (d := 91) (by decide +kernel), decide_eq_false (by decide), M.bind_ok, if_neg (by simp),
      nB_ok, one_eq (d := 40) (by decide +kernel), decide_eq_true rfl, M.bind_ok, M.bind_ok, if_neg (by simp), addM_int, M.bind_ok,
      show ((i : Nat) : Int) + 1 = ((i + 1 : Nat) : Int) by omega, sh_rf k a T (i + 1) _ (by omega) hl h2, M.bind_ok, un2_ok, M.bind_ok]
    dsimp only
    rw [sh_sign h4 (by cases o <;> decide +kernel) hl, M.bind_ok, op_wd, M.bind_ok, addM_int, M.bind_ok, show ((i + 1 + (wtx a).length : Nat) : Int) + 1 = ((i + 1 + (wtx a).length + 1 : Nat) : Int) by omega, sh_rf k b T _ _ (by omega) hl h5, M.bind_ok, un2_ok, M.bind_ok]
    dsimp only
    rw [sh_sign h7 (by decide +kernel) hl, M.bind_ok, addM_int, M.bind_ok]
    simp only [wtx, su, List.length_cons, List.length_append, List.length_nil]
    congr 5; omega
theorem sh_mix {k : Nat} {ns : List Int} {i : Int} (h : 0 ≤ i) (h2 : i < 100000) : ∃ c : Int, sh__law_mix (k + 1) [.fzl (ns.map .int), .int i] = .ok (.int c) ∧ 0 ≤ c := by
  rw [sh__law_mix, lenM_fzl, M.bind_ok, ltM_int, M.bind_ok]
  obtain ⟨d, e⟩ : ∃ d : Int, (if decide (i < ((ns.map U.int).length : Int)) = true then (ixM (.fzl (ns.map .int)) (.int i)).bind fun z3 => M.ok z3 else M.ok (.int 0)) = .ok (.int d) := by
    split
    · rename_i hc
      obtain ⟨u, hu, e⟩ := ixM_any (x := .fzl (ns.map .int)) rfl h (of_decide_eq_true hc)
      obtain ⟨n, _, rfl⟩ := List.mem_map.mp hu
      exact ⟨n, by rw [e]; rfl⟩
    · exact ⟨0, rfl⟩
  rw [e, M.bind_ok, mulM_l (by decide) (by decide), M.bind_ok, mulM_l (by omega) (by omega)]
  walk_at "ms"
  exact ⟨_, rfl, Int.emod_nonneg _ (by decide)⟩
/-- a stack, perhaps empty -/
def Stk0 (n : Nat) (l : List U) : Prop := ∃ sts : List Sy, l = sts.map su ∧ tot sts ≤ n
theorem sh_built {k : Nat} {ns : List Int} {at_ count : Int} (hmix : ∀ i : Int, 0 ≤ i → i < 100000 → ∃ c : Int, sh__law_mix k [.fzl (ns.map .int), .int i] = .ok (.int c) ∧ 0 ≤ c) (h : 0 ≤ at_) (h2 : at_ < 1000) (hc : 1 ≤ count) (hc2 : count ≤ 1000) :
    Ok (sh__law_built (k + 1) [.fzl (ns.map .int), .int at_, .int count]) fun u => ∃ s : Sy, u = su s ∧ s.size + 1 ≤ 2 * count.toNat := by
  rw [sh__law_built, range1M_int (by omega) (by omega), M.bind_ok]
  refine Ok.bind (forN_inv (fun n l => Stk0 n l ∧ (0 < n → l ≠ [])) _ 0 _ ⟨⟨[], rfl, by simp [tot]⟩, by simp⟩ ?_) ?_
  · rintro n x l _ hx ⟨hl, hne⟩
    obtain ⟨i, hi, rfl⟩ := rangeU_mem (List.mem_of_getElem? hx)
    have hn' : n < count.toNat := by have := (List.getElem?_eq_some_iff.mp hx).1; rw [rangeU_len] at this; omega
    rw [addM_int, M.bind_ok]
    obtain ⟨c, e, hcc⟩ := hmix (at_ + (0 + (i : Int))) (by omega) (by omega)
    rw [e, M.bind_ok, modM_int (by decide), M.bind_ok, fdivM_int (by decide) (by decide), M.bind_ok, modM_int (by decide), M.bind_ok]
    obtain ⟨u, hu, e⟩ := ixM_any (i := c / 9 % 4) (x := .lst [.tup [.str "no"], .tup [.str "letter", .str "p"], .tup [.str "letter", .str "q"], .tup [.str "letter", .str "r"]]) rfl (by omega) (by simp; omega)
    obtain ⟨y, rfl, hy⟩ := leafs hu
    rw [e, M.bind_ok]
    refine Ok.bind (P := Stk (n + 1)) ?_ fun l hl => ⟨_, rfl, by obtain ⟨s, a, b, c⟩ := hl; exact ⟨⟨s, a, c⟩, fun _ => by rw [a]; simpa using b⟩⟩
    refine Ok.bind (P := fun b => b = false → l ≠ [] ∧ 4 ≤ c % 9) ?_ fun b hb => ?_
    · rw [ltM_int, M.bind_ok]
      refine Ok.ite (fun _ => ⟨_, rfl, by simp⟩) fun h4 => ?_
      rw [lenM_lst, M.bind_ok, eqM_int, M.bind_ok]
      exact ⟨_, rfl, fun h => ⟨fun e => by subst e; simp at h, by have := of_decide_eq_false h4; omega⟩⟩
    obtain ⟨sts, rfl, hs⟩ := hl
    have hlen := len_tot sts
    refine Ok.ite (fun _ => ?_) fun h => ?_
    · rw [appM_ok (by rw [List.length_map]; omega), M.bind_ok]
      exact ⟨_, rfl, sts ++ [y], by simp, by simp, by rw [tot_snoc]; omega⟩
    obtain ⟨hne2, h4⟩ := hb h
    have hst : Stk n (sts.map su) := ⟨sts, rfl, by simpa using hne2, hs⟩
    refine Ok.bind (P := Stk (n + 1)) ?_ fun l hl => ⟨_, rfl, hl⟩
    rw [ltM_int, M.bind_ok]
    refine Ok.ite (fun h7 => ?_) fun h7 => ?_
    · obtain ⟨u, hu, e⟩ := ixM_any (i := c % 9 - 4) (x := .lst [.str "not", .str "shown", .str "shown"]) rfl (by omega) (by have := of_decide_eq_true h7; simp; omega)
      rw [subM_int, M.bind_ok, e, M.bind_ok]
      refine hst.upd (f := fun w => .tup [u, w]) (m := 1) (fun s => ?_) fun l hl => ⟨_, rfl, hl⟩
      simp only [List.mem_cons, List.not_mem_nil, or_false] at hu
      rcases hu with rfl | rfl | rfl
      · exact ⟨.not s, rfl, by simp [Sy.size]; omega⟩
      · exact ⟨.shown s, rfl, by simp [Sy.size]; omega⟩
      · exact ⟨.shown s, rfl, by simp [Sy.size]; omega⟩
    refine Ok.bind (P := Stk (n + 1)) ?_ fun l hl => ⟨_, rfl, hl⟩
    rw [lenM_lst, M.bind_ok, gtM_int, M.bind_ok]
    refine Ok.ite (fun h2 => ?_) fun _ => ⟨_, rfl, hst.mono (by omega)⟩
    obtain ⟨a, l', e, hl', ha⟩ := hst.pop (by have := of_decide_eq_true h2; omega)
    obtain ⟨u, hu, e3⟩ := ixM_any (i := c / 9 % 3) (x := .lst [.str "and", .str "or", .str "if"]) rfl (by omega) (by simp; omega)
    obtain ⟨o, rfl⟩ := bops hu
    rw [e, M.bind_ok]
    dsimp only
    rw [M.bind_ok, modM_int (by decide), M.bind_ok, e3, M.bind_ok]
    exact hl'.upd (f := fun u => .tup [.str o.s, u, su a]) (m := 1 + a.size) (fun s => ⟨.bin o s a, rfl, by simp [Sy.size]; omega⟩) fun l hl => ⟨_, rfl, hl.mono (by omega)⟩
  · rw [rangeU_len]
    rintro l ⟨⟨ss, rfl, hss⟩, hne⟩
    have hne : ss ≠ [] := by have := hne (by omega); simpa using this
    have hlen := len_tot ss
    refine Ok.bind (whN_down (fun l => ∃ ss : List Sy, l = ss.map su ∧ ss ≠ [] ∧ tot ss + ss.length ≤ 2 * count.toNat) (fun l => ∃ s : Sy, l = [su s] ∧ s.size + 1 ≤ 2 * count.toNat) (fun l => l.length) ?_ 1000000 _ ⟨ss, rfl, hne, by omega⟩ (by rw [List.length_map]; omega)) ?_
    · rintro _ ⟨ss, rfl, hne, hss⟩
      rw [lenM_lst, M.bind_ok, gtM_int, M.bind_ok, Ok_ok, List.length_map]
      refine Classical.byCases (fun h1 : (1 : Int) < ss.length => ?_) fun h1 => ?_
      · rw [decide_eq_true h1, if_pos rfl]
        obtain ⟨ys, a, b, rfl⟩ := snoc2_of (xs := ss) (by omega)
        have e1 : popM ((ys ++ [a] ++ [b]).map su) = .ok (su b, (ys ++ [a]).map su) := by rw [List.map_append, List.map_cons, List.map_nil, popM_last]
        have e2 : (ys ++ [a]).map su = ys.map su ++ [su a] := by rw [List.map_append, List.map_cons, List.map_nil]
        obtain ⟨u, hu, e3⟩ := ixM_any (i := ((((ys ++ [a]).map su).length : Nat) : Int) % 3) (x := .lst [.str "and", .str "or", .str "if"]) rfl (by omega) (by simp; omega)
        obtain ⟨o, rfl⟩ := bops hu
        rw [tot_snoc, tot_snoc, List.length_append, List.length_append] at hss
        simp only [List.length_cons, List.length_nil] at hss
        have hly := len_tot ys
        rw [e1, M.bind_ok]
        dsimp only
        rw [lenM_lst, M.bind_ok, modM_int (by decide), M.bind_ok, e3, M.bind_ok, negM_int, M.bind_ok, e2, ix_last, M.bind_ok, M.bind_ok, setM_last, M.bind_ok, Ok_ok]
        refine ⟨⟨ys ++ [.bin o a b], by simp [su], by simp, ?_⟩, by simp⟩
        rw [tot_snoc, List.length_append]
        simp only [List.length_cons, List.length_nil, Sy.size]
        omega
      · rw [decide_eq_false h1, if_neg (by simp)]
        obtain ⟨ys, y, rfl⟩ := snoc_of hne
        have : ys = [] := by
          rw [List.length_append] at h1
          simp only [List.length_cons, List.length_nil] at h1
          exact List.length_eq_zero_iff.mp (by omega)
        subst this
        rw [tot_snoc, List.length_append] at hss
        exact ⟨y, rfl, by simp only [List.length_cons, List.length_nil] at hss; omega⟩
    · rintro _ ⟨s, rfl, hs⟩
      rw [ix_l0]
      exact ⟨_, rfl, s, rfl, hs⟩

/-! what a text may go on with -/
inductive Wn | say | br | pa | op
  deriving DecidableEq
def Wn.s : Wn → Str | .say => "saying" | .br => "]" | .pa => ")" | .op => "&|>"
def Wn.sg : Wn → List Nat | .say => [] | .br => [93] | .pa => [41] | .op => [38, 124, 62]
def encW (w : Wn) : U := .str w.s
theorem Wn.sg_of : ∀ w : Wn, w ≠ .say → w.s.cps.toList = w.sg := by intro w h; cases w <;> first | exact absurd rfl h | decide +kernel
/-- the first sign that can't stand, or the end, where more is due -/
def mach : List Nat → Nat → List Wn → Option Nat
  | [], _, [] => none
  | [], i, _ :: _ => some i
  | _ :: _, i, [] => some i
  | c :: r, i, .say :: st => if c = 48 ∨ c = 112 ∨ c = 113 ∨ c = 114 then mach r (i + 1) st else if c = 126 then mach r (i + 1) (.say :: st) else if c = 91 then mach r (i + 1) (.say :: .br :: st) else if c = 40 then mach r (i + 1) (.say :: .op :: .say :: .pa :: st) else some i
  | c :: r, i, .br :: st => if c ∈ Wn.br.sg then mach r (i + 1) st else some i
  | c :: r, i, .pa :: st => if c ∈ Wn.pa.sg then mach r (i + 1) st else some i
  | c :: r, i, .op :: st => if c ∈ Wn.op.sg then mach r (i + 1) st else some i
theorem mach_one {w : Wn} (h : w ≠ .say) (c : Nat) (r : List Nat) (i : Nat) (st : List Wn) : mach (c :: r) i (w :: st) = if c ∈ w.sg then mach r (i + 1) st else some i := by cases w <;> first | exact absurd rfl h | rfl
theorem mach_say (c : Nat) (r : List Nat) (i : Nat) (st : List Wn) : mach (c :: r) i (.say :: st) = if c = 48 ∨ c = 112 ∨ c = 113 ∨ c = 114 then mach r (i + 1) st else if c = 126 then mach r (i + 1) (.say :: st) else if c = 91 then mach r (i + 1) (.say :: .br :: st) else if c = 40 then mach r (i + 1) (.say :: .op :: .say :: .pa :: st) else some i := rfl
theorem mach_end {i : Nat} {w : Wn} {st : List Wn} : mach [] i (w :: st) = some i := by cases w <;> rfl
def encS (st : List Wn) : List U := st.reverse.map encW
theorem encS_cons (w : Wn) (st : List Wn) : encS (w :: st) = encS st ++ [encW w] := by unfold encS; rw [List.reverse_cons, List.map_append]; rfl
theorem encS_len (st : List Wn) : (encS st).length = st.length := by unfold encS; simp
theorem say_s (w : Wn) : eqM (encW w) (.str "saying") = .ok (decide (w = .say)) := by
  unfold encW
  rw [eqM_str]
  congr 1
  rw [decide_eq_decide]
  constructor
  · intro h; cases w <;> first | rfl | exact absurd h (by decide)
  · intro h; subst h; rfl
theorem sgn0 : (Str.ofString "0pqr").cps.toList = [48, 112, 113, 114] := by decide +kernel
theorem drop_at {T : List Nat} {i : Nat} (h : i < T.length) : ∃ c, T[i]? = some c ∧ T.drop i = c :: T.drop (i + 1) :=
  ⟨T[i], List.getElem?_eq_getElem h, (List.getElem_cons_drop h).symm⟩
/-- the walk over a text's signs -/
theorem bad_loop {T : List Nat} (hT : T.length ≤ 1000) : ∀ (n i : Nat) (st : List Wn), i + n = T.length → st.length ≤ 4 * i + 1 → Ok (forC (ρ := U) (fun v_wanted_3 x4 =>
        (lenM (.lst v_wanted_3)).bind fun z5 =>
        (eqM z5 (.int 0)).bind fun b6 =>
        if b6 then
          .ok (.rt x4)
        else
          (popM v_wanted_3).bind fun (z7, l8) =>
          (ixM (.str (tS T)) x4).bind fun z10 =>
          ((nB eqM) z7 (.str "saying")).bind fun b11 =>
          if b11 then
            ((nB inM) z10 z7).bind fun b12 =>
            if b12 then
              .ok (.rt x4)
            else
              .ok (.nx l8)
          else
            (inM z10 (.str "0pqr")).bind fun b13 =>
            if b13 then
              .ok (.nx l8)
            else
              ((
                (eqM z10 (.str "~")).bind fun b14 =>
                if b14 then
                  (appM l8 (.str "saying")).bind fun l15 =>
                  .ok (.nx l15)
                else
                  ((
                    (eqM z10 (.str "[")).bind fun b16 =>
                    if b16 then
                      (extM l8 (.lst ([.str "]", .str "saying"]))).bind fun l17 =>
                      .ok (.nx l17)
                    else
                      (eqM z10 (.str "(")).bind fun b18 =>
                      if b18 then
                        (extM l8 (.lst ([.str ")", .str "saying", .str "&|>", .str "saying"]))).bind fun l19 =>
                        .ok (.nx l19)
                      else
                        .ok (.rt x4)
                   : M (Ct (List U) (U)))).bind fun r => match r with
                  | .bk _ => .stuck
                  | .rt c => .ok (.rt c)
                  | .nx v_wanted_20 =>
                    .ok (.nx v_wanted_20)
               : M (Ct (List U) (U)))).bind fun r => match r with
              | .bk _ => .stuck
              | .rt c => .ok (.rt c)
              | .nx v_wanted_21 =>
                .ok (.nx v_wanted_21)
      ) ((List.range' i n).map fun j => U.int (j : Nat)) (encS st)) fun c => match c with
    | .rt u => ∃ p, mach (T.drop i) i st = some p ∧ u = .int (p : Nat)
    | .nx s => ∃ st', s = encS st' ∧ st'.length ≤ 5000 ∧ mach (T.drop i) i st = mach [] T.length st'
    | .bk _ => False
  | 0, i, st, h, hs => by
    have hi : i = T.length := by omega
    subst hi
    exact ⟨_, rfl, st, rfl, by omega, by rw [List.drop_length]⟩
  | n + 1, i, st, h, hs => by
    obtain ⟨c, hc, hd⟩ := drop_at (T := T) (i := i) (by omega)
    have go := fun st' (hs' : st'.length ≤ 4 * (i + 1) + 1) => bad_loop hT n (i + 1) st' (by omega) hs'
    rw [List.range'_succ, List.map_cons, forC, lenM_lst, M.bind_ok, eqM_int, M.bind_ok, encS_len, hd]
    cases st with
    | nil => rw [if_pos (by rfl), M.bind_ok]; exact ⟨_, rfl, i, rfl, rfl⟩
    | cons w st =>
      rw [List.length_cons] at hs ⊢
      rw [decide_eq_false (by omega), if_neg (by simp), encS_cons, popM_last, M.bind_ok]
      dsimp only
      rw [ixM_tS hc (by omega), M.bind_ok, nB_ok, say_s, M.bind_ok, M.bind_ok]
      by_cases hw : w = .say
      · subst hw
        rw [decide_eq_true rfl, Bool.not_true, if_neg (by simp), inM_tS, sgn0, M.bind_ok, mach_say]
        by_cases h0 : c = 48 ∨ c = 112 ∨ c = 113 ∨ c = 114
        · rw [decide_eq_true (by simpa using h0), if_pos rfl, if_pos h0, M.bind_ok]
          exact go st (by omega)
        · rw [decide_eq_false (by simpa using h0), if_neg (by simp), if_neg h0, one_eq (d := 126) (by decide +kernel), M.bind_ok]
          by_cases h1 : c = 126
          · rw [decide_eq_true h1, if_pos rfl, if_pos h1, appM_ok (by rw [encS_len]; omega), M.bind_ok, M.bind_ok]
            have := go (.say :: st) (by rw [List.length_cons]; omega)
            rw [encS_cons] at this
            exact this
          · rw [decide_eq_false h1, if_neg (by simp), if_neg h1, one_eq (d := 91) (by decide +kernel), M.bind_ok]
            by_cases h2 : c = 91
            · rw [decide_eq_true h2, if_pos rfl, if_pos h2, extM_ok (by rw [encS_len]; simp; omega), M.bind_ok, M.bind_ok, M.bind_ok, M.bind_ok]
              have := go (.say :: .br :: st) (by simp only [List.length_cons]; omega)
              rw [encS_cons, encS_cons, List.append_assoc] at this
              exact this
            · rw [decide_eq_false h2, if_neg (by simp), if_neg h2, one_eq (d := 40) (by decide +kernel), M.bind_ok]
              by_cases h3 : c = 40
              · rw [decide_eq_true h3, if_pos rfl, if_pos h3, extM_ok (by rw [encS_len]; simp; omega), M.bind_ok, M.bind_ok, M.bind_ok, M.bind_ok]
                have := go (.say :: .op :: .say :: .pa :: st) (by simp only [List.length_cons]; omega)
                rw [encS_cons, encS_cons, encS_cons, encS_cons, List.append_assoc, List.append_assoc, List.append_assoc] at this
                exact this
              · rw [decide_eq_false h3, if_neg (by simp), if_neg h3, M.bind_ok, M.bind_ok, M.bind_ok]
                exact ⟨_, rfl, i, rfl, rfl⟩
      · rw [decide_eq_false hw, Bool.not_false, if_pos rfl, nB_ok, show encW w = .str w.s from rfl, inM_tS, Wn.sg_of w hw, M.bind_ok, M.bind_ok, mach_one hw]
        by_cases h0 : c ∈ w.sg
        · rw [decide_eq_true h0, Bool.not_true, if_neg (by simp), if_pos h0, M.bind_ok]
          exact go st (by omega)
        · rw [decide_eq_false h0, Bool.not_false, if_pos rfl, if_neg h0, M.bind_ok]
          exact ⟨_, rfl, i, rfl, rfl⟩
def opN : Option Nat → U
  | none => .non
  | some p => .int (p : Nat)
theorem sh_bad {k : Nat} {T : List Nat} (hT : T.length ≤ 1000) : sh__law_bad_place (k + 1) [.str (tS T)] = .ok (opN (mach T 0 [.say])) := by
  obtain ⟨c, e, h⟩ := bad_loop hT T.length 0 [.say] (by omega) (by simp)
  rw [sh__law_bad_place, lenM_tS (by omega), M.bind_ok, rng1 (by omega), M.bind_ok, List.range_eq_range']
  refine (congrArg (fun m => M.bind m _) e).trans ?_
  rw [M.bind_ok]
  rw [List.drop_zero] at h
  cases c with
  | rt u =>
    obtain ⟨p, h1, rfl⟩ := h
    rw [h1]; rfl
  | bk s => exact h.elim
  | nx s =>
    obtain ⟨st', rfl, hl, h1⟩ := h
    dsimp only
    rw [h1, lenM_lst, M.bind_ok, encS_len, gtM_int, M.bind_ok]
    cases st' with
    | nil => rw [decide_eq_false (by simp), if_neg (by simp)]; rfl
    | cons w st => rw [decide_eq_true (by simp), if_pos rfl, mach_end]; rfl
theorem cutS_take {l : List Nat} {i : Int} (h : 0 ≤ i) : cutS (tS l) none (some i) = tS (l.take i.toNat) := by
  unfold cutS HT.sIx
  dsimp only
  rw [if_neg (by omega), Nat.sub_zero, List.drop_zero, tS_cps, tS_len]
  unfold tS
  rcases Nat.le_total i.toNat l.length with z | z
  · congr 3; omega
  · rw [List.take_of_length_le z, List.take_of_length_le (by omega)]
theorem cutS_drop {l : List Nat} {i : Int} (h : 0 ≤ i) : cutS (tS l) (some i) none = tS (l.drop i.toNat) := by
  unfold cutS HT.sIx
  dsimp only
  rw [if_neg (by omega), tS_cps, tS_len]
  unfold tS
  rcases Nat.le_total i.toNat l.length with z | z
  · rw [show min i.toNat l.length = i.toNat by omega, List.take_of_length_le (by rw [List.length_drop]; omega)]
  · rw [show min i.toNat l.length = l.length by omega, List.drop_of_length_le z]; simp
theorem slS_take {l : List Nat} {i : Int} (h : 0 ≤ i) (hl : l.length ≤ 1000000) : slM (.str (tS l)) none (some i) = .ok (.str (tS (l.take i.toNat))) := by
  rw [← cutS_take h]; exact if_pos (by rw [tS_len, sizeL]; omega)
theorem slS_drop {l : List Nat} {i : Int} (h : 0 ≤ i) (hl : l.length ≤ 1000000) : slM (.str (tS l)) (some i) none = .ok (.str (tS (l.drop i.toNat))) := by
  rw [← cutS_drop h]; exact if_pos (by rw [tS_len, sizeL]; omega)
theorem sh_signE {m j : Nat} {T : List Nat} {A : Str} (hl : T.length ≤ 1000000) (h : j = T.length ∨ ∃ c, T[j]? = some c ∧ c ∉ A.cps.toList) : sh_sign_at (m + 10) [.str (tS T), .int (j : Nat), .str A] = .err "NoSaying" [.int (j : Nat)] := by
  rw [sh_sign_at, lenM_tS hl, M.bind_ok, eqM_int, M.bind_ok]
  rcases h with rfl | ⟨c, hc, hA⟩
  · rw [decide_eq_true rfl, if_pos rfl, M.bind_ok, if_pos rfl]
  · have hj : j < T.length := (List.getElem?_eq_some_iff.mp hc).1
    rw [decide_eq_false (by omega), if_neg (by simp), ixM_tS hc hl, M.bind_ok, nB_ok, inM_tS, decide_eq_false hA, M.bind_ok, M.bind_ok, M.bind_ok, Bool.not_false, if_pos rfl]
theorem sg_w {m j : Nat} {T : List Nat} (hl : T.length ≤ 1000000) (hj : j ≤ T.length) (w : Wn) (hw : w ≠ .say) :
    (∃ c, T[j]? = some c ∧ c ∈ w.sg ∧ sh_sign_at (m + 10) [.str (tS T), .int (j : Nat), .str w.s] = .ok (.str (tS [c])) ∧ ∀ st, mach (T.drop j) j (w :: st) = mach (T.drop (j + 1)) (j + 1) st) ∨
    (sh_sign_at (m + 10) [.str (tS T), .int (j : Nat), .str w.s] = .err "NoSaying" [.int (j : Nat)] ∧ ∀ st, mach (T.drop j) j (w :: st) = some j) := by
  by_cases h : j = T.length
  · subst h
    exact .inr ⟨sh_signE hl (.inl rfl), fun st => by rw [List.drop_length]; exact mach_end⟩
  · obtain ⟨c, hc, hd⟩ := drop_at (T := T) (i := j) (by omega)
    by_cases z : c ∈ w.sg
    · exact .inl ⟨c, hc, z, sh_sign hc (by rw [Wn.sg_of w hw]; exact z) hl, fun st => by rw [hd, mach_one hw, if_pos z]⟩
    · exact .inr ⟨sh_signE hl (.inr ⟨c, hc, by rw [Wn.sg_of w hw]; exact z⟩), fun st => by rw [hd, mach_one hw, if_neg z]⟩
def RD (m : Nat) (T : List Nat) (i : Nat) : Prop :=
  (∃ s : Sy, sh_read_from m [.str (tS T), .int (i : Nat)] = .ok (.tup [su s, .int ((i + (wtx s).length : Nat) : Int)]) ∧ (∃ post, T.drop i = wtx s ++ post) ∧ ∀ st, mach (T.drop i) i (.say :: st) = mach (T.drop (i + (wtx s).length)) (i + (wtx s).length) st) ∨
  ∃ p : Nat, sh_read_from m [.str (tS T), .int (i : Nat)] = .err "NoSaying" [.int (p : Nat)] ∧ ∀ st, mach (T.drop i) i (.say :: st) = some p
theorem drop_le {T a post : List Nat} {i : Nat} (hi : i ≤ T.length) (h : T.drop i = a ++ post) : i + a.length ≤ T.length := by
  have := congrArg List.length h
  rw [List.length_drop, List.length_append] at this
  omega
theorem sgs : (Str.ofString "0pqr~[(").cps.toList = [48, 112, 113, 114, 126, 91, 40] := by decide +kernel
theorem cp_of (c : Nat) (h : c = 112 ∨ c = 113 ∨ c = 114) : ∃ l : Lt, l.cp = c := by
  rcases h with rfl | rfl | rfl
  · exact ⟨.p, rfl⟩
  · exact ⟨.q, rfl⟩
  · exact ⟨.r, rfl⟩
theorem op_of (c : Nat) (h : c ∈ Wn.op.sg) : ∃ o : Bop, o.cp = c := by
  have h : c = 38 ∨ c = 124 ∨ c = 62 := by simpa [Wn.sg] using h
  rcases h with rfl | rfl | rfl
  · exact ⟨.and, rfl⟩
  · exact ⟨.or, rfl⟩
  · exact ⟨.iff, rfl⟩
theorem rd_all {T : List Nat} (hl : T.length ≤ 1000) : ∀ (n i : Nat), i ≤ T.length → T.length - i < n → RD (n + 10) T i
  | 0, i, _, h => by omega
  | n + 1, i, hi, h => by
    have hl6 : T.length ≤ 1000000 := by omega
    by_cases he : i = T.length
    · subst he
      refine .inr ⟨T.length, ?_, fun st => by rw [List.drop_length]; exact mach_end⟩
      rw [sh_read_from, sh_signE hl6 (.inl rfl)]; rfl
    · obtain ⟨c, hc, hd⟩ := drop_at (T := T) (i := i) (by omega)
      by_cases h0 : c = 48
      · subst h0
        refine .inl ⟨.no, sh_rf (n + 1) .no T i (T.drop (i + 1)) (by show 1 ≤ n + 1; omega) hl6 hd, ⟨_, hd⟩, fun st => ?_⟩
        rw [hd, mach_say, if_pos (.inl rfl)]; rfl
      by_cases h1 : c = 112 ∨ c = 113 ∨ c = 114
      · obtain ⟨l, rfl⟩ := cp_of c h1
        refine .inl ⟨.lt l, sh_rf (n + 1) (.lt l) T i (T.drop (i + 1)) (by show 1 ≤ n + 1; omega) hl6 hd, ⟨_, hd⟩, fun st => ?_⟩
        rw [hd, mach_say, if_pos (.inr h1)]; rfl
      have h01 : ¬ (c = 48 ∨ c = 112 ∨ c = 113 ∨ c = 114) := fun z => z.elim h0 h1
      by_cases h2 : c = 126
      · subst h2
        have em : ∀ st, mach (T.drop i) i (.say :: st) = mach (T.drop (i + 1)) (i + 1) (.say :: st) := fun st => by rw [hd, mach_say, if_neg h01, if_pos rfl]
        have pre : sh_read_from (n + 1 + 10) [.str (tS T), .int (i : Nat)] = (sh_read_from (n + 10) [.str (tS T), .int ((i + 1 : Nat) : Int)]).bind fun z6 => (un2 z6).bind fun (v_part_7, v_past_8) => .ok (.tup [.tup [.str "not", v_part_7], v_past_8]) := by
          rw [sh_read_from, sh_sign hc (by decide +kernel) hl6, M.bind_ok, one_eq (d := 48) (by decide +kernel), decide_eq_false (by decide), M.bind_ok, if_neg (by simp), one_eq (d := 126) (by decide +kernel), decide_eq_true rfl, M.bind_ok, if_pos rfl, addM_int, M.bind_ok, show ((i : Nat) : Int) + 1 = ((i + 1 : Nat) : Int) by omega]
        rcases rd_all hl n (i + 1) (by omega) (by omega) with ⟨s, e, ⟨post, hp⟩, hm⟩ | ⟨p, e, hm⟩
        · refine .inl ⟨.not s, ?_, ⟨post, by rw [hd, hp]; rfl⟩, fun st => ?_⟩
          · rw [pre, e, M.bind_ok, un2_ok, M.bind_ok]
            simp only [wtx, su, List.length_cons]
            congr 5; omega
          · rw [em, hm]
            simp only [wtx, List.length_cons]
            rw [show i + 1 + (wtx s).length = i + ((wtx s).length + 1) by omega]
        · exact .inr ⟨p, by rw [pre, e]; rfl, fun st => by rw [em, hm]⟩
      by_cases h3 : c = 91
      · subst h3
        have em : ∀ st, mach (T.drop i) i (.say :: st) = mach (T.drop (i + 1)) (i + 1) (.say :: .br :: st) := fun st => by rw [hd, mach_say, if_neg h01, if_neg h2, if_pos rfl]
        have pre : sh_read_from (n + 1 + 10) [.str (tS T), .int (i : Nat)] = (sh_read_from (n + 10) [.str (tS T), .int ((i + 1 : Nat) : Int)]).bind fun z11 => (un2 z11).bind fun (v_part_12, v_past_13) => (sh_sign_at (n + 10) [.str (tS T), v_past_13, .str "]"]).bind fun z14 => (addM v_past_13 (.int 1)).bind fun z15 => .ok (.tup [.tup [.str "shown", v_part_12], z15]) := by
          rw [sh_read_from, sh_sign hc (by decide +kernel) hl6, M.bind_ok, one_eq (d := 48) (by decide +kernel), decide_eq_false (by decide), M.bind_ok, if_neg (by simp), one_eq (d := 126) (by decide +kernel), decide_eq_false (by decide), M.bind_ok, if_neg (by simp), one_eq (d := 91) (by decide +kernel), decide_eq_true rfl, M.bind_ok, if_pos rfl, addM_int, M.bind_ok, show ((i : Nat) : Int) + 1 = ((i + 1 : Nat) : Int) by omega]
        rcases rd_all hl n (i + 1) (by omega) (by omega) with ⟨s, e, ⟨post, hp⟩, hm⟩ | ⟨p, e, hm⟩
        · have hj := drop_le (by omega) hp
          rcases sg_w (m := n) hl6 hj .br (by decide) with ⟨c2, k1, k2, k3, k4⟩ | ⟨k3, k4⟩
          · have hc2 : c2 = 93 := by simpa [Wn.sg] using k2
            subst hc2
            obtain ⟨c3, q1, q2⟩ := drop_at (T := T) (i := i + 1 + (wtx s).length) (List.getElem?_eq_some_iff.mp k1).1
            have : c3 = 93 := by rw [k1] at q1; cases q1; rfl
            subst this
            refine .inl ⟨.shown s, ?_, ⟨T.drop (i + 1 + (wtx s).length + 1), ?_⟩, fun st => ?_⟩
            · rw [pre, e, M.bind_ok, un2_ok, M.bind_ok]
              dsimp only
              rw [show (Str.ofString "]") = Wn.br.s from rfl, k3, M.bind_ok, addM_int, M.bind_ok]
              simp only [wtx, su, List.length_cons, List.length_append, List.length_nil]
              congr 5; omega
            · have hp2 : post = T.drop (i + 1 + (wtx s).length) := (drop_a hp).symm
              rw [hd, hp, hp2, q2]; simp [wtx]
            · rw [em, hm, k4]
              simp only [wtx, List.length_cons, List.length_append, List.length_nil]
              rw [show i + 1 + (wtx s).length + 1 = i + ((wtx s).length + (0 + 1) + 1) by omega]
          · refine .inr ⟨i + 1 + (wtx s).length, ?_, fun st => by rw [em, hm, k4]⟩
            rw [pre, e, M.bind_ok, un2_ok, M.bind_ok]
            dsimp only
            rw [show (Str.ofString "]") = Wn.br.s from rfl, k3]; rfl
        · exact .inr ⟨p, by rw [pre, e]; rfl, fun st => by rw [em, hm]⟩
      by_cases h4 : c = 40
      · subst h4
        have em : ∀ st, mach (T.drop i) i (.say :: st) = mach (T.drop (i + 1)) (i + 1) (.say :: .op :: .say :: .pa :: st) := fun st => by rw [hd, mach_say, if_neg h01, if_neg h2, if_neg h3, if_pos rfl]
        have pre : sh_read_from (n + 1 + 10) [.str (tS T), .int (i : Nat)] = (sh_read_from (n + 10) [.str (tS T), .int ((i + 1 : Nat) : Int)]).bind fun z19 => (un2 z19).bind fun (v_one_20, v_middle_21) =>
            (sh_sign_at (n + 10) [.str (tS T), v_middle_21, .str "&|>"]).bind fun z22 => (dicM dc_WORDS z22).bind fun z23 => (addM v_middle_21 (.int 1)).bind fun z24 => (sh_read_from (n + 10) [.str (tS T), z24]).bind fun z25 => (un2 z25).bind fun (v_other_26, v_past_27) =>
            (sh_sign_at (n + 10) [.str (tS T), v_past_27, .str ")"]).bind fun z28 => (addM v_past_27 (.int 1)).bind fun z29 => .ok (.tup [.tup [z23, v_one_20, v_other_26], z29]) := by
          rw [sh_read_from, sh_sign hc (by decide +kernel) hl6, M.bind_ok, one_eq (d := 48) (by decide +kernel), decide_eq_false (by decide), M.bind_ok, if_neg (by simp), one_eq (d := 126) (by decide +kernel), decide_eq_false (by decide), M.bind_ok, if_neg (by simp), one_eq (d := 91) (by decide +kernel), decide_eq_false (by decide), M.bind_ok, if_neg (by simp),
            nB_ok, one_eq (d := 40) (by decide +kernel), decide_eq_true rfl, M.bind_ok, M.bind_ok, if_neg (by simp), addM_int, M.bind_ok, show ((i : Nat) : Int) + 1 = ((i + 1 : Nat) : Int) by omega]
        rcases rd_all hl n (i + 1) (by omega) (by omega) with ⟨a, e, ⟨post, hp⟩, hm⟩ | ⟨p, e, hm⟩
        · have hj := drop_le (by omega) hp
          rcases sg_w (m := n) hl6 hj .op (by decide) with ⟨c2, k1, k2, k3, k4⟩ | ⟨k3, k4⟩
          · obtain ⟨o, rfl⟩ := op_of c2 k2
            have hj2 : i + 1 + (wtx a).length < T.length := (List.getElem?_eq_some_iff.mp k1).1
            obtain ⟨c3, q1, q2⟩ := drop_at hj2
            have hc3 : c3 = o.cp := by rw [k1] at q1; cases q1; rfl
            subst hc3
            have hp2 : post = T.drop (i + 1 + (wtx a).length) := (drop_a hp).symm
            rcases rd_all hl n (i + 1 + (wtx a).length + 1) (by omega) (by omega) with ⟨b, e2, ⟨post2, hp3⟩, hm2⟩ | ⟨p, e2, hm2⟩
            · have hj3 := drop_le (by omega) hp3
              rcases sg_w (m := n) hl6 hj3 .pa (by decide) with ⟨c4, r1, r2, r3, r4⟩ | ⟨r3, r4⟩
              · have hc4 : c4 = 41 := by simpa [Wn.sg] using r2
                subst hc4
                obtain ⟨c5, q3, q4⟩ := drop_at (List.getElem?_eq_some_iff.mp r1).1
                have hc5 : c5 = 41 := by rw [r1] at q3; cases q3; rfl
                subst hc5
                have hp4 : post2 = T.drop (i + 1 + (wtx a).length + 1 + (wtx b).length) := (drop_a hp3).symm
                refine .inl ⟨.bin o a b, ?_, ⟨T.drop (i + 1 + (wtx a).length + 1 + (wtx b).length + 1), ?_⟩, fun st => ?_⟩
                · rw [pre, e, M.bind_ok, un2_ok, M.bind_ok]
                  dsimp only
                  rw [show (Str.ofString "&|>") = Wn.op.s from rfl, k3, M.bind_ok, op_wd, M.bind_ok, addM_int, M.bind_ok, show ((i + 1 + (wtx a).length : Nat) : Int) + 1 = ((i + 1 + (wtx a).length + 1 : Nat) : Int) by omega, e2, M.bind_ok, un2_ok, M.bind_ok]
                  dsimp only
                  rw [show (Str.ofString ")") = Wn.pa.s from rfl, r3, M.bind_ok, addM_int, M.bind_ok]
                  simp only [wtx, su, List.length_cons, List.length_append, List.length_nil]
                  congr 5; omega
                · rw [hd, hp, hp2, q2, hp3, hp4, q4]; simp [wtx]
                · rw [em, hm, k4, hm2, r4]
                  simp only [wtx, List.length_cons, List.length_append, List.length_nil]
                  rw [show i + 1 + (wtx a).length + 1 + (wtx b).length + 1 = i + ((wtx a).length + ((wtx b).length + (0 + 1) + 1) + 1) by omega]
              · refine .inr ⟨i + 1 + (wtx a).length + 1 + (wtx b).length, ?_, fun st => by rw [em, hm, k4, hm2, r4]⟩
                rw [pre, e, M.bind_ok, un2_ok, M.bind_ok]
                dsimp only
                rw [show (Str.ofString "&|>") = Wn.op.s from rfl, k3, M.bind_ok, op_wd, M.bind_ok, addM_int, M.bind_ok, show ((i + 1 + (wtx a).length : Nat) : Int) + 1 = ((i + 1 + (wtx a).length + 1 : Nat) : Int) by omega, e2, M.bind_ok, un2_ok, M.bind_ok]
                dsimp only
                rw [show (Str.ofString ")") = Wn.pa.s from rfl, r3]; rfl
            · refine .inr ⟨p, ?_, fun st => by rw [em, hm, k4, hm2]⟩
              rw [pre, e, M.bind_ok, un2_ok, M.bind_ok]
              dsimp only
              rw [show (Str.ofString "&|>") = Wn.op.s from rfl, k3, M.bind_ok, op_wd, M.bind_ok, addM_int, M.bind_ok, show ((i + 1 + (wtx a).length : Nat) : Int) + 1 = ((i + 1 + (wtx a).length + 1 : Nat) : Int) by omega, e2]; rfl
          · refine .inr ⟨i + 1 + (wtx a).length, ?_, fun st => by rw [em, hm, k4]⟩
            rw [pre, e, M.bind_ok, un2_ok, M.bind_ok]
            dsimp only
            rw [show (Str.ofString "&|>") = Wn.op.s from rfl, k3]; rfl
        · exact .inr ⟨p, by rw [pre, e]; rfl, fun st => by rw [em, hm]⟩
      · refine .inr ⟨i, ?_, fun st => by rw [hd, mach_say, if_neg h01, if_neg h2, if_neg h3, if_neg h4]⟩
        rw [sh_read_from, sh_signE hl6 (.inr ⟨c, hc, by rw [sgs]; simp [h0, h2, h3, h4]; exact ⟨fun z => h1 (.inl z), fun z => h1 (.inr (.inl z)), fun z => h1 (.inr (.inr z))⟩⟩)]; rfl
theorem ht_wtx : ∀ s : Sy, s.ht ≤ (wtx s).length
  | .no => by simp [wtx, Sy.ht]
  | .lt l => by simp [wtx, Sy.ht]
  | .not a => by have := ht_wtx a; simp only [wtx, Sy.ht, List.length_cons]; omega
  | .shown a => by have := ht_wtx a; simp only [wtx, Sy.ht, List.length_cons, List.length_append, List.length_nil]; omega
  | .bin o a b => by have := ht_wtx a; have := ht_wtx b; simp only [wtx, Sy.ht, List.length_cons, List.length_append, List.length_nil]; omega
/-- what reading comes to -/
theorem sh_rdall {T : List Nat} (hl : T.length ≤ 500) : (∃ s : Sy, T = wtx s ∧ sh_read (589 + 10) [.str (tS T)] = .ok (su s) ∧ mach T 0 [.say] = none) ∨ ∃ p : Nat, sh_read (589 + 10) [.str (tS T)] = .err "NoSaying" [.int (p : Nat)] ∧ mach T 0 [.say] = some p := by
  rw [sh_read, show (589 + 9 : Nat) = 588 + 10 from rfl, show (U.int 0) = U.int ((0 : Nat) : Int) from rfl]
  rcases rd_all (T := T) (by omega) 588 0 (by omega) (by omega) with ⟨s, e, ⟨post, hp⟩, hm⟩ | ⟨p, e, hm⟩
  · have hm := hm []
    rw [List.drop_zero] at hp hm
    rw [Nat.zero_add] at e hm
    have hle : (wtx s).length ≤ T.length := by rw [hp, List.length_append]; omega
    rw [e, M.bind_ok, un2_ok, M.bind_ok]
    dsimp only
    rw [lenM_tS (by omega), M.bind_ok, ltM_int, M.bind_ok]
    by_cases h : (wtx s).length < T.length
    · obtain ⟨c, hc, hd⟩ := drop_at h
      refine .inr ⟨(wtx s).length, ?_, by rw [hm, hd]; rfl⟩
      rw [decide_eq_true (by omega), if_pos rfl]
    · refine .inl ⟨s, ?_, ?_, ?_⟩
      · have : post = [] := by
          have := congrArg List.length hp
          rw [List.length_append] at this
          exact List.length_eq_zero_iff.mp (by omega)
        rw [this, List.append_nil] at hp; exact hp
      · rw [decide_eq_false (by omega), if_neg (by simp)]
      · rw [hm, List.drop_of_length_le (by omega)]; rfl
  · have hm := hm []
    rw [List.drop_zero] at hm
    exact .inr ⟨p, by rw [e]; rfl, hm⟩
theorem told_ns {k : Nat} {u : U} : sh__law_told (k + 1) [.exc "NoSaying" [u]] = .ok (.tup [.lst [.bl true, .bl false, .bl false, .bl false, .bl false, .bl false, .bl false, .bl false], .bl true]) := by rfl
theorem bls8 : eqM (.tup [.lst [.bl true, .bl false, .bl false, .bl false, .bl false, .bl false, .bl false, .bl false], .bl true]) (.tup [.lst [.bl true, .bl false, .bl false, .bl false, .bl false, .bl false, .bl false, .bl false], .bl true]) = .ok true := by rfl
theorem kinds_ns {k : Nat} {u : U} : sh__law_kinds (k + 2) [.exc "NoSaying" [u]] = .ok (.bl true) := by
  rw [sh__law_kinds, told_ns, M.bind_ok, vB_ok, bls8]; rfl
theorem sh_asked {T : List Nat} (hl : T.length ≤ 500) : sh__law_asked (599 + 1) [.str (tS T)] = .ok (.bl true) := by
  rw [sh__law_asked, show (599 : Nat) = 598 + 1 from rfl, sh_bad (by omega), M.bind_ok]
  rcases sh_rdall hl with ⟨s, hT, e, hm⟩ | ⟨p, e, hm⟩
  · have h1 := ht_wtx s
    have h2 : (wtx s).length ≤ 500 := by rw [← hT]; exact hl
    rw [show (598 + 1 : Nat) = 589 + 10 from rfl, e, M.bind_ok, tryK_ok, hm, show isM (opN none) .non = .ok true from rfl, M.bind_ok, if_pos rfl, vB_ok, show isM .non .non = .ok true from rfl, M.bind_ok, M.bind_ok, boolM_bl, M.bind_ok, if_pos rfl, show (589 + 10 : Nat) = 598 + 1 from rfl, sh_lw 598 s (by omega) (by omega), M.bind_ok, vB_ok, ← hT, eqM_str, decide_eq_true rfl]
    rfl
  · rw [show (598 + 1 : Nat) = 589 + 10 from rfl, e, M.bind_err, tryK_err, if_pos (by show List.contains _ ((Str.ofString "NoSaying"), 1) = true; decide +kernel), hm, show isM (opN (some p)) .non = .ok false from rfl, M.bind_ok, if_neg (by simp), show isM (.exc "NoSaying" [.int (p : Nat)]) .non = .ok false from rfl, M.bind_ok, if_neg (by simp), show (589 + 10 : Nat) = 597 + 2 from rfl, kinds_ns, M.bind_ok, boolM_bl, M.bind_ok, M.bind_ok, Bool.not_true, if_neg (by simp),
      show excF "NoSaying" (.exc "NoSaying" [.int (p : Nat)]) = .ok (.int (p : Nat)) from rfl, M.bind_ok, isi_int, M.bind_ok, boolM_bl, M.bind_ok, if_pos rfl, M.bind_ok, isi_ib, M.bind_ok, boolM_bl, M.bind_ok, boolM_bl, M.bind_ok, Bool.not_false, if_pos rfl, M.bind_ok, vB_ok, show opN (some p) = .int (p : Nat) from rfl, eqM_int, decide_eq_true rfl]
    rfl
theorem sh_spo {k : Nat} {T : List Nat} {c : Int} (hl : T.length ≤ 400) : ∃ T', sh__law_spoilt (k + 1) [.str (tS T), .int c] = .ok (.str (tS T')) ∧ T'.length ≤ T.length + 2 := by
  have m1 := Int.emod_nonneg (c / 5) (b := ((T.length : Nat) : Int) + 1) (by omega)
  have m2 := Int.emod_nonneg (c / 1009) (b := 26) (by decide)
  have m3 := Int.emod_lt_of_pos (c / 1009) (b := 26) (by decide)
  have m4 := Int.emod_nonneg (c / 1009) (b := 6) (by decide)
  have m5 := Int.emod_lt_of_pos (c / 1009) (b := 6) (by decide)
  have e1 : Str.ofString "0pqr~[](&|>) xsPa=-+.,{}<1" = tS (Str.ofString "0pqr~[](&|>) xsPa=-+.,{}<1").cps.toList := (tS_of _).symm
  have l1 : (Str.ofString "0pqr~[](&|>) xsPa=-+.,{}<1").cps.toList.length = 26 := by decide +kernel
  obtain ⟨d, hd⟩ : ∃ d, (Str.ofString "0pqr~[](&|>) xsPa=-+.,{}<1").cps.toList[(c / 1009 % 26).toNat]? = some d := ⟨_, List.getElem?_eq_getElem (by rw [l1]; omega)⟩
  have e2 : ixM (.str "0pqr~[](&|>) xsPa=-+.,{}<1") (.int (c / 1009 % 26)) = .ok (.str (tS [d])) := by
    rw [e1, show c / 1009 % 26 = (((c / 1009 % 26).toNat : Nat) : Int) by omega]
    exact ixM_tS hd (by rw [l1]; omega)
  rw [sh__law_spoilt, fdivM_int (by decide) (by decide), M.bind_ok, lenM_tS (by omega), M.bind_ok, addM_int, M.bind_ok, modM_int (by omega), M.bind_ok, fdivM_int (by decide) (by decide), M.bind_ok, modM_int (by decide), M.bind_ok, e2, M.bind_ok, modM_int (by decide), M.bind_ok, eqM_int, M.bind_ok]
  generalize c / 5 % (((T.length : Nat) : Int) + 1) = a at m1
  generalize c % 5 = r
  have ht : (T.take a.toNat).length ≤ T.length := by rw [List.length_take]; omega
  have hdr : ∀ n, (T.drop n).length ≤ T.length := fun n => by rw [List.length_drop]; omega
  have hs : ∀ n, (T.take a.toNat ++ T.drop n).length ≤ T.length + T.length := fun n => by rw [List.length_append]; have := hdr n; omega
  by_cases h0 : r = 0
  · rw [decide_eq_true h0, if_pos rfl, endM_int, M.bind_ok, slS_take m1 (by omega), M.bind_ok, addM_int, M.bind_ok, endM_int, M.bind_ok, slS_drop (by omega) (by omega), M.bind_ok, addM_tS (by have := hdr (a + 1).toNat; omega), M.bind_ok]
    exact ⟨_, rfl, by rw [List.length_append, List.length_take, List.length_drop]; omega⟩
  rw [decide_eq_false h0, if_neg (by simp), M.bind_ok, eqM_int, M.bind_ok]
  by_cases h1 : r = 1
  · rw [decide_eq_true h1, if_pos rfl, endM_int, M.bind_ok, slS_take m1 (by omega), M.bind_ok, addM_tS (by simp; omega), M.bind_ok, M.bind_ok, slS_drop (by omega) (by omega), M.bind_ok, addM_tS (by have := hdr a.toNat; simp only [List.length_append, List.length_cons, List.length_nil]; omega), M.bind_ok]
    exact ⟨_, rfl, by simp only [List.length_append, List.length_take, List.length_drop, List.length_cons, List.length_nil]; omega⟩
  rw [decide_eq_false h1, if_neg (by simp), M.bind_ok, eqM_int, M.bind_ok]
  by_cases h2 : r = 2
  · rw [decide_eq_true h2, if_pos rfl, endM_int, M.bind_ok, slS_take m1 (by omega), M.bind_ok, addM_tS (by simp; omega), M.bind_ok, addM_int, M.bind_ok, endM_int, M.bind_ok, slS_drop (by omega) (by omega), M.bind_ok, addM_tS (by have := hdr (a + 1).toNat; simp only [List.length_append, List.length_cons, List.length_nil]; omega), M.bind_ok]
    exact ⟨_, rfl, by simp only [List.length_append, List.length_take, List.length_drop, List.length_cons, List.length_nil]; omega⟩
  rw [decide_eq_false h2, if_neg (by simp), M.bind_ok, eqM_int, M.bind_ok]
  by_cases h3 : r = 3
  · rw [decide_eq_true h3, if_pos rfl, endM_int, M.bind_ok, slS_take m1 (by omega), M.bind_ok]
    exact ⟨_, rfl, by omega⟩
  rw [decide_eq_false h3, if_neg (by simp), M.bind_ok, modM_int (by decide), M.bind_ok]
  have six : ∃ w : List Nat, ixM (.lst ([.str "p", .str "]", .str ")", .str "&q", .str "~", .str " "])) (.int (c / 1009 % 6)) = .ok (.str (tS w)) ∧ w.length ≤ 2 := by
    generalize c / 1009 % 6 = q at m4 m5
    have : q = 0 ∨ q = 1 ∨ q = 2 ∨ q = 3 ∨ q = 4 ∨ q = 5 := by omega
    have hw : ∀ s : Str, ∃ w, s = tS w ∧ w.length = s.cps.toList.length := fun s => ⟨_, (tS_of s).symm, rfl⟩
    rcases this with rfl | rfl | rfl | rfl | rfl | rfl
    · exact ⟨(Str.ofString "p").cps.toList, by rw [tS_of]; rfl, by decide +kernel⟩
    · exact ⟨(Str.ofString "]").cps.toList, by rw [tS_of]; rfl, by decide +kernel⟩
    · exact ⟨(Str.ofString ")").cps.toList, by rw [tS_of]; rfl, by decide +kernel⟩
    · exact ⟨(Str.ofString "&q").cps.toList, by rw [tS_of]; rfl, by decide +kernel⟩
    · exact ⟨(Str.ofString "~").cps.toList, by rw [tS_of]; rfl, by decide +kernel⟩
    · exact ⟨(Str.ofString " ").cps.toList, by rw [tS_of]; rfl, by decide +kernel⟩
  obtain ⟨w, e3, hw⟩ := six
  rw [e3, M.bind_ok, addM_tS (by omega), M.bind_ok]
  exact ⟨_, rfl, by rw [List.length_append]; omega⟩
theorem lofS {i : Int} (h : 0 ≤ i) (h2 : i < 3) : ∃ s : Str, ixM (.str "pqr") (.int i) = .ok (.str s) := by
  have : i = 0 ∨ i = 1 ∨ i = 2 := by omega
  rcases this with rfl | rfl | rfl
  · exact ⟨_, rfl⟩
  · exact ⟨_, rfl⟩
  · exact ⟨_, rfl⟩
theorem made_one {k : Nat} {n : Int} {l : Str} : ∀ j : Fin 8, ((ixM (.lst [.exc "NoSaying" [.int n], .exc "TooMany" [], .exc "NoRule" [], .exc "Outside" [], .exc "NoLine" [], .exc "Nothing" [], .exc "NoTree" [.int n], .exc "HasLetter" [.str l]]) (.int (j.val : Int))).bind fun z5 =>
        (sh__law_told (k + 1) [z5]).bind fun z6 =>
        (range1M (.int 8)).bind fun it7 =>
        (compM (fun x8 => ((vB eqM) x8 (.int (j.val : Int))).bind fun z10 => .ok z10) it7).bind fun zs9 =>
        ((nB eqM) z6 (.tup [.lst zs9, .bl true])).bind fun b11 =>
        if b11 then M.ok (Ct.rt (σ := Unit) (U.bl false)) else M.ok (Ct.nx ())) = .ok (.nx ()) := by
  intro j
  match j with
  | 0 => rfl
  | 1 => rfl
  | 2 => rfl
  | 3 => rfl
  | 4 => rfl
  | 5 => rfl
  | 6 => rfl
  | 7 => rfl
theorem sh_made {k : Nat} {n : Int} : sh__law_made_well (k + 10) [.int n] = .ok (.bl true) := by
  obtain ⟨l, e⟩ := lofS (i := n % 3) (Int.emod_nonneg _ (by decide)) (Int.emod_lt_of_pos _ (by decide))
  rw [sh__law_made_well, modM_int (by decide), M.bind_ok, e, M.bind_ok, show range1M (.int 8) = .ok (rangeU 0 8) from rfl, M.bind_ok, forC_unit (fun x hx => by
    obtain ⟨i, hi, rfl⟩ := rangeU_mem hx
    have := made_one (k := k + 8) (n := n) (l := l) ⟨i, hi⟩
    rw [show (0 : Int) + (i : Nat) = ((⟨i, hi⟩ : Fin 8).val : Int) by simp]
    exact this)]
  rw [M.bind_ok, show excF "NoSaying" (.exc "NoSaying" [.int n]) = .ok (.int n) from rfl, M.bind_ok, vB_ok, eqM_int, decide_eq_true rfl, M.bind_ok, M.bind_ok, boolM_bl, M.bind_ok, if_pos rfl, show excF "NoTree" (.exc "NoTree" [.int n]) = .ok (.int n) from rfl, M.bind_ok, vB_ok, eqM_int, decide_eq_true rfl, M.bind_ok, M.bind_ok, boolM_bl, M.bind_ok, if_pos rfl, show excF "HasLetter" (.exc "HasLetter" [.str l]) = .ok (.str l) from rfl, M.bind_ok, vB_ok, eqM_str, decide_eq_true rfl]
  rfl
theorem pure_law (ns : List Int) (hn : ns.length ≤ 63) : sh_law (600 + 1) [.fzl (ns.map .int)] = .ok (.bl true) := by
  have hmix : ∀ i : Int, 0 ≤ i → i < 100000 → ∃ c : Int, sh__law_mix 599 [.fzl (ns.map .int), .int i] = .ok (.int c) ∧ 0 ≤ c := fun i h h2 => sh_mix (k := 598) h h2
  obtain ⟨c0, e0, p0⟩ := sh_mix (k := 599) (ns := ns) (i := 0) (by decide) (by decide)
  obtain ⟨c1, e1, p1⟩ := sh_mix (k := 599) (ns := ns) (i := 1) (by decide) (by decide)
  obtain ⟨c2, e2, p2⟩ := sh_mix (k := 599) (ns := ns) (i := 40) (by decide) (by decide)
  obtain ⟨c3, e3, p3⟩ := sh_mix (k := 599) (ns := ns) (i := 41) (by decide) (by decide)
  have m1 := Int.emod_nonneg c0 (b := 28) (by decide)
  have m2 := Int.emod_lt_of_pos c0 (b := 28) (by decide)
  obtain ⟨u, eb, s, rfl, hs⟩ := sh_built (k := 599) (ns := ns) (at_ := 2) (count := 1 + c0 % 28) hmix (by decide) (by decide) (by omega) (by omega)
  have h1 := ht_wtx s
  have h2 := wtx_len s
  have h3 := Sy.ht_size s
  have hT : (wtx s).length ≤ 200 := by omega
  obtain ⟨T1, es1, l1⟩ := sh_spo (k := 599) (T := wtx s) (c := c1) (by omega)
  obtain ⟨T2, es2, l2⟩ := sh_spo (k := 599) (T := T1) (c := c2) (by omega)
  rw [sh_law, e0, M.bind_ok, modM_int (by decide), M.bind_ok, addM_int, M.bind_ok, eb, M.bind_ok, sh_lw 599 s (by omega) (by omega), M.bind_ok, e1, M.bind_ok, es1, M.bind_ok, M.bind_ok, fdivM_int (by decide) (by decide), M.bind_ok, modM_int (by decide), M.bind_ok, eqM_int, M.bind_ok]
  refine Ok.eq (Ok.bind (P := fun u => ∃ T : List Nat, u = .str (tS T) ∧ T.length ≤ 300) ?_ ?_)
  · refine Ok.ite (fun _ => ?_) fun _ => ⟨_, rfl, T1, rfl, by omega⟩
    rw [e2, M.bind_ok, es2, M.bind_ok]
    exact ⟨_, rfl, T2, rfl, by omega⟩
  · rintro _ ⟨T3, rfl, l3⟩
    refine Ok.bind (P := fun u => ∃ T : List Nat, u = .str (tS T) ∧ T.length ≤ 300) ?_ ?_
    · rw [M.bind_ok, fdivM_int (by decide) (by decide), M.bind_ok, modM_int (by decide), M.bind_ok, eqM_int, M.bind_ok]
      refine Ok.ite (fun _ => ⟨_, rfl, [], ?_, by simp⟩) fun _ => ⟨_, rfl, T3, rfl, l3⟩
      exact congrArg U.str (by decide +kernel)
    · rintro _ ⟨T4, rfl, l4⟩
      rw [e3, M.bind_ok, modM_int (by decide), M.bind_ok, sh_made (k := 590), M.bind_ok, boolM_bl, M.bind_ok, Bool.not_true, if_neg (by simp), sh_asked (by omega), M.bind_ok, boolM_bl, M.bind_ok, if_pos rfl, sh_asked (by omega), M.bind_ok, boolM_bl, M.bind_ok, if_pos rfl]
      exact ⟨_, rfl, rfl⟩
--#end 600

def topS (i : Nat) : Stmt := PySem.Challenge.pw_selfsay_k07_no_saying.main.body.getD i (.Pass ⟨0, 0, 0, 0⟩)
/-- what the text told -/
structure Tp (G : Gl) (κ : Kl) : Prop where
  z_len : G.mg "len" = none
  z_int : G.mg "int" = none
  z_bool : G.mg "bool" = none
  z_isinstance : G.mg "isinstance" = none
  z_range : G.mg "range" = none
  z_ValueError : G.mg "ValueError" = none
  d_sign_at : DefAt G.K G.mg "sign_at" (topS 12) ["text", "at", "allowed"]
  d_read_from : DefAt G.K G.mg "read_from" (topS 13) ["text", "at"]
  d_read : DefAt G.K G.mg "read" (topS 14) ["text"]
  d__law_mix : DefAt G.K G.mg "_law_mix" (topS 16) ["_law_script", "_law_k"]
  d__law_built : DefAt G.K G.mg "_law_built" (topS 17) ["_law_script", "_law_at", "_law_count"]
  d__law_text : DefAt G.K G.mg "_law_text" (topS 18) ["_law_saying"]
  d__law_bad_place : DefAt G.K G.mg "_law_bad_place" (topS 19) ["_law_text_here"]
  d__law_spoilt : DefAt G.K G.mg "_law_spoilt" (topS 20) ["_law_text_here", "_law_cell"]
  d__law_told : DefAt G.K G.mg "_law_told" (topS 21) ["_law_e"]
  d__law_kinds : DefAt G.K G.mg "_law_kinds" (topS 22) ["_law_e"]
  d__law_made_well : DefAt G.K G.mg "_law_made_well" (topS 23) ["_law_number"]
  d__law_asked : DefAt G.K G.mg "_law_asked" (topS 24) ["_law_text_here"]
  d_law : DefAt G.K G.mg "law" (topS 25) ["_law_script"]
  g_NoSaying : G.mg "NoSaying" = some (.ref (κ.ad "NoSaying"))
  g_NoTree : G.mg "NoTree" = some (.ref (κ.ad "NoTree"))
  g_HasLetter : G.mg "HasLetter" = some (.ref (κ.ad "HasLetter"))
  g_TooMany : G.mg "TooMany" = some (.ref (κ.ad "TooMany"))
  g_NoRule : G.mg "NoRule" = some (.ref (κ.ad "NoRule"))
  g_Outside : G.mg "Outside" = some (.ref (κ.ad "Outside"))
  g_NoLine : G.mg "NoLine" = some (.ref (κ.ad "NoLine"))
  g_Nothing : G.mg "Nothing" = some (.ref (κ.ad "Nothing"))
  g_SayError : G.mg "SayError" = some (.ref (κ.ad "SayError"))
  x_TooMany : ExcK G.K G.mg κ "TooMany"
  x_NoRule : ExcK G.K G.mg κ "NoRule"
  x_Outside : ExcK G.K G.mg κ "Outside"
  x_NoLine : ExcK G.K G.mg κ "NoLine"
  x_Nothing : ExcK G.K G.mg κ "Nothing"
  y_NoSaying : ∀ kf, Exc1 G.P G.w G.K G.mg G.base κ (kf + 1) "NoSaying"
  y_NoTree : ∀ kf, Exc1 G.P G.w G.K G.mg G.base κ (kf + 1) "NoTree"
  y_HasLetter : ∀ kf, Exc1 G.P G.w G.K G.mg G.base κ (kf + 1) "HasLetter"
  xc_NoSaying : ExcC G.K (κ.ad "NoSaying")
  xc_NoTree : ExcC G.K (κ.ad "NoTree")
  xc_HasLetter : ExcC G.K (κ.ad "HasLetter")
  xc_TooMany : ExcC G.K (κ.ad "TooMany")
  xc_NoRule : ExcC G.K (κ.ad "NoRule")
  xc_Outside : ExcC G.K (κ.ad "Outside")
  xc_NoLine : ExcC G.K (κ.ad "NoLine")
  xc_Nothing : ExcC G.K (κ.ad "Nothing")
  xi_NoSaying : ∀ q ∈ ([("NoSaying", true), ("NoTree", false), ("HasLetter", false), ("TooMany", false), ("NoRule", false), ("Outside", false), ("NoLine", false), ("Nothing", false)] : List (Str × Bool)), ExcC G.K (κ.ad q.1) ∧ PySem.W.kitOne G.K (.ref (κ.ad q.1)) (.ref (κ.ad "NoSaying")) = some q.2
  xi_TooMany : ∀ q ∈ ([("NoSaying", false), ("NoTree", false), ("HasLetter", false), ("TooMany", true), ("NoRule", false), ("Outside", false), ("NoLine", false), ("Nothing", false)] : List (Str × Bool)), ExcC G.K (κ.ad q.1) ∧ PySem.W.kitOne G.K (.ref (κ.ad q.1)) (.ref (κ.ad "TooMany")) = some q.2
  xi_NoRule : ∀ q ∈ ([("NoSaying", false), ("NoTree", false), ("HasLetter", false), ("TooMany", false), ("NoRule", true), ("Outside", false), ("NoLine", false), ("Nothing", false)] : List (Str × Bool)), ExcC G.K (κ.ad q.1) ∧ PySem.W.kitOne G.K (.ref (κ.ad q.1)) (.ref (κ.ad "NoRule")) = some q.2
  xi_Outside : ∀ q ∈ ([("NoSaying", false), ("NoTree", false), ("HasLetter", false), ("TooMany", false), ("NoRule", false), ("Outside", true), ("NoLine", false), ("Nothing", false)] : List (Str × Bool)), ExcC G.K (κ.ad q.1) ∧ PySem.W.kitOne G.K (.ref (κ.ad q.1)) (.ref (κ.ad "Outside")) = some q.2
  xi_NoLine : ∀ q ∈ ([("NoSaying", false), ("NoTree", false), ("HasLetter", false), ("TooMany", false), ("NoRule", false), ("Outside", false), ("NoLine", true), ("Nothing", false)] : List (Str × Bool)), ExcC G.K (κ.ad q.1) ∧ PySem.W.kitOne G.K (.ref (κ.ad q.1)) (.ref (κ.ad "NoLine")) = some q.2
  xi_Nothing : ∀ q ∈ ([("NoSaying", false), ("NoTree", false), ("HasLetter", false), ("TooMany", false), ("NoRule", false), ("Outside", false), ("NoLine", false), ("Nothing", true)] : List (Str × Bool)), ExcC G.K (κ.ad q.1) ∧ PySem.W.kitOne G.K (.ref (κ.ad q.1)) (.ref (κ.ad "Nothing")) = some q.2
  xi_NoTree : ∀ q ∈ ([("NoSaying", false), ("NoTree", true), ("HasLetter", false), ("TooMany", false), ("NoRule", false), ("Outside", false), ("NoLine", false), ("Nothing", false)] : List (Str × Bool)), ExcC G.K (κ.ad q.1) ∧ PySem.W.kitOne G.K (.ref (κ.ad q.1)) (.ref (κ.ad "NoTree")) = some q.2
  xi_HasLetter : ∀ q ∈ ([("NoSaying", false), ("NoTree", false), ("HasLetter", true), ("TooMany", false), ("NoRule", false), ("Outside", false), ("NoLine", false), ("Nothing", false)] : List (Str × Bool)), ExcC G.K (κ.ad q.1) ∧ PySem.W.kitOne G.K (.ref (κ.ad q.1)) (.ref (κ.ad "HasLetter")) = some q.2
  xi_SayError : ∀ q ∈ ([("NoSaying", true), ("NoTree", true), ("HasLetter", true), ("TooMany", true), ("NoRule", true), ("Outside", true), ("NoLine", true), ("Nothing", true)] : List (Str × Bool)), ExcC G.K (κ.ad q.1) ∧ PySem.W.kitOne G.K (.ref (κ.ad q.1)) (.ref (κ.ad "SayError")) = some q.2
  xi_ValueError : ∀ q ∈ ([("NoSaying", true), ("NoTree", true), ("HasLetter", true), ("TooMany", true), ("NoRule", true), ("Outside", true), ("NoLine", true), ("Nothing", true)] : List (Str × Bool)), ExcC G.K (κ.ad q.1) ∧ PySem.W.kitOne G.K (.ref (κ.ad q.1)) (.type "ValueError") = some q.2
  xt_SayError : ∀ c ∈ ([("NoSaying", 1), ("NoTree", 1), ("HasLetter", 1), ("TooMany", 0), ("NoRule", 0), ("Outside", 0), ("NoLine", 0), ("Nothing", 0)] : List (Str × Nat)), PySem.W.exmOne G.K (.ref (κ.ad c.1)) (.ref (κ.ad "SayError")) = some true ∧ (κ.fs c.1).length = c.2
  xf_NoSaying : ExcF G.K κ "NoSaying" "place"
  xf_NoTree : ExcF G.K κ "NoTree" "room"
  xf_HasLetter : ExcF G.K κ "HasLetter" "letter"
  c_WORDS : DicK G.K G.w G.mg "WORDS" dc_WORDS
variable {G : Gl} {κ : Kl}
abbrev st__law_text : Stmt := topS 18
abbrev N__law_text : List Str := ["_law_saying", "_law_sign"]
abbrev vs__law_text : List Bool := [true, true]
abbrev gl__law_text : List Str := ["_law_text"]
theorem sc__law_text : FnScope N__law_text ["_law_saying"] (defScope st__law_text) := ⟨rfl, rfl, rfl, by decide +kernel, rfl, by decide +kernel, by decide +kernel⟩
theorem gd__law_text : goodC N__law_text (defScope st__law_text) vs__law_text vs__law_text gl__law_text = true := by decide +kernel
@[reducible] def cx__law_text (G : Gl) (k : Nat) : Pl.Ctx := G.cx N__law_text (defScope st__law_text) vs__law_text vs__law_text gl__law_text k

theorem ok__law_text (T : Tp G κ) : ∀ k, G.fn k "_law_text" 1 (spV κ 1 (sh__law_text k))
  | 0 => fn_none T.d__law_text (spV_none fun us => rfl)
  | kk + 1 => by
    have h__law_text := ok__law_text T kk
    refine def_V T.d__law_text sc__law_text gd__law_text fun us hl Q Eh h => ?_
    have hE : EI κ Eh (erM κ Eh) := EI.erM
    obtain ⟨v_saying, rfl⟩ := len1 hl
    change WSs _ [some (em κ v_saying), none] _ (_ :: _) _
    refine wss_cons ?_
    refine ws_if ?_
    refine wt_eqM (κ := κ) ?_
    refine we_ixM (κ := κ) ?_
    refine we_name (i := 0) rfl rfl rfl ?_
    refine we_int ?_
    refine fin2 (f := ixM) v_saying (.int 0) (vE (u := v_saying)) (vE (u := .int 0)) ‹_› fun z1 h => ?_
    refine we_str ?_
    refine fin2 (f := eqM) z1 (.str "no") (vE (u := z1)) (vE (u := .str "no")) ‹_› fun b2 h => ?_
    refine ite_m ‹_› (fun h => ?_) (fun h => ?_)
    · refine wss_cons ?_
      refine ws_ret ?_
      refine we_str ?_
      exact rtV_v (u := (.str "0")) h
    · refine wss_nil ?_
      refine wss_cons ?_
      refine ws_if ?_
      refine wt_eqM (κ := κ) ?_
      refine we_ixM (κ := κ) ?_
      refine we_name (i := 0) rfl rfl rfl ?_
      refine we_int ?_
      refine fin2 (f := ixM) v_saying (.int 0) (vE (u := v_saying)) (vE (u := .int 0)) ‹_› fun z3 h => ?_
      refine we_str ?_
      refine fin2 (f := eqM) z3 (.str "letter") (vE (u := z3)) (vE (u := .str "letter")) ‹_› fun b4 h => ?_
      refine ite_m ‹_› (fun h => ?_) (fun h => ?_)
      · refine wss_cons ?_
        refine ws_ret ?_
        refine we_ixM (κ := κ) ?_
        refine we_name (i := 0) rfl rfl rfl ?_
        refine we_int ?_
        refine fin2 (f := ixM) v_saying (.int 1) (vE (u := v_saying)) (vE (u := .int 1)) ‹_› fun z5 h => ?_
        exact rtV_v (u := z5) h
      · refine wss_nil ?_
        refine wss_cons ?_
        refine ws_if ?_
        refine wt_eqM (κ := κ) ?_
        refine we_ixM (κ := κ) ?_
        refine we_name (i := 0) rfl rfl rfl ?_
        refine we_int ?_
        refine fin2 (f := ixM) v_saying (.int 0) (vE (u := v_saying)) (vE (u := .int 0)) ‹_› fun z6 h => ?_
        refine we_str ?_
        refine fin2 (f := eqM) z6 (.str "not") (vE (u := z6)) (vE (u := .str "not")) ‹_› fun b7 h => ?_
        refine ite_m ‹_› (fun h => ?_) (fun h => ?_)
        · refine wss_cons ?_
          refine ws_ret ?_
          refine we_addM (κ := κ) ?_
          refine we_str ?_
          refine we_callV (κ := κ) h__law_text (Nat.le_refl _) ⟨0, rfl⟩ ?_
          refine wa_cons ?_ rfl
          refine we_ixM (κ := κ) ?_
          refine we_name (i := 0) rfl rfl rfl ?_
          refine we_int ?_
          refine fin2 (f := ixM) v_saying (.int 1) (vE (u := v_saying)) (vE (u := .int 1)) ‹_› fun z8 h => ?_
          refine wa_nil ?_
          refine finF (Γ := _) [z8] rfl rfl hE ‹_› fun z9 h => ?_
          refine fin2 (f := addM) (.str "~") z9 (vE (u := .str "~")) (vE (u := z9)) ‹_› fun z10 h => ?_
          exact rtV_v (u := z10) h
        · refine wss_nil ?_
          refine wss_cons ?_
          refine ws_if ?_
          refine wt_eqM (κ := κ) ?_
          refine we_ixM (κ := κ) ?_
          refine we_name (i := 0) rfl rfl rfl ?_
          refine we_int ?_
          refine fin2 (f := ixM) v_saying (.int 0) (vE (u := v_saying)) (vE (u := .int 0)) ‹_› fun z11 h => ?_
          refine we_str ?_
          refine fin2 (f := eqM) z11 (.str "shown") (vE (u := z11)) (vE (u := .str "shown")) ‹_› fun b12 h => ?_
          refine ite_m ‹_› (fun h => ?_) (fun h => ?_)
          · refine wss_cons ?_
            refine ws_ret ?_
            refine we_addM (κ := κ) ?_
            refine we_addM (κ := κ) ?_
            refine we_str ?_
            refine we_callV (κ := κ) h__law_text (Nat.le_refl _) ⟨0, rfl⟩ ?_
            refine wa_cons ?_ rfl
            refine we_ixM (κ := κ) ?_
            refine we_name (i := 0) rfl rfl rfl ?_
            refine we_int ?_
            refine fin2 (f := ixM) v_saying (.int 1) (vE (u := v_saying)) (vE (u := .int 1)) ‹_› fun z13 h => ?_
            refine wa_nil ?_
            refine finF (Γ := _) [z13] rfl rfl hE ‹_› fun z14 h => ?_
            refine fin2 (f := addM) (.str "[") z14 (vE (u := .str "[")) (vE (u := z14)) ‹_› fun z15 h => ?_
            refine we_str ?_
            refine fin2 (f := addM) z15 (.str "]") (vE (u := z15)) (vE (u := .str "]")) ‹_› fun z16 h => ?_
            exact rtV_v (u := z16) h
          · refine wss_nil ?_
            refine wss_cons ?_
            refine ws_set (i := 1) rfl rfl ?_ rfl
            refine we_ixdM (κ := κ) ?_
            refine we_disp ["and", "or", "if"] rfl rfl (by simp) (by decide) (by decide) ?_
            refine we_str ?_
            refine ⟨rfl, ?_⟩
            refine we_str ?_
            refine ⟨rfl, ?_⟩
            refine we_str ?_
            refine ⟨rfl, ?_⟩
            refine we_ixM (κ := κ) ?_
            refine we_name (i := 0) rfl rfl rfl ?_
            refine we_int ?_
            refine fin2 (f := ixM) v_saying (.int 0) (vE (u := v_saying)) (vE (u := .int 0)) ‹_› fun z17 h => ?_
            refine fin2 (f := ixdM) (.dic ((["and", "or", "if"] : List Str).map .inr) [.str "&", .str "|", .str ">"]) z17 (vE (u := .dic ((["and", "or", "if"] : List Str).map .inr) [.str "&", .str "|", .str ">"])) (vE (u := z17)) ‹_› fun z18 h => ?_
            refine wss_cons ?_
            refine ws_ret ?_
            refine we_addM (κ := κ) ?_
            refine we_addM (κ := κ) ?_
            refine we_addM (κ := κ) ?_
            refine we_addM (κ := κ) ?_
            refine we_str ?_
            refine we_callV (κ := κ) h__law_text (Nat.le_refl _) ⟨0, rfl⟩ ?_
            refine wa_cons ?_ rfl
            refine we_ixM (κ := κ) ?_
            refine we_name (i := 0) rfl rfl rfl ?_
            refine we_int ?_
            refine fin2 (f := ixM) v_saying (.int 1) (vE (u := v_saying)) (vE (u := .int 1)) ‹_› fun z19 h => ?_
            refine wa_nil ?_
            refine finF (Γ := _) [z19] rfl rfl hE ‹_› fun z20 h => ?_
            refine fin2 (f := addM) (.str "(") z20 (vE (u := .str "(")) (vE (u := z20)) ‹_› fun z21 h => ?_
            refine we_name (i := 1) rfl rfl rfl ?_
            refine fin2 (f := addM) z21 z18 (vE (u := z21)) (vE (u := z18)) ‹_› fun z22 h => ?_
            refine we_callV (κ := κ) h__law_text (Nat.le_refl _) ⟨0, rfl⟩ ?_
            refine wa_cons ?_ rfl
            refine we_ixM (κ := κ) ?_
            refine we_name (i := 0) rfl rfl rfl ?_
            refine we_int ?_
            refine fin2 (f := ixM) v_saying (.int 2) (vE (u := v_saying)) (vE (u := .int 2)) ‹_› fun z23 h => ?_
            refine wa_nil ?_
            refine finF (Γ := _) [z23] rfl rfl hE ‹_› fun z24 h => ?_
            refine fin2 (f := addM) z22 z24 (vE (u := z22)) (vE (u := z24)) ‹_› fun z25 h => ?_
            refine we_str ?_
            refine fin2 (f := addM) z25 (.str ")") (vE (u := z25)) (vE (u := .str ")")) ‹_› fun z26 h => ?_
            exact rtV_v (u := z26) h

abbrev st__law_mix : Stmt := topS 16
abbrev N__law_mix : List Str := ["_law_script", "_law_k", "_law_cell"]
abbrev vs__law_mix : List Bool := [true, true, true]
abbrev gl__law_mix : List Str := ["len"]
theorem sc__law_mix : FnScope N__law_mix ["_law_script", "_law_k"] (defScope st__law_mix) := ⟨rfl, rfl, rfl, by decide +kernel, rfl, by decide +kernel, by decide +kernel⟩
theorem gd__law_mix : goodC N__law_mix (defScope st__law_mix) vs__law_mix vs__law_mix gl__law_mix = true := by decide +kernel
@[reducible] def cx__law_mix (G : Gl) (k : Nat) : Pl.Ctx := G.cx N__law_mix (defScope st__law_mix) vs__law_mix vs__law_mix gl__law_mix k

theorem ok__law_mix (T : Tp G κ) : ∀ k, G.fn k "_law_mix" 2 (spV κ 2 (sh__law_mix k))
  | 0 => fn_none T.d__law_mix (spV_none fun us => rfl)
  | kk + 1 => by
    refine def_V T.d__law_mix sc__law_mix gd__law_mix fun us hl Q Eh h => ?_
    have hE : EI κ Eh (erM κ Eh) := EI.erM
    obtain ⟨v_script, v_k, rfl⟩ := len2 hl
    change WSs _ [some (em κ v_script), some (em κ v_k), none] _ (_ :: _) _
    rw [sh__law_mix] at h
    refine wss_cons ?_
    refine ws_set (i := 2) rfl rfl ?_ rfl
    refine we_int ?_
    refine wss_cons ?_
    refine ws_cutM (fun (st : U) (Γ : Pl.Env) (Λ : Cells) => Γ = [some (em κ v_script), some (em κ v_k), some (em κ st)] ∧ Λ = []) h (fun Q1 h => ?_) (fun v_cell_4 Γ Λ hs h => ?_)
    · refine ws_if ?_
      refine wt_ltM (κ := κ) ?_
      refine we_name (i := 1) rfl rfl rfl ?_
      refine we_lenM (κ := κ) ⟨0, rfl⟩ T.z_len ?_
      refine we_name (i := 0) rfl rfl rfl ?_
      refine fin1 (f := lenM) v_script (vE (u := v_script)) ‹_› fun z1 h => ?_
      refine fin2 (f := ltM) v_k z1 (vE (u := v_k)) (vE (u := z1)) ‹_› fun b2 h => ?_
      refine ite_m ‹_› (fun h => ?_) (fun h => ?_)
      · refine wss_cons ?_
        refine ws_set (i := 2) rfl rfl ?_ rfl
        refine we_ixM (κ := κ) ?_
        refine we_name (i := 0) rfl rfl rfl ?_
        refine we_name (i := 1) rfl rfl rfl ?_
        refine fin2 (f := ixM) v_script v_k (vE (u := v_script)) (vE (u := v_k)) ‹_› fun z3 h => ?_
        refine wss_nil ?_
        exact ⟨z3, ⟨rfl, rfl⟩, h⟩
      · refine wss_nil ?_
        exact ⟨(.int 0), ⟨rfl, rfl⟩, h⟩
    · obtain ⟨rfl, rfl⟩ := hs
      refine wss_cons ?_
      refine ws_ret ?_
      refine we_modM (κ := κ) ?_
      refine we_mulM (κ := κ) ?_
      refine we_modM (κ := κ) ?_
      refine we_mulM (κ := κ) ?_
      refine we_addM (κ := κ) ?_
      refine we_addM (κ := κ) ?_
      refine we_name (i := 2) rfl rfl rfl ?_
      refine we_mulM (κ := κ) ?_
      refine we_mulM (κ := κ) ?_
      refine we_int ?_
      refine we_name (i := 1) rfl rfl rfl ?_
      refine fin2 (f := mulM) (.int 7) v_k (vE (u := .int 7)) (vE (u := v_k)) ‹_› fun z5 h => ?_
      refine we_name (i := 1) rfl rfl rfl ?_
      refine fin2 (f := mulM) z5 v_k (vE (u := z5)) (vE (u := v_k)) ‹_› fun z6 h => ?_
      refine fin2 (f := addM) v_cell_4 z6 (vE (u := v_cell_4)) (vE (u := z6)) ‹_› fun z7 h => ?_
      refine we_int ?_
      refine fin2 (f := addM) z7 (.int 11) (vE (u := z7)) (vE (u := .int 11)) ‹_› fun z8 h => ?_
      refine we_int ?_
      refine fin2 (f := mulM) z8 (.int 48271) (vE (u := z8)) (vE (u := .int 48271)) ‹_› fun z9 h => ?_
      refine we_int ?_
      refine fin2 (f := modM) z9 (.int 2147483647) (vE (u := z9)) (vE (u := .int 2147483647)) ‹_› fun z10 h => ?_
      refine we_int ?_
      refine fin2 (f := mulM) z10 (.int 69621) (vE (u := z10)) (vE (u := .int 69621)) ‹_› fun z11 h => ?_
      refine we_int ?_
      refine fin2 (f := modM) z11 (.int 1000000007) (vE (u := z11)) (vE (u := .int 1000000007)) ‹_› fun z12 h => ?_
      exact rtV_v (u := z12) h

abbrev st__law_built : Stmt := topS 17
abbrev N__law_built : List Str := ["_law_script", "_law_at", "_law_count", "_law_stack", "_law_k", "_law_cell", "_law_way", "_law_leaf", "_law_other"]
abbrev vs__law_built : List Bool := [true, true, true, true, true, true, true, true, true]
abbrev gl__law_built : List Str := ["range", "_law_mix", "len"]
theorem sc__law_built : FnScope N__law_built ["_law_script", "_law_at", "_law_count"] (defScope st__law_built) := ⟨rfl, rfl, rfl, by decide +kernel, rfl, by decide +kernel, by decide +kernel⟩
theorem gd__law_built : goodC N__law_built (defScope st__law_built) vs__law_built vs__law_built gl__law_built = true := by decide +kernel
@[reducible] def cx__law_built (G : Gl) (k : Nat) : Pl.Ctx := G.cx N__law_built (defScope st__law_built) vs__law_built vs__law_built gl__law_built k

theorem ok__law_built (T : Tp G κ) : ∀ k, G.fn k "_law_built" 3 (spV κ 3 (sh__law_built k))
  | 0 => fn_none T.d__law_built (spV_none fun us => rfl)
  | kk + 1 => by
    have h__law_mix := ok__law_mix T kk
    refine def_V T.d__law_built sc__law_built gd__law_built fun us hl Q Eh h => ?_
    have hE : EI κ Eh (erM κ Eh) := EI.erM
    obtain ⟨v_script, v_at, v_count, rfl⟩ := len3 hl
    change WSs _ [some (em κ v_script), some (em κ v_at), some (em κ v_count), none, none, none, none, none, none] _ (_ :: _) _
    refine wss_cons ?_
    refine ws_set (i := 3) rfl rfl (we_o ?_) rfl
    refine wn_lst ?_
    refine wa_nil ?_
    refine ⟨szd (by decide : 0 < 10000000), ?_⟩
    refine wss_cons ?_
    refine ws_for [4] ?_
    refine wi_range1M (κ := κ) ⟨0, rfl⟩ T.z_range ?_
    refine we_name (i := 2) rfl rfl rfl ?_
    refine fin1 (f := range1M) v_count (vE (u := v_count)) ‹_› fun it1 h => ?_
    refine loopN_m (fun (st : List U) (Γ : Pl.Env) (Λ : Cells) => ∃ (y0 : Option D) (y1 : Option D) (y2 : Option D) (y3 : Option D) (y4 : Option D), Γ = [some (em κ v_script), some (em κ v_at), some (em κ v_count), some (.loc 0), y0, y1, y2, y3, y4] ∧ Λ = [.lst (ems κ st)]) h ⟨_, _, _, _, _, rfl, rfl⟩ (fun v_stack_2 x3 Γ Λ Q1 hs h => ?_) (fun v_stack_37 Γ Λ hs h => ?_)
    · obtain ⟨y0, y1, y2, y3, y4, rfl, rfl⟩ := hs
      refine wg_name (i := 4) rfl rfl ?_
      refine wss_cons ?_
      refine ws_set (i := 5) rfl rfl ?_ rfl
      refine we_callV (κ := κ) h__law_mix (Nat.le_refl _) ⟨1, rfl⟩ ?_
      refine wa_cons ?_ rfl
      refine we_name (i := 0) rfl rfl rfl ?_
      refine wa_cons ?_ rfl
      refine we_addM (κ := κ) ?_
      refine we_name (i := 1) rfl rfl rfl ?_
      refine we_name (i := 4) rfl rfl rfl ?_
      refine fin2 (f := addM) v_at x3 (vE (u := v_at)) (vE (u := x3)) ‹_› fun z4 h => ?_
      refine wa_nil ?_
      refine finF (Γ := _) [v_script, z4] rfl rfl hE ‹_› fun z5 h => ?_
      refine wss_cons ?_
      refine ws_set (i := 6) rfl rfl ?_ rfl
      refine we_modM (κ := κ) ?_
      refine we_name (i := 5) rfl rfl rfl ?_
      refine we_int ?_
      refine fin2 (f := modM) z5 (.int 9) (vE (u := z5)) (vE (u := .int 9)) ‹_› fun z6 h => ?_
      refine wss_cons ?_
      refine ws_set (i := 7) rfl rfl ?_ rfl
      refine we_ixM (κ := κ) ?_
      refine we_f ?_
      refine wn_lst ?_
      refine wa_cons ?_ rfl
      refine we_tup ?_
      refine wa_cons ?_ rfl
      refine we_str ?_
      refine wa_nil ?_
      refine ⟨szd (by decide : 1 < 10000000), ?_⟩
      refine wa_cons ?_ rfl
      refine we_tup ?_
      refine wa_cons ?_ rfl
      refine we_str ?_
      refine wa_cons ?_ rfl
      refine we_str ?_
      refine wa_nil ?_
      refine ⟨szd (by decide : 2 < 10000000), ?_⟩
      refine wa_cons ?_ rfl
      refine we_tup ?_
      refine wa_cons ?_ rfl
      refine we_str ?_
      refine wa_cons ?_ rfl
      refine we_str ?_
      refine wa_nil ?_
      refine ⟨szd (by decide : 2 < 10000000), ?_⟩
      refine wa_cons ?_ rfl
      refine we_tup ?_
      refine wa_cons ?_ rfl
      refine we_str ?_
      refine wa_cons ?_ rfl
      refine we_str ?_
      refine wa_nil ?_
      refine ⟨szd (by decide : 2 < 10000000), ?_⟩
      refine wa_nil ?_
      refine ⟨szd (by decide : 4 < 10000000), ?_⟩
      refine we_modM (κ := κ) ?_
      refine we_fdivM (κ := κ) ?_
      refine we_name (i := 5) rfl rfl rfl ?_
      refine we_int ?_
      refine fin2 (f := fdivM) z5 (.int 9) (vE (u := z5)) (vE (u := .int 9)) ‹_› fun z7 h => ?_
      refine we_int ?_
      refine fin2 (f := modM) z7 (.int 4) (vE (u := z7)) (vE (u := .int 4)) ‹_› fun z8 h => ?_
      refine fin2 (f := ixM) (.lst [.tup [.str "no"], .tup [.str "letter", .str "p"], .tup [.str "letter", .str "q"], .tup [.str "letter", .str "r"]]) z8 (vE (u := .lst [.tup [.str "no"], .tup [.str "letter", .str "p"], .tup [.str "letter", .str "q"], .tup [.str "letter", .str "r"]])) (vE (u := z8)) ‹_› fun z9 h => ?_
      refine wss_cons ?_
      refine ws_cutM (fun (st : List U) (Γ : Pl.Env) (Λ : Cells) => ∃ (y0 : Option D), Γ = [some (em κ v_script), some (em κ v_at), some (em κ v_count), some (.loc 0), some (em κ x3), some (em κ z5), some (em κ z6), some (em κ z9), y0] ∧ Λ = [.lst (ems κ st)]) h (fun Q1 h => ?_) (fun v_stack_36 Γ Λ hs h => ?_)
      · refine ws_if ?_
        refine wt_cutM ‹_› (fun Q1 h => ?_) (fun b13 h => ?_)
        · refine wt_ww (ww_or ?_)
          refine wt_ltM (κ := κ) ?_
          refine we_name (i := 6) rfl rfl rfl ?_
          refine we_int ?_
          refine fin2 (f := ltM) z6 (.int 4) (vE (u := z6)) (vE (u := .int 4)) ‹_› fun b10 h => ?_
          refine ite_m ‹_› (fun h => ?_) (fun h => ?_)
          · exact ⟨rfl, h⟩
          · refine ww_or1 ?_
            refine wt_eqM (κ := κ) ?_
            refine we_lenM (κ := κ) ⟨2, rfl⟩ T.z_len ?_
            refine we_name (i := 3) rfl rfl rfl ?_
            refine fin1 (f := lenM) (.lst v_stack_2) (vL rfl) ‹_› fun z11 h => ?_
            refine we_int ?_
            refine fin2 (f := eqM) z11 (.int 0) (vE (u := z11)) (vE (u := .int 0)) ‹_› fun b12 h => ?_
            exact ⟨rfl, h⟩
        refine ite_m ‹_› (fun h => ?_) (fun h => ?_)
        · refine wss_cons ?_
          refine ws_expr ?_
          refine we_appM (κ := κ) 0 ?_
          refine we_name (i := 3) rfl rfl rfl ?_
          refine ⟨rfl, ⟨v_stack_2, rfl⟩, ?_⟩
          refine we_name (i := 7) rfl rfl rfl ?_
          refine finA (f := appM) v_stack_2 z9 rfl ‹_› fun l14 h => ?_
          refine wss_nil ?_
          exact ⟨l14, ⟨_, rfl, rfl⟩, h⟩
        · refine wss_cons ?_
          refine ws_cutM (fun (st : List U) (Γ : Pl.Env) (Λ : Cells) => ∃ (y0 : Option D), Γ = [some (em κ v_script), some (em κ v_at), some (em κ v_count), some (.loc 0), some (em κ x3), some (em κ z5), some (em κ z6), some (em κ z9), y0] ∧ Λ = [.lst (ems κ st)]) h (fun Q1 h => ?_) (fun v_stack_35 Γ Λ hs h => ?_)
          · refine ws_if ?_
            refine wt_ltM (κ := κ) ?_
            refine we_name (i := 6) rfl rfl rfl ?_
            refine we_int ?_
            refine fin2 (f := ltM) z6 (.int 7) (vE (u := z6)) (vE (u := .int 7)) ‹_› fun b15 h => ?_
            refine ite_m ‹_› (fun h => ?_) (fun h => ?_)
            · refine wss_cons ?_
              refine ws_setM (κ := κ) 0 ?_
              refine we_tup ?_
              refine wa_cons ?_ rfl
              refine we_ixM (κ := κ) ?_
              refine we_f ?_
              refine wn_lst ?_
              refine wa_cons ?_ rfl
              refine we_str ?_
              refine wa_cons ?_ rfl
              refine we_str ?_
              refine wa_cons ?_ rfl
              refine we_str ?_
              refine wa_nil ?_
              refine ⟨szd (by decide : 3 < 10000000), ?_⟩
              refine we_subM (κ := κ) ?_
              refine we_name (i := 6) rfl rfl rfl ?_
              refine we_int ?_
              refine fin2 (f := subM) z6 (.int 4) (vE (u := z6)) (vE (u := .int 4)) ‹_› fun z16 h => ?_
              refine fin2 (f := ixM) (.lst [.str "not", .str "shown", .str "shown"]) z16 (vE (u := .lst [.str "not", .str "shown", .str "shown"])) (vE (u := z16)) ‹_› fun z17 h => ?_
              refine wa_cons ?_ rfl
              refine we_ixM (κ := κ) ?_
              refine we_name (i := 3) rfl rfl rfl ?_
              refine we_negM (κ := κ) ?_
              refine we_int ?_
              refine fin1 (f := negM) (.int 1) (vE (u := .int 1)) ‹_› fun z18 h => ?_
              refine fin2 (f := ixM) (.lst v_stack_2) z18 (vL rfl) (vE (u := z18)) ‹_› fun z19 h => ?_
              refine wa_nil ?_
              refine ⟨szd (by decide : 2 < 10000000), ?_⟩
              refine we_name (i := 3) rfl rfl rfl ?_
              refine we_negM (κ := κ) ?_
              refine we_int ?_
              refine fin1 (f := negM) (.int 1) (vE (u := .int 1)) ‹_› fun z20 h => ?_
              refine ⟨rfl, finS v_stack_2 (.tup [z17, z19]) z20 rfl ‹_› fun l21 h => ?_⟩
              refine wss_nil ?_
              exact ⟨l21, ⟨_, rfl, rfl⟩, h⟩
            · refine wss_cons ?_
              refine ws_cutM (fun (st : List U) (Γ : Pl.Env) (Λ : Cells) => ∃ (y0 : Option D), Γ = [some (em κ v_script), some (em κ v_at), some (em κ v_count), some (.loc 0), some (em κ x3), some (em κ z5), some (em κ z6), some (em κ z9), y0] ∧ Λ = [.lst (ems κ st)]) h (fun Q1 h => ?_) (fun v_stack_34 Γ Λ hs h => ?_)
              · refine ws_if ?_
                refine wt_gtM (κ := κ) ?_
                refine we_lenM (κ := κ) ⟨2, rfl⟩ T.z_len ?_
                refine we_name (i := 3) rfl rfl rfl ?_
                refine fin1 (f := lenM) (.lst v_stack_2) (vL rfl) ‹_› fun z22 h => ?_
                refine we_int ?_
                refine fin2 (f := gtM) z22 (.int 1) (vE (u := z22)) (vE (u := .int 1)) ‹_› fun b23 h => ?_
                refine ite_m ‹_› (fun h => ?_) (fun h => ?_)
                · refine wss_cons ?_
                  refine ws_set (i := 8) rfl rfl ?_ rfl
                  refine we_popM (κ := κ) 0 ?_
                  refine we_name (i := 3) rfl rfl rfl ?_
                  refine ⟨rfl, finC (f := popM) v_stack_2 rfl h fun (z24, l25) h => ?_⟩
                  refine wss_cons ?_
                  refine ws_setM (κ := κ) 0 ?_
                  refine we_tup ?_
                  refine wa_cons ?_ rfl
                  refine we_ixM (κ := κ) ?_
                  refine we_f ?_
                  refine wn_lst ?_
                  refine wa_cons ?_ rfl
                  refine we_str ?_
                  refine wa_cons ?_ rfl
                  refine we_str ?_
                  refine wa_cons ?_ rfl
                  refine we_str ?_
                  refine wa_nil ?_
                  refine ⟨szd (by decide : 3 < 10000000), ?_⟩
                  refine we_modM (κ := κ) ?_
                  refine we_fdivM (κ := κ) ?_
                  refine we_name (i := 5) rfl rfl rfl ?_
                  refine we_int ?_
                  refine fin2 (f := fdivM) z5 (.int 9) (vE (u := z5)) (vE (u := .int 9)) ‹_› fun z27 h => ?_
                  refine we_int ?_
                  refine fin2 (f := modM) z27 (.int 3) (vE (u := z27)) (vE (u := .int 3)) ‹_› fun z28 h => ?_
                  refine fin2 (f := ixM) (.lst [.str "and", .str "or", .str "if"]) z28 (vE (u := .lst [.str "and", .str "or", .str "if"])) (vE (u := z28)) ‹_› fun z29 h => ?_
                  refine wa_cons ?_ rfl
                  refine we_ixM (κ := κ) ?_
                  refine we_name (i := 3) rfl rfl rfl ?_
                  refine we_negM (κ := κ) ?_
                  refine we_int ?_
                  refine fin1 (f := negM) (.int 1) (vE (u := .int 1)) ‹_› fun z30 h => ?_
                  refine fin2 (f := ixM) (.lst l25) z30 (vL rfl) (vE (u := z30)) ‹_› fun z31 h => ?_
                  refine wa_cons ?_ rfl
                  refine we_name (i := 8) rfl rfl rfl ?_
                  refine wa_nil ?_
                  refine ⟨szd (by decide : 3 < 10000000), ?_⟩
                  refine we_name (i := 3) rfl rfl rfl ?_
                  refine we_negM (κ := κ) ?_
                  refine we_int ?_
                  refine fin1 (f := negM) (.int 1) (vE (u := .int 1)) ‹_› fun z32 h => ?_
                  refine ⟨rfl, finS l25 (.tup [z29, z31, z24]) z32 rfl ‹_› fun l33 h => ?_⟩
                  refine wss_nil ?_
                  exact ⟨l33, ⟨_, rfl, rfl⟩, h⟩
                · refine wss_nil ?_
                  exact ⟨v_stack_2, ⟨_, rfl, rfl⟩, h⟩
              · obtain ⟨y0, rfl, rfl⟩ := hs
                refine wss_nil ?_
                exact ⟨v_stack_34, ⟨_, rfl, rfl⟩, h⟩
          · obtain ⟨y0, rfl, rfl⟩ := hs
            refine wss_nil ?_
            exact ⟨v_stack_35, ⟨_, rfl, rfl⟩, h⟩
      · obtain ⟨y0, rfl, rfl⟩ := hs
        refine wss_nil ?_
        exact ⟨v_stack_36, ⟨_, _, _, _, _, rfl, rfl⟩, h⟩
    · obtain ⟨y0, y1, y2, y3, y4, rfl, rfl⟩ := hs
      refine wss_cons ?_
      refine whN_m (fun (st : List U) (Γ : Pl.Env) (Λ : Cells) => ∃ (y0 : Option D) (y1 : Option D) (y2 : Option D) (y3 : Option D) (y4 : Option D), Γ = [some (em κ v_script), some (em κ v_at), some (em κ v_count), some (.loc 0), y0, y1, y2, y3, y4] ∧ Λ = [.lst (ems κ st)]) h ⟨_, _, _, _, _, rfl, rfl⟩ (fun v_stack_38 Γ Λ Q1 hs h => ?_) (fun v_stack_41 Γ Λ Q1 hs h => ?_) (fun v_stack_52 Γ Λ hs h => ?_)
      · obtain ⟨y0, y1, y2, y3, y4, rfl, rfl⟩ := hs
        refine wt_gtM (κ := κ) ?_
        refine we_lenM (κ := κ) ⟨2, rfl⟩ T.z_len ?_
        refine we_name (i := 3) rfl rfl rfl ?_
        refine fin1 (f := lenM) (.lst v_stack_38) (vL rfl) ‹_› fun z39 h => ?_
        refine we_int ?_
        refine fin2 (f := gtM) z39 (.int 1) (vE (u := z39)) (vE (u := .int 1)) ‹_› fun b40 h => ?_
        exact ⟨rfl, h⟩
      · obtain ⟨y0, y1, y2, y3, y4, rfl, rfl⟩ := hs
        refine wss_cons ?_
        refine ws_set (i := 8) rfl rfl ?_ rfl
        refine we_popM (κ := κ) 0 ?_
        refine we_name (i := 3) rfl rfl rfl ?_
        refine ⟨rfl, finC (f := popM) v_stack_41 rfl h fun (z42, l43) h => ?_⟩
        refine wss_cons ?_
        refine ws_setM (κ := κ) 0 ?_
        refine we_tup ?_
        refine wa_cons ?_ rfl
        refine we_ixM (κ := κ) ?_
        refine we_f ?_
        refine wn_lst ?_
        refine wa_cons ?_ rfl
        refine we_str ?_
        refine wa_cons ?_ rfl
        refine we_str ?_
        refine wa_cons ?_ rfl
        refine we_str ?_
        refine wa_nil ?_
        refine ⟨szd (by decide : 3 < 10000000), ?_⟩
        refine we_modM (κ := κ) ?_
        refine we_lenM (κ := κ) ⟨2, rfl⟩ T.z_len ?_
        refine we_name (i := 3) rfl rfl rfl ?_
        refine fin1 (f := lenM) (.lst l43) (vL rfl) ‹_› fun z45 h => ?_
        refine we_int ?_
        refine fin2 (f := modM) z45 (.int 3) (vE (u := z45)) (vE (u := .int 3)) ‹_› fun z46 h => ?_
        refine fin2 (f := ixM) (.lst [.str "and", .str "or", .str "if"]) z46 (vE (u := .lst [.str "and", .str "or", .str "if"])) (vE (u := z46)) ‹_› fun z47 h => ?_
        refine wa_cons ?_ rfl
        refine we_ixM (κ := κ) ?_
        refine we_name (i := 3) rfl rfl rfl ?_
        refine we_negM (κ := κ) ?_
        refine we_int ?_
        refine fin1 (f := negM) (.int 1) (vE (u := .int 1)) ‹_› fun z48 h => ?_
        refine fin2 (f := ixM) (.lst l43) z48 (vL rfl) (vE (u := z48)) ‹_› fun z49 h => ?_
        refine wa_cons ?_ rfl
        refine we_name (i := 8) rfl rfl rfl ?_
        refine wa_nil ?_
        refine ⟨szd (by decide : 3 < 10000000), ?_⟩
        refine we_name (i := 3) rfl rfl rfl ?_
        refine we_negM (κ := κ) ?_
        refine we_int ?_
        refine fin1 (f := negM) (.int 1) (vE (u := .int 1)) ‹_› fun z50 h => ?_
        refine ⟨rfl, finS l43 (.tup [z47, z49, z42]) z50 rfl ‹_› fun l51 h => ?_⟩
        refine wss_nil ?_
        exact ⟨l51, ⟨_, _, _, _, _, rfl, rfl⟩, h⟩
      · obtain ⟨y0, y1, y2, y3, y4, rfl, rfl⟩ := hs
        refine wss_cons ?_
        refine ws_ret ?_
        refine we_ixM (κ := κ) ?_
        refine we_name (i := 3) rfl rfl rfl ?_
        refine we_int ?_
        refine fin2 (f := ixM) (.lst v_stack_52) (.int 0) (vL rfl) (vE (u := .int 0)) ‹_› fun z53 h => ?_
        exact rtV_v (u := z53) h

abbrev st__law_spoilt : Stmt := topS 20
abbrev N__law_spoilt : List Str := ["_law_text_here", "_law_cell", "_law_at", "_law_sign"]
abbrev vs__law_spoilt : List Bool := [true, true, true, true]
abbrev gl__law_spoilt : List Str := ["len"]
theorem sc__law_spoilt : FnScope N__law_spoilt ["_law_text_here", "_law_cell"] (defScope st__law_spoilt) := ⟨rfl, rfl, rfl, by decide +kernel, rfl, by decide +kernel, by decide +kernel⟩
theorem gd__law_spoilt : goodC N__law_spoilt (defScope st__law_spoilt) vs__law_spoilt vs__law_spoilt gl__law_spoilt = true := by decide +kernel
@[reducible] def cx__law_spoilt (G : Gl) (k : Nat) : Pl.Ctx := G.cx N__law_spoilt (defScope st__law_spoilt) vs__law_spoilt vs__law_spoilt gl__law_spoilt k

theorem ok__law_spoilt (T : Tp G κ) : ∀ k, G.fn k "_law_spoilt" 2 (spV κ 2 (sh__law_spoilt k))
  | 0 => fn_none T.d__law_spoilt (spV_none fun us => rfl)
  | kk + 1 => by
    refine def_V T.d__law_spoilt sc__law_spoilt gd__law_spoilt fun us hl Q Eh h => ?_
    have hE : EI κ Eh (erM κ Eh) := EI.erM
    obtain ⟨v_text_here, v_cell, rfl⟩ := len2 hl
    change WSs _ [some (em κ v_text_here), some (em κ v_cell), none, none] _ (_ :: _) _
    refine wss_cons ?_
    refine ws_set (i := 2) rfl rfl ?_ rfl
    refine we_modM (κ := κ) ?_
    refine we_fdivM (κ := κ) ?_
    refine we_name (i := 1) rfl rfl rfl ?_
    refine we_int ?_
    refine fin2 (f := fdivM) v_cell (.int 5) (vE (u := v_cell)) (vE (u := .int 5)) ‹_› fun z1 h => ?_
    refine we_addM (κ := κ) ?_
    refine we_lenM (κ := κ) ⟨0, rfl⟩ T.z_len ?_
    refine we_name (i := 0) rfl rfl rfl ?_
    refine fin1 (f := lenM) v_text_here (vE (u := v_text_here)) ‹_› fun z2 h => ?_
    refine we_int ?_
    refine fin2 (f := addM) z2 (.int 1) (vE (u := z2)) (vE (u := .int 1)) ‹_› fun z3 h => ?_
    refine fin2 (f := modM) z1 z3 (vE (u := z1)) (vE (u := z3)) ‹_› fun z4 h => ?_
    refine wss_cons ?_
    refine ws_set (i := 3) rfl rfl ?_ rfl
    refine we_ixM (κ := κ) ?_
    refine we_str ?_
    refine we_modM (κ := κ) ?_
    refine we_fdivM (κ := κ) ?_
    refine we_name (i := 1) rfl rfl rfl ?_
    refine we_int ?_
    refine fin2 (f := fdivM) v_cell (.int 1009) (vE (u := v_cell)) (vE (u := .int 1009)) ‹_› fun z5 h => ?_
    refine we_int ?_
    refine fin2 (f := modM) z5 (.int 26) (vE (u := z5)) (vE (u := .int 26)) ‹_› fun z6 h => ?_
    refine fin2 (f := ixM) (.str "0pqr~[](&|>) xsPa=-+.,{}<1") z6 (vE (u := .str "0pqr~[](&|>) xsPa=-+.,{}<1")) (vE (u := z6)) ‹_› fun z7 h => ?_
    refine wss_cons ?_
    refine ws_if ?_
    refine wt_eqM (κ := κ) ?_
    refine we_modM (κ := κ) ?_
    refine we_name (i := 1) rfl rfl rfl ?_
    refine we_int ?_
    refine fin2 (f := modM) v_cell (.int 5) (vE (u := v_cell)) (vE (u := .int 5)) ‹_› fun z8 h => ?_
    refine we_int ?_
    refine fin2 (f := eqM) z8 (.int 0) (vE (u := z8)) (vE (u := .int 0)) ‹_› fun b9 h => ?_
    refine ite_m ‹_› (fun h => ?_) (fun h => ?_)
    · refine wss_cons ?_
      refine ws_ret ?_
      refine we_addM (κ := κ) ?_
      refine we_slM (κ := κ) ?_
      refine we_name (i := 0) rfl rfl rfl ?_
      refine we_name (i := 2) rfl rfl rfl ?_
      refine fin1 (f := endM) z4 (vE (u := z4)) ‹_› fun z10 h => ?_
      refine fin1 (f := fun u => slM u none z10) v_text_here (vE (u := v_text_here)) ‹_› fun z11 h => ?_
      refine we_slM (κ := κ) ?_
      refine we_name (i := 0) rfl rfl rfl ?_
      refine we_addM (κ := κ) ?_
      refine we_name (i := 2) rfl rfl rfl ?_
      refine we_int ?_
      refine fin2 (f := addM) z4 (.int 1) (vE (u := z4)) (vE (u := .int 1)) ‹_› fun z12 h => ?_
      refine fin1 (f := endM) z12 (vE (u := z12)) ‹_› fun z13 h => ?_
      refine fin1 (f := fun u => slM u z13 none) v_text_here (vE (u := v_text_here)) ‹_› fun z14 h => ?_
      refine fin2 (f := addM) z11 z14 (vE (u := z11)) (vE (u := z14)) ‹_› fun z15 h => ?_
      exact rtV_v (u := z15) h
    · refine wss_nil ?_
      refine wss_cons ?_
      refine ws_if ?_
      refine wt_eqM (κ := κ) ?_
      refine we_modM (κ := κ) ?_
      refine we_name (i := 1) rfl rfl rfl ?_
      refine we_int ?_
      refine fin2 (f := modM) v_cell (.int 5) (vE (u := v_cell)) (vE (u := .int 5)) ‹_› fun z16 h => ?_
      refine we_int ?_
      refine fin2 (f := eqM) z16 (.int 1) (vE (u := z16)) (vE (u := .int 1)) ‹_› fun b17 h => ?_
      refine ite_m ‹_› (fun h => ?_) (fun h => ?_)
      · refine wss_cons ?_
        refine ws_ret ?_
        refine we_addM (κ := κ) ?_
        refine we_addM (κ := κ) ?_
        refine we_slM (κ := κ) ?_
        refine we_name (i := 0) rfl rfl rfl ?_
        refine we_name (i := 2) rfl rfl rfl ?_
        refine fin1 (f := endM) z4 (vE (u := z4)) ‹_› fun z18 h => ?_
        refine fin1 (f := fun u => slM u none z18) v_text_here (vE (u := v_text_here)) ‹_› fun z19 h => ?_
        refine we_name (i := 3) rfl rfl rfl ?_
        refine fin2 (f := addM) z19 z7 (vE (u := z19)) (vE (u := z7)) ‹_› fun z20 h => ?_
        refine we_slM (κ := κ) ?_
        refine we_name (i := 0) rfl rfl rfl ?_
        refine we_name (i := 2) rfl rfl rfl ?_
        refine fin1 (f := endM) z4 (vE (u := z4)) ‹_› fun z21 h => ?_
        refine fin1 (f := fun u => slM u z21 none) v_text_here (vE (u := v_text_here)) ‹_› fun z22 h => ?_
        refine fin2 (f := addM) z20 z22 (vE (u := z20)) (vE (u := z22)) ‹_› fun z23 h => ?_
        exact rtV_v (u := z23) h
      · refine wss_nil ?_
        refine wss_cons ?_
        refine ws_if ?_
        refine wt_eqM (κ := κ) ?_
        refine we_modM (κ := κ) ?_
        refine we_name (i := 1) rfl rfl rfl ?_
        refine we_int ?_
        refine fin2 (f := modM) v_cell (.int 5) (vE (u := v_cell)) (vE (u := .int 5)) ‹_› fun z24 h => ?_
        refine we_int ?_
        refine fin2 (f := eqM) z24 (.int 2) (vE (u := z24)) (vE (u := .int 2)) ‹_› fun b25 h => ?_
        refine ite_m ‹_› (fun h => ?_) (fun h => ?_)
        · refine wss_cons ?_
          refine ws_ret ?_
          refine we_addM (κ := κ) ?_
          refine we_addM (κ := κ) ?_
          refine we_slM (κ := κ) ?_
          refine we_name (i := 0) rfl rfl rfl ?_
          refine we_name (i := 2) rfl rfl rfl ?_
          refine fin1 (f := endM) z4 (vE (u := z4)) ‹_› fun z26 h => ?_
          refine fin1 (f := fun u => slM u none z26) v_text_here (vE (u := v_text_here)) ‹_› fun z27 h => ?_
          refine we_name (i := 3) rfl rfl rfl ?_
          refine fin2 (f := addM) z27 z7 (vE (u := z27)) (vE (u := z7)) ‹_› fun z28 h => ?_
          refine we_slM (κ := κ) ?_
          refine we_name (i := 0) rfl rfl rfl ?_
          refine we_addM (κ := κ) ?_
          refine we_name (i := 2) rfl rfl rfl ?_
          refine we_int ?_
          refine fin2 (f := addM) z4 (.int 1) (vE (u := z4)) (vE (u := .int 1)) ‹_› fun z29 h => ?_
          refine fin1 (f := endM) z29 (vE (u := z29)) ‹_› fun z30 h => ?_
          refine fin1 (f := fun u => slM u z30 none) v_text_here (vE (u := v_text_here)) ‹_› fun z31 h => ?_
          refine fin2 (f := addM) z28 z31 (vE (u := z28)) (vE (u := z31)) ‹_› fun z32 h => ?_
          exact rtV_v (u := z32) h
        · refine wss_nil ?_
          refine wss_cons ?_
          refine ws_if ?_
          refine wt_eqM (κ := κ) ?_
          refine we_modM (κ := κ) ?_
          refine we_name (i := 1) rfl rfl rfl ?_
          refine we_int ?_
          refine fin2 (f := modM) v_cell (.int 5) (vE (u := v_cell)) (vE (u := .int 5)) ‹_› fun z33 h => ?_
          refine we_int ?_
          refine fin2 (f := eqM) z33 (.int 3) (vE (u := z33)) (vE (u := .int 3)) ‹_› fun b34 h => ?_
          refine ite_m ‹_› (fun h => ?_) (fun h => ?_)
          · refine wss_cons ?_
            refine ws_ret ?_
            refine we_slM (κ := κ) ?_
            refine we_name (i := 0) rfl rfl rfl ?_
            refine we_name (i := 2) rfl rfl rfl ?_
            refine fin1 (f := endM) z4 (vE (u := z4)) ‹_› fun z35 h => ?_
            refine fin1 (f := fun u => slM u none z35) v_text_here (vE (u := v_text_here)) ‹_› fun z36 h => ?_
            exact rtV_v (u := z36) h
          · refine wss_nil ?_
            refine wss_cons ?_
            refine ws_ret ?_
            refine we_addM (κ := κ) ?_
            refine we_name (i := 0) rfl rfl rfl ?_
            refine we_ixM (κ := κ) ?_
            refine we_f ?_
            refine wn_lst ?_
            refine wa_cons ?_ rfl
            refine we_str ?_
            refine wa_cons ?_ rfl
            refine we_str ?_
            refine wa_cons ?_ rfl
            refine we_str ?_
            refine wa_cons ?_ rfl
            refine we_str ?_
            refine wa_cons ?_ rfl
            refine we_str ?_
            refine wa_cons ?_ rfl
            refine we_str ?_
            refine wa_nil ?_
            refine ⟨szd (by decide : 6 < 10000000), ?_⟩
            refine we_modM (κ := κ) ?_
            refine we_fdivM (κ := κ) ?_
            refine we_name (i := 1) rfl rfl rfl ?_
            refine we_int ?_
            refine fin2 (f := fdivM) v_cell (.int 1009) (vE (u := v_cell)) (vE (u := .int 1009)) ‹_› fun z37 h => ?_
            refine we_int ?_
            refine fin2 (f := modM) z37 (.int 6) (vE (u := z37)) (vE (u := .int 6)) ‹_› fun z38 h => ?_
            refine fin2 (f := ixM) (.lst ([.str "p", .str "]", .str ")", .str "&q", .str "~", .str " "])) z38 (vE (u := .lst ([.str "p", .str "]", .str ")", .str "&q", .str "~", .str " "]))) (vE (u := z38)) ‹_› fun z39 h => ?_
            refine fin2 (f := addM) v_text_here z39 (vE (u := v_text_here)) (vE (u := z39)) ‹_› fun z40 h => ?_
            exact rtV_v (u := z40) h

abbrev st__law_told : Stmt := topS 21
abbrev N__law_told : List Str := ["_law_e", "_law_told_here"]
abbrev vs__law_told : List Bool := [true, true]
abbrev gl__law_told : List Str := ["isinstance", "NoSaying", "TooMany", "NoRule", "Outside", "NoLine", "Nothing", "NoTree", "HasLetter", "SayError", "ValueError"]
theorem sc__law_told : FnScope N__law_told ["_law_e"] (defScope st__law_told) := ⟨rfl, rfl, rfl, by decide +kernel, rfl, by decide +kernel, by decide +kernel⟩
theorem gd__law_told : goodC N__law_told (defScope st__law_told) vs__law_told vs__law_told gl__law_told = true := by decide +kernel
@[reducible] def cx__law_told (G : Gl) (k : Nat) : Pl.Ctx := G.cx N__law_told (defScope st__law_told) vs__law_told vs__law_told gl__law_told k

theorem ok__law_told (T : Tp G κ) : ∀ k, G.fn k "_law_told" 1 (spV κ 1 (sh__law_told k))
  | 0 => fn_none T.d__law_told (spV_none fun us => rfl)
  | kk + 1 => by
    refine def_V T.d__law_told sc__law_told gd__law_told fun us hl Q Eh h => ?_
    have hE : EI κ Eh (erM κ Eh) := EI.erM
    obtain ⟨v_e, rfl⟩ := len1 hl
    change WSs _ [some (em κ v_e), none] _ (_ :: _) _
    refine wss_cons ?_
    refine ws_set (i := 1) rfl rfl ?_ rfl
    refine we_f ?_
    refine wn_lst ?_
    refine wa_cons ?_ rfl
    refine we_isEM (κ := κ) (tbl := [("NoSaying", true), ("NoTree", false), ("HasLetter", false), ("TooMany", false), ("NoRule", false), ("Outside", false), ("NoLine", false), ("Nothing", false)]) ⟨0, rfl⟩ T.z_isinstance ⟨1, rfl⟩ T.g_NoSaying T.xi_NoSaying ?_
    refine we_name (i := 0) rfl rfl rfl ?_
    refine ⟨v_e, rfl, fin0 (m := isEM [("NoSaying", true), ("NoTree", false), ("HasLetter", false), ("TooMany", false), ("NoRule", false), ("Outside", false), ("NoLine", false), ("Nothing", false)] v_e) ‹_› fun z1 h => ?_⟩
    refine wa_cons ?_ rfl
    refine we_isEM (κ := κ) (tbl := [("NoSaying", false), ("NoTree", false), ("HasLetter", false), ("TooMany", true), ("NoRule", false), ("Outside", false), ("NoLine", false), ("Nothing", false)]) ⟨0, rfl⟩ T.z_isinstance ⟨2, rfl⟩ T.g_TooMany T.xi_TooMany ?_
    refine we_name (i := 0) rfl rfl rfl ?_
    refine ⟨v_e, rfl, fin0 (m := isEM [("NoSaying", false), ("NoTree", false), ("HasLetter", false), ("TooMany", true), ("NoRule", false), ("Outside", false), ("NoLine", false), ("Nothing", false)] v_e) ‹_› fun z2 h => ?_⟩
    refine wa_cons ?_ rfl
    refine we_isEM (κ := κ) (tbl := [("NoSaying", false), ("NoTree", false), ("HasLetter", false), ("TooMany", false), ("NoRule", true), ("Outside", false), ("NoLine", false), ("Nothing", false)]) ⟨0, rfl⟩ T.z_isinstance ⟨3, rfl⟩ T.g_NoRule T.xi_NoRule ?_
    refine we_name (i := 0) rfl rfl rfl ?_
    refine ⟨v_e, rfl, fin0 (m := isEM [("NoSaying", false), ("NoTree", false), ("HasLetter", false), ("TooMany", false), ("NoRule", true), ("Outside", false), ("NoLine", false), ("Nothing", false)] v_e) ‹_› fun z3 h => ?_⟩
    refine wa_cons ?_ rfl
    refine we_isEM (κ := κ) (tbl := [("NoSaying", false), ("NoTree", false), ("HasLetter", false), ("TooMany", false), ("NoRule", false), ("Outside", true), ("NoLine", false), ("Nothing", false)]) ⟨0, rfl⟩ T.z_isinstance ⟨4, rfl⟩ T.g_Outside T.xi_Outside ?_
    refine we_name (i := 0) rfl rfl rfl ?_
    refine ⟨v_e, rfl, fin0 (m := isEM [("NoSaying", false), ("NoTree", false), ("HasLetter", false), ("TooMany", false), ("NoRule", false), ("Outside", true), ("NoLine", false), ("Nothing", false)] v_e) ‹_› fun z4 h => ?_⟩
    refine wa_nil ?_
    refine ⟨szd (by decide : 4 < 10000000), ?_⟩
    refine wss_cons ?_
    refine ws_set (i := 1) rfl rfl ?_ rfl
    refine we_addM (κ := κ) ?_
    refine we_name (i := 1) rfl rfl rfl ?_
    refine we_f ?_
    refine wn_lst ?_
    refine wa_cons ?_ rfl
    refine we_isEM (κ := κ) (tbl := [("NoSaying", false), ("NoTree", false), ("HasLetter", false), ("TooMany", false), ("NoRule", false), ("Outside", false), ("NoLine", true), ("Nothing", false)]) ⟨0, rfl⟩ T.z_isinstance ⟨5, rfl⟩ T.g_NoLine T.xi_NoLine ?_
    refine we_name (i := 0) rfl rfl rfl ?_
    refine ⟨v_e, rfl, fin0 (m := isEM [("NoSaying", false), ("NoTree", false), ("HasLetter", false), ("TooMany", false), ("NoRule", false), ("Outside", false), ("NoLine", true), ("Nothing", false)] v_e) ‹_› fun z5 h => ?_⟩
    refine wa_cons ?_ rfl
    refine we_isEM (κ := κ) (tbl := [("NoSaying", false), ("NoTree", false), ("HasLetter", false), ("TooMany", false), ("NoRule", false), ("Outside", false), ("NoLine", false), ("Nothing", true)]) ⟨0, rfl⟩ T.z_isinstance ⟨6, rfl⟩ T.g_Nothing T.xi_Nothing ?_
    refine we_name (i := 0) rfl rfl rfl ?_
    refine ⟨v_e, rfl, fin0 (m := isEM [("NoSaying", false), ("NoTree", false), ("HasLetter", false), ("TooMany", false), ("NoRule", false), ("Outside", false), ("NoLine", false), ("Nothing", true)] v_e) ‹_› fun z6 h => ?_⟩
    refine wa_cons ?_ rfl
    refine we_isEM (κ := κ) (tbl := [("NoSaying", false), ("NoTree", true), ("HasLetter", false), ("TooMany", false), ("NoRule", false), ("Outside", false), ("NoLine", false), ("Nothing", false)]) ⟨0, rfl⟩ T.z_isinstance ⟨7, rfl⟩ T.g_NoTree T.xi_NoTree ?_
    refine we_name (i := 0) rfl rfl rfl ?_
    refine ⟨v_e, rfl, fin0 (m := isEM [("NoSaying", false), ("NoTree", true), ("HasLetter", false), ("TooMany", false), ("NoRule", false), ("Outside", false), ("NoLine", false), ("Nothing", false)] v_e) ‹_› fun z7 h => ?_⟩
    refine wa_cons ?_ rfl
    refine we_isEM (κ := κ) (tbl := [("NoSaying", false), ("NoTree", false), ("HasLetter", true), ("TooMany", false), ("NoRule", false), ("Outside", false), ("NoLine", false), ("Nothing", false)]) ⟨0, rfl⟩ T.z_isinstance ⟨8, rfl⟩ T.g_HasLetter T.xi_HasLetter ?_
    refine we_name (i := 0) rfl rfl rfl ?_
    refine ⟨v_e, rfl, fin0 (m := isEM [("NoSaying", false), ("NoTree", false), ("HasLetter", true), ("TooMany", false), ("NoRule", false), ("Outside", false), ("NoLine", false), ("Nothing", false)] v_e) ‹_› fun z8 h => ?_⟩
    refine wa_nil ?_
    refine ⟨szd (by decide : 4 < 10000000), ?_⟩
    refine fin2 (f := addM) (.lst [z1, z2, z3, z4]) (.lst [z5, z6, z7, z8]) (vE (u := .lst [z1, z2, z3, z4])) (vE (u := .lst [z5, z6, z7, z8])) ‹_› fun z9 h => ?_
    refine wss_cons ?_
    refine ws_ret ?_
    refine we_tup ?_
    refine wa_cons ?_ rfl
    refine we_name (i := 1) rfl rfl rfl ?_
    refine wa_cons ?_ rfl
    refine we_cutM (κ := κ) h (fun Q1 h => ?_) (fun z13 h => ?_)
    · refine we_andM (κ := κ) ?_
      refine we_isEM (κ := κ) (tbl := [("NoSaying", true), ("NoTree", true), ("HasLetter", true), ("TooMany", true), ("NoRule", true), ("Outside", true), ("NoLine", true), ("Nothing", true)]) ⟨0, rfl⟩ T.z_isinstance ⟨9, rfl⟩ T.g_SayError T.xi_SayError ?_
      refine we_name (i := 0) rfl rfl rfl ?_
      refine ⟨v_e, rfl, fin0 (m := isEM [("NoSaying", true), ("NoTree", true), ("HasLetter", true), ("TooMany", true), ("NoRule", true), ("Outside", true), ("NoLine", true), ("Nothing", true)] v_e) ‹_› fun z10 h => ?_⟩
      refine fin1 (f := boolM) z10 (vE (u := z10)) ‹_› fun b11 h => ?_
      refine ite_m ‹_› (fun h => ?_) (fun h => ?_)
      · refine we_one ?_
        refine we_isEB (κ := κ) (tbl := [("NoSaying", true), ("NoTree", true), ("HasLetter", true), ("TooMany", true), ("NoRule", true), ("Outside", true), ("NoLine", true), ("Nothing", true)]) ⟨0, rfl⟩ T.z_isinstance ⟨10, rfl⟩ T.z_ValueError boot_VE T.xi_ValueError ?_
        refine we_name (i := 0) rfl rfl rfl ?_
        refine ⟨v_e, rfl, fin0 (m := isEM [("NoSaying", true), ("NoTree", true), ("HasLetter", true), ("TooMany", true), ("NoRule", true), ("Outside", true), ("NoLine", true), ("Nothing", true)] v_e) ‹_› fun z12 h => ?_⟩
        exact ⟨rfl, z12, rfl, h⟩
      · exact ⟨rfl, (.bl false), rfl, h⟩
    refine wa_nil ?_
    refine ⟨szd (by decide : 2 < 10000000), ?_⟩
    exact rtV_v (u := (.tup [z9, z13])) h

abbrev st__law_made_well : Stmt := topS 23
abbrev N__law_made_well : List Str := ["_law_number", "_law_letter", "_law_placed", "_law_roomed", "_law_lettered", "_law_row", "_law_k", "_law_j"]
abbrev vs__law_made_well : List Bool := [true, true, true, true, true, true, true, false]
abbrev gl__law_made_well : List Str := ["NoSaying", "NoTree", "HasLetter", "TooMany", "NoRule", "Outside", "NoLine", "Nothing", "range", "_law_told"]
theorem sc__law_made_well : FnScope N__law_made_well ["_law_number"] (defScope st__law_made_well) := ⟨rfl, rfl, rfl, by decide +kernel, rfl, by decide +kernel, by decide +kernel⟩
theorem gd__law_made_well : goodC N__law_made_well (defScope st__law_made_well) vs__law_made_well vs__law_made_well gl__law_made_well = true := by decide +kernel
@[reducible] def cx__law_made_well (G : Gl) (k : Nat) : Pl.Ctx := G.cx N__law_made_well (defScope st__law_made_well) vs__law_made_well vs__law_made_well gl__law_made_well k

theorem ok__law_made_well (T : Tp G κ) : ∀ k, G.fn k "_law_made_well" 1 (spV κ 1 (sh__law_made_well k))
  | 0 => fn_none T.d__law_made_well (spV_none fun us => rfl)
  | 1 => fn_none T.d__law_made_well (spV_none fun us => rfl)
  | 2 => fn_none T.d__law_made_well (spV_none fun us => rfl)
  | 3 => fn_none T.d__law_made_well (spV_none fun us => rfl)
  | 4 => fn_none T.d__law_made_well (spV_none fun us => rfl)
  | 5 => fn_none T.d__law_made_well (spV_none fun us => rfl)
  | 6 => fn_none T.d__law_made_well (spV_none fun us => rfl)
  | 7 => fn_none T.d__law_made_well (spV_none fun us => rfl)
  | 8 => fn_none T.d__law_made_well (spV_none fun us => rfl)
  | 9 => fn_none T.d__law_made_well (spV_none fun us => rfl)
  | kk + 10 => by
    have h__law_told := ok__law_told T (kk + 9)
    refine def_V T.d__law_made_well sc__law_made_well gd__law_made_well fun us hl Q Eh h => ?_
    have hE : EI κ Eh (erM κ Eh) := EI.erM
    obtain ⟨v_number, rfl⟩ := len1 hl
    change WSs _ [some (em κ v_number), none, none, none, none, none, none, none] _ (_ :: _) _
    refine wss_cons ?_
    refine ws_set (i := 1) rfl rfl ?_ rfl
    refine we_ixM (κ := κ) ?_
    refine we_str ?_
    refine we_modM (κ := κ) ?_
    refine we_name (i := 0) rfl rfl rfl ?_
    refine we_int ?_
    refine fin2 (f := modM) v_number (.int 3) (vE (u := v_number)) (vE (u := .int 3)) ‹_› fun z1 h => ?_
    refine fin2 (f := ixM) (.str "pqr") z1 (vE (u := .str "pqr")) (vE (u := z1)) ‹_› fun z2 h => ?_
    refine wss_cons ?_
    refine ws_set (i := 2) rfl rfl ?_ rfl
    refine we_mk1M (κ := κ) ⟨0, rfl⟩ (T.y_NoSaying 0) (by show _ ≤ kk + 9; omega) ?_
    refine we_name (i := 0) rfl rfl rfl ?_
    refine ⟨v_number, rfl, ?_⟩
    refine wss_cons ?_
    refine ws_set (i := 3) rfl rfl ?_ rfl
    refine we_mk1M (κ := κ) ⟨1, rfl⟩ (T.y_NoTree 0) (by show _ ≤ kk + 9; omega) ?_
    refine we_name (i := 0) rfl rfl rfl ?_
    refine ⟨v_number, rfl, ?_⟩
    refine wss_cons ?_
    refine ws_set (i := 4) rfl rfl ?_ rfl
    refine we_mk1M (κ := κ) ⟨2, rfl⟩ (T.y_HasLetter 0) (by show _ ≤ kk + 9; omega) ?_
    refine we_name (i := 1) rfl rfl rfl ?_
    refine ⟨z2, rfl, ?_⟩
    refine wss_cons ?_
    refine ws_set (i := 5) rfl rfl ?_ rfl
    refine we_f ?_
    refine wn_lst ?_
    refine wa_cons ?_ rfl
    refine we_name (i := 2) rfl rfl rfl ?_
    refine wa_cons ?_ rfl
    refine we_mk0M (κ := κ) ⟨3, rfl⟩ T.x_TooMany ?_
    refine wa_cons ?_ rfl
    refine we_mk0M (κ := κ) ⟨4, rfl⟩ T.x_NoRule ?_
    refine wa_cons ?_ rfl
    refine we_mk0M (κ := κ) ⟨5, rfl⟩ T.x_Outside ?_
    refine wa_cons ?_ rfl
    refine we_mk0M (κ := κ) ⟨6, rfl⟩ T.x_NoLine ?_
    refine wa_cons ?_ rfl
    refine we_mk0M (κ := κ) ⟨7, rfl⟩ T.x_Nothing ?_
    refine wa_cons ?_ rfl
    refine we_name (i := 3) rfl rfl rfl ?_
    refine wa_cons ?_ rfl
    refine we_name (i := 4) rfl rfl rfl ?_
    refine wa_nil ?_
    refine ⟨szd (by decide : 8 < 10000000), ?_⟩
    refine wss_cons ?_
    refine ws_for [6] ?_
    refine wi_range1M (κ := κ) ⟨8, rfl⟩ T.z_range ?_
    refine we_int ?_
    refine fin1 (f := range1M) (.int 8) (vE (u := .int 8)) ‹_› fun it3 h => ?_
    refine loopC_m (ρ := U) (fun (st : Unit) (Γ : Pl.Env) (Λ : Cells) => ∃ (y0 : Option D) (y1 : Option D), Γ = [some (em κ v_number), some (em κ z2), some (em κ (.exc "NoSaying" [v_number])), some (em κ (.exc "NoTree" [v_number])), some (em κ (.exc "HasLetter" [z2])), some (em κ (.lst [.exc "NoSaying" [v_number], .exc "TooMany" [], .exc "NoRule" [], .exc "Outside" [], .exc "NoLine" [], .exc "Nothing" [], .exc "NoTree" [v_number], .exc "HasLetter" [z2]])), y0, y1] ∧ Λ = []) (fun c r Λ => rtV κ (fun u => u = c) r Λ) h ⟨_, _, rfl, rfl⟩ (fun st x4 Γ Λ Q1 hs h => ?_) (fun st Γ Λ hs h => ?_) (fun c r Λ hr h => rtV_imp hr h)
    · obtain ⟨y0, y1, rfl, rfl⟩ := hs
      refine wg_name (i := 6) rfl rfl ?_
      refine wss_cons ?_
      refine ws_if ?_
      refine wt_neM (κ := κ) ?_
      refine we_callV (κ := κ) h__law_told (Nat.le_refl _) ⟨9, rfl⟩ ?_
      refine wa_cons ?_ rfl
      refine we_ixM (κ := κ) ?_
      refine we_name (i := 5) rfl rfl rfl ?_
      refine we_name (i := 6) rfl rfl rfl ?_
      refine fin2 (f := ixM) (.lst [.exc "NoSaying" [v_number], .exc "TooMany" [], .exc "NoRule" [], .exc "Outside" [], .exc "NoLine" [], .exc "Nothing" [], .exc "NoTree" [v_number], .exc "HasLetter" [z2]]) x4 (vE (u := .lst [.exc "NoSaying" [v_number], .exc "TooMany" [], .exc "NoRule" [], .exc "Outside" [], .exc "NoLine" [], .exc "Nothing" [], .exc "NoTree" [v_number], .exc "HasLetter" [z2]])) (vE (u := x4)) ‹_› fun z5 h => ?_
      refine wa_nil ?_
      refine finF (Γ := _) [z5] rfl rfl hE ‹_› fun z6 h => ?_
      refine we_tup ?_
      refine wa_cons ?_ rfl
      refine we_f ?_
      refine wn_lc [("_law_j", 7)] [false, false, false, false, false, false, true, true] [false, false, false, false, false, false, false, true] [] [7] (blkOk_by (by decide +kernel : blkC N__law_made_well (defScope st__law_made_well) _ [("_law_j", 7)] = true)) (good_blk (by decide +kernel : goodC N__law_made_well (relS _ (defScope st__law_made_well)) [false, false, false, false, false, false, true, true] [false, false, false, false, false, false, false, true] [] = true)) (sto_by (by decide +kernel : stoC N__law_made_well _ [false, false, false, false, false, false, false, true] = true)) (by decide) ?_
      refine wi_range1M (κ := κ) ⟨8, rfl⟩ T.z_range ?_
      refine we_int ?_
      refine fin1 (f := range1M) (.int 8) (vE (u := .int 8)) ‹_› fun it7 h => ?_
      refine comp_m h (fun x8 Q1 h => ?_) (fun zs9 h => ?_)
      · have hE : EI κ no ER.none := EI.no
        refine wg_name (i := 7) rfl rfl ?_
        refine we_eqM (κ := κ) ?_
        refine we_name (i := 7) rfl rfl rfl ?_
        refine we_name (i := 6) rfl rfl rfl ?_
        refine fin2 (f := (vB eqM)) x8 x4 (vE (u := x8)) (vE (u := x4)) ‹_› fun z10 h => ?_
        exact ⟨rfl, z10, rfl, h⟩
      refine wa_cons ?_ rfl
      refine we_bl ?_
      refine wa_nil ?_
      refine ⟨szd (by decide : 2 < 10000000), ?_⟩
      refine fin2 (f := (nB eqM)) z6 (.tup [.lst zs9, .bl true]) (vE (u := z6)) (vE (u := .tup [.lst zs9, .bl true])) ‹_› fun b11 h => ?_
      refine ite_m ‹_› (fun h => ?_) (fun h => ?_)
      · refine wss_cons ?_
        refine ws_ret ?_
        refine we_bl ?_
        exact ⟨(.bl false), rtV_v (u := (.bl false)) rfl, h⟩
      · refine wss_nil ?_
        refine wss_nil ?_
        exact ⟨(), ⟨_, _, rfl, rfl⟩, h⟩
    · obtain ⟨y0, y1, rfl, rfl⟩ := hs
      refine wss_cons ?_
      refine ws_ret ?_
      refine we_cutM (κ := κ) h (fun Q1 h => ?_) (fun z20 h => ?_)
      · refine we_andM (κ := κ) ?_
        refine we_eqM (κ := κ) ?_
        refine we_excF (κ := κ) (c := "NoSaying") T.xf_NoSaying ?_
        refine we_name (i := 2) rfl rfl rfl ?_
        refine ⟨(.exc "NoSaying" [v_number]), rfl, fin0 (m := excF "NoSaying" (.exc "NoSaying" [v_number])) ‹_› fun z12 h => ?_⟩
        refine we_name (i := 0) rfl rfl rfl ?_
        refine fin2 (f := (vB eqM)) z12 v_number (vE (u := z12)) (vE (u := v_number)) ‹_› fun z13 h => ?_
        refine fin1 (f := boolM) z13 (vE (u := z13)) ‹_› fun b14 h => ?_
        refine ite_m ‹_› (fun h => ?_) (fun h => ?_)
        · refine we_andM (κ := κ) ?_
          refine we_eqM (κ := κ) ?_
          refine we_excF (κ := κ) (c := "NoTree") T.xf_NoTree ?_
          refine we_name (i := 3) rfl rfl rfl ?_
          refine ⟨(.exc "NoTree" [v_number]), rfl, fin0 (m := excF "NoTree" (.exc "NoTree" [v_number])) ‹_› fun z15 h => ?_⟩
          refine we_name (i := 0) rfl rfl rfl ?_
          refine fin2 (f := (vB eqM)) z15 v_number (vE (u := z15)) (vE (u := v_number)) ‹_› fun z16 h => ?_
          refine fin1 (f := boolM) z16 (vE (u := z16)) ‹_› fun b17 h => ?_
          refine ite_m ‹_› (fun h => ?_) (fun h => ?_)
          · refine we_one ?_
            refine we_eqM (κ := κ) ?_
            refine we_excF (κ := κ) (c := "HasLetter") T.xf_HasLetter ?_
            refine we_name (i := 4) rfl rfl rfl ?_
            refine ⟨(.exc "HasLetter" [z2]), rfl, fin0 (m := excF "HasLetter" (.exc "HasLetter" [z2])) ‹_› fun z18 h => ?_⟩
            refine we_name (i := 1) rfl rfl rfl ?_
            refine fin2 (f := (vB eqM)) z18 z2 (vE (u := z18)) (vE (u := z2)) ‹_› fun z19 h => ?_
            exact ⟨rfl, z19, rfl, h⟩
          · exact ⟨rfl, (.bl false), rfl, h⟩
        · exact ⟨rfl, (.bl false), rfl, h⟩
      exact rtV_v (u := z20) h

abbrev st__law_bad_place : Stmt := topS 19
abbrev N__law_bad_place : List Str := ["_law_text_here", "_law_wanted", "_law_at", "_law_want", "_law_sign"]
abbrev vs__law_bad_place : List Bool := [true, true, true, true, true]
abbrev gl__law_bad_place : List Str := ["range", "len"]
theorem sc__law_bad_place : FnScope N__law_bad_place ["_law_text_here"] (defScope st__law_bad_place) := ⟨rfl, rfl, rfl, by decide +kernel, rfl, by decide +kernel, by decide +kernel⟩
theorem gd__law_bad_place : goodC N__law_bad_place (defScope st__law_bad_place) vs__law_bad_place vs__law_bad_place gl__law_bad_place = true := by decide +kernel
@[reducible] def cx__law_bad_place (G : Gl) (k : Nat) : Pl.Ctx := G.cx N__law_bad_place (defScope st__law_bad_place) vs__law_bad_place vs__law_bad_place gl__law_bad_place k

theorem ok__law_bad_place (T : Tp G κ) : ∀ k, G.fn k "_law_bad_place" 1 (spV κ 1 (sh__law_bad_place k))
  | 0 => fn_none T.d__law_bad_place (spV_none fun us => rfl)
  | kk + 1 => by
    refine def_V T.d__law_bad_place sc__law_bad_place gd__law_bad_place fun us hl Q Eh h => ?_
    have hE : EI κ Eh (erM κ Eh) := EI.erM
    obtain ⟨v_text_here, rfl⟩ := len1 hl
    change WSs _ [some (em κ v_text_here), none, none, none, none] _ (_ :: _) _
    refine wss_cons ?_
    refine ws_set (i := 1) rfl rfl (we_o ?_) rfl
    refine wn_lst ?_
    refine wa_cons ?_ rfl
    refine we_str ?_
    refine wa_nil ?_
    refine ⟨szd (by decide : 1 < 10000000), ?_⟩
    refine wss_cons ?_
    refine ws_for [2] ?_
    refine wi_range1M (κ := κ) ⟨0, rfl⟩ T.z_range ?_
    refine we_lenM (κ := κ) ⟨1, rfl⟩ T.z_len ?_
    refine we_name (i := 0) rfl rfl rfl ?_
    refine fin1 (f := lenM) v_text_here (vE (u := v_text_here)) ‹_› fun z2 h => ?_
    refine fin1 (f := range1M) z2 (vE (u := z2)) ‹_› fun it1 h => ?_
    refine loopC_m (ρ := U) (fun (st : List U) (Γ : Pl.Env) (Λ : Cells) => ∃ (y0 : Option D) (y1 : Option D) (y2 : Option D), Γ = [some (em κ v_text_here), some (.loc 0), y0, y1, y2] ∧ Λ = [.lst (ems κ st)]) (fun c r Λ => rtV κ (fun u => u = c) r Λ) h ⟨_, _, _, rfl, rfl⟩ (fun v_wanted_3 x4 Γ Λ Q1 hs h => ?_) (fun v_wanted_22 Γ Λ hs h => ?_) (fun c r Λ hr h => rtV_imp hr h)
    · obtain ⟨y0, y1, y2, rfl, rfl⟩ := hs
      refine wg_name (i := 2) rfl rfl ?_
      refine wss_cons ?_
      refine ws_if ?_
      refine wt_eqM (κ := κ) ?_
      refine we_lenM (κ := κ) ⟨1, rfl⟩ T.z_len ?_
      refine we_name (i := 1) rfl rfl rfl ?_
      refine fin1 (f := lenM) (.lst v_wanted_3) (vL rfl) ‹_› fun z5 h => ?_
      refine we_int ?_
      refine fin2 (f := eqM) z5 (.int 0) (vE (u := z5)) (vE (u := .int 0)) ‹_› fun b6 h => ?_
      refine ite_m ‹_› (fun h => ?_) (fun h => ?_)
      · refine wss_cons ?_
        refine ws_ret ?_
        refine we_name (i := 2) rfl rfl rfl ?_
        exact ⟨x4, rtV_v (u := x4) rfl, h⟩
      · refine wss_nil ?_
        refine wss_cons ?_
        refine ws_set (i := 3) rfl rfl ?_ rfl
        refine we_popM (κ := κ) 0 ?_
        refine we_name (i := 1) rfl rfl rfl ?_
        refine ⟨rfl, finC (f := popM) v_wanted_3 rfl h fun (z7, l8) h => ?_⟩
        refine wss_cons ?_
        refine ws_set (i := 4) rfl rfl ?_ rfl
        refine we_ixM (κ := κ) ?_
        refine we_name (i := 0) rfl rfl rfl ?_
        refine we_name (i := 2) rfl rfl rfl ?_
        refine fin2 (f := ixM) v_text_here x4 (vE (u := v_text_here)) (vE (u := x4)) ‹_› fun z10 h => ?_
        refine wss_cons ?_
        refine ws_if ?_
        refine wt_neM (κ := κ) ?_
        refine we_name (i := 3) rfl rfl rfl ?_
        refine we_str ?_
        refine fin2 (f := (nB eqM)) z7 (.str "saying") (vE (u := z7)) (vE (u := .str "saying")) ‹_› fun b11 h => ?_
        refine ite_m ‹_› (fun h => ?_) (fun h => ?_)
        · refine wss_cons ?_
          refine ws_if ?_
          refine wt_ninM (κ := κ) ?_
          refine we_name (i := 4) rfl rfl rfl ?_
          refine we_name (i := 3) rfl rfl rfl ?_
          refine fin2 (f := (nB inM)) z10 z7 (vE (u := z10)) (vE (u := z7)) ‹_› fun b12 h => ?_
          refine ite_m ‹_› (fun h => ?_) (fun h => ?_)
          · refine wss_cons ?_
            refine ws_ret ?_
            refine we_name (i := 2) rfl rfl rfl ?_
            exact ⟨x4, rtV_v (u := x4) rfl, h⟩
          · refine wss_nil ?_
            refine wss_nil ?_
            refine wss_nil ?_
            exact ⟨l8, ⟨_, _, _, rfl, rfl⟩, h⟩
        · refine wss_cons ?_
          refine ws_if ?_
          refine wt_inM (κ := κ) ?_
          refine we_name (i := 4) rfl rfl rfl ?_
          refine we_str ?_
          refine fin2 (f := inM) z10 (.str "0pqr") (vE (u := z10)) (vE (u := .str "0pqr")) ‹_› fun b13 h => ?_
          refine ite_m ‹_› (fun h => ?_) (fun h => ?_)
          · refine wss_cons ?_
            refine ws_continue ?_
            exact ⟨l8, ⟨_, _, _, rfl, rfl⟩, h⟩
          · refine wss_cons ?_
            refine ws_cutC (ρ := U) (fun (st : List U) (Γ : Pl.Env) (Λ : Cells) => Γ = [some (em κ v_text_here), some (.loc 0), some (em κ x4), some (em κ z7), some (em κ z10)] ∧ Λ = [.lst (ems κ st)]) (fun c r Λ => rtV κ (fun u => u = c) r Λ) h (fun Q1 h => ?_) (fun v_wanted_21 Γ Λ hs h => ?_) (fun _ _ _ _ h => h.elim) (fun c r Λ hr h => ⟨c, hr, h⟩)
            · refine ws_if ?_
              refine wt_eqM (κ := κ) ?_
              refine we_name (i := 4) rfl rfl rfl ?_
              refine we_str ?_
              refine fin2 (f := eqM) z10 (.str "~") (vE (u := z10)) (vE (u := .str "~")) ‹_› fun b14 h => ?_
              refine ite_m ‹_› (fun h => ?_) (fun h => ?_)
              · refine wss_cons ?_
                refine ws_expr ?_
                refine we_appM (κ := κ) 0 ?_
                refine we_name (i := 1) rfl rfl rfl ?_
                refine ⟨rfl, ⟨l8, rfl⟩, ?_⟩
                refine we_str ?_
                refine finA (f := appM) l8 (.str "saying") rfl ‹_› fun l15 h => ?_
                refine wss_nil ?_
                exact ⟨l15, ⟨rfl, rfl⟩, h⟩
              · refine wss_cons ?_
                refine ws_cutC (ρ := U) (fun (st : List U) (Γ : Pl.Env) (Λ : Cells) => Γ = [some (em κ v_text_here), some (.loc 0), some (em κ x4), some (em κ z7), some (em κ z10)] ∧ Λ = [.lst (ems κ st)]) (fun c r Λ => rtV κ (fun u => u = c) r Λ) h (fun Q1 h => ?_) (fun v_wanted_20 Γ Λ hs h => ?_) (fun _ _ _ _ h => h.elim) (fun c r Λ hr h => ⟨c, hr, h⟩)
                · refine ws_if ?_
                  refine wt_eqM (κ := κ) ?_
                  refine we_name (i := 4) rfl rfl rfl ?_
                  refine we_str ?_
                  refine fin2 (f := eqM) z10 (.str "[") (vE (u := z10)) (vE (u := .str "[")) ‹_› fun b16 h => ?_
                  refine ite_m ‹_› (fun h => ?_) (fun h => ?_)
                  · refine wss_cons ?_
                    refine ws_expr ?_
                    refine we_extM (κ := κ) 0 ?_
                    refine we_name (i := 1) rfl rfl rfl ?_
                    refine ⟨rfl, ⟨l8, rfl⟩, ?_⟩
                    refine we_f ?_
                    refine wn_lst ?_
                    refine wa_cons ?_ rfl
                    refine we_str ?_
                    refine wa_cons ?_ rfl
                    refine we_str ?_
                    refine wa_nil ?_
                    refine ⟨szd (by decide : 2 < 10000000), ?_⟩
                    refine finV (f := extM) l8 (.lst ([.str "]", .str "saying"])) (vE (u := .lst ([.str "]", .str "saying"]))) rfl ‹_› fun l17 h => ?_
                    refine wss_nil ?_
                    exact ⟨l17, ⟨rfl, rfl⟩, h⟩
                  · refine wss_cons ?_
                    refine ws_if ?_
                    refine wt_eqM (κ := κ) ?_
                    refine we_name (i := 4) rfl rfl rfl ?_
                    refine we_str ?_
                    refine fin2 (f := eqM) z10 (.str "(") (vE (u := z10)) (vE (u := .str "(")) ‹_› fun b18 h => ?_
                    refine ite_m ‹_› (fun h => ?_) (fun h => ?_)
                    · refine wss_cons ?_
                      refine ws_expr ?_
                      refine we_extM (κ := κ) 0 ?_
                      refine we_name (i := 1) rfl rfl rfl ?_
                      refine ⟨rfl, ⟨l8, rfl⟩, ?_⟩
                      refine we_f ?_
                      refine wn_lst ?_
                      refine wa_cons ?_ rfl
                      refine we_str ?_
                      refine wa_cons ?_ rfl
                      refine we_str ?_
                      refine wa_cons ?_ rfl
                      refine we_str ?_
                      refine wa_cons ?_ rfl
                      refine we_str ?_
                      refine wa_nil ?_
                      refine ⟨szd (by decide : 4 < 10000000), ?_⟩
                      refine finV (f := extM) l8 (.lst ([.str ")", .str "saying", .str "&|>", .str "saying"])) (vE (u := .lst ([.str ")", .str "saying", .str "&|>", .str "saying"]))) rfl ‹_› fun l19 h => ?_
                      refine wss_nil ?_
                      refine wss_nil ?_
                      exact ⟨l19, ⟨rfl, rfl⟩, h⟩
                    · refine wss_cons ?_
                      refine ws_ret ?_
                      refine we_name (i := 2) rfl rfl rfl ?_
                      exact ⟨x4, rtV_v (u := x4) rfl, h⟩
                · obtain ⟨rfl, rfl⟩ := hs
                  refine wss_nil ?_
                  exact ⟨v_wanted_20, ⟨rfl, rfl⟩, h⟩
            · obtain ⟨rfl, rfl⟩ := hs
              refine wss_nil ?_
              refine wss_nil ?_
              refine wss_nil ?_
              exact ⟨v_wanted_21, ⟨_, _, _, rfl, rfl⟩, h⟩
    · obtain ⟨y0, y1, y2, rfl, rfl⟩ := hs
      refine wss_cons ?_
      refine ws_if ?_
      refine wt_gtM (κ := κ) ?_
      refine we_lenM (κ := κ) ⟨1, rfl⟩ T.z_len ?_
      refine we_name (i := 1) rfl rfl rfl ?_
      refine fin1 (f := lenM) (.lst v_wanted_22) (vL rfl) ‹_› fun z23 h => ?_
      refine we_int ?_
      refine fin2 (f := gtM) z23 (.int 0) (vE (u := z23)) (vE (u := .int 0)) ‹_› fun b24 h => ?_
      refine ite_m ‹_› (fun h => ?_) (fun h => ?_)
      · refine wss_cons ?_
        refine ws_ret ?_
        refine we_lenM (κ := κ) ⟨1, rfl⟩ T.z_len ?_
        refine we_name (i := 0) rfl rfl rfl ?_
        refine fin1 (f := lenM) v_text_here (vE (u := v_text_here)) ‹_› fun z25 h => ?_
        exact rtV_v (u := z25) h
      · refine wss_nil ?_
        refine wss_cons ?_
        refine ws_ret ?_
        refine we_non ?_
        exact rtV_v (u := .non) h

abbrev st_sign_at : Stmt := topS 12
abbrev N_sign_at : List Str := ["text", "at", "allowed"]
abbrev vs_sign_at : List Bool := [true, true, true]
abbrev gl_sign_at : List Str := ["len", "NoSaying"]
theorem sc_sign_at : FnScope N_sign_at ["text", "at", "allowed"] (defScope st_sign_at) := ⟨rfl, rfl, rfl, by decide +kernel, rfl, by decide +kernel, by decide +kernel⟩
theorem gd_sign_at : goodC N_sign_at (defScope st_sign_at) vs_sign_at vs_sign_at gl_sign_at = true := by decide +kernel
@[reducible] def cx_sign_at (G : Gl) (k : Nat) : Pl.Ctx := G.cx N_sign_at (defScope st_sign_at) vs_sign_at vs_sign_at gl_sign_at k

theorem ok_sign_at (T : Tp G κ) : ∀ k, G.fn k "sign_at" 3 (spV κ 3 (sh_sign_at k))
  | 0 => fn_none T.d_sign_at (spV_none fun us => rfl)
  | 1 => fn_none T.d_sign_at (spV_none fun us => rfl)
  | 2 => fn_none T.d_sign_at (spV_none fun us => rfl)
  | 3 => fn_none T.d_sign_at (spV_none fun us => rfl)
  | 4 => fn_none T.d_sign_at (spV_none fun us => rfl)
  | 5 => fn_none T.d_sign_at (spV_none fun us => rfl)
  | 6 => fn_none T.d_sign_at (spV_none fun us => rfl)
  | 7 => fn_none T.d_sign_at (spV_none fun us => rfl)
  | 8 => fn_none T.d_sign_at (spV_none fun us => rfl)
  | 9 => fn_none T.d_sign_at (spV_none fun us => rfl)
  | kk + 10 => by
    refine def_V T.d_sign_at sc_sign_at gd_sign_at fun us hl Q Eh h => ?_
    have hE : EI κ Eh (erM κ Eh) := EI.erM
    obtain ⟨v_text, v_at, v_allowed, rfl⟩ := len3 hl
    change WSs _ [some (em κ v_text), some (em κ v_at), some (em κ v_allowed)] _ (_ :: _) _
    rw [sh_sign_at] at h
    refine wss_cons ?_
    refine ws_if ?_
    refine wt_cutM ‹_› (fun Q1 h => ?_) (fun b5 h => ?_)
    · refine wt_ww (ww_or ?_)
      refine wt_eqM (κ := κ) ?_
      refine we_name (i := 1) rfl rfl rfl ?_
      refine we_lenM (κ := κ) ⟨0, rfl⟩ T.z_len ?_
      refine we_name (i := 0) rfl rfl rfl ?_
      refine fin1 (f := lenM) v_text (vE (u := v_text)) ‹_› fun z1 h => ?_
      refine fin2 (f := eqM) v_at z1 (vE (u := v_at)) (vE (u := z1)) ‹_› fun b2 h => ?_
      refine ite_m ‹_› (fun h => ?_) (fun h => ?_)
      · exact ⟨rfl, h⟩
      · refine ww_or1 ?_
        refine wt_ninM (κ := κ) ?_
        refine we_ixM (κ := κ) ?_
        refine we_name (i := 0) rfl rfl rfl ?_
        refine we_name (i := 1) rfl rfl rfl ?_
        refine fin2 (f := ixM) v_text v_at (vE (u := v_text)) (vE (u := v_at)) ‹_› fun z3 h => ?_
        refine we_name (i := 2) rfl rfl rfl ?_
        refine fin2 (f := (nB inM)) z3 v_allowed (vE (u := z3)) (vE (u := v_allowed)) ‹_› fun b4 h => ?_
        exact ⟨rfl, h⟩
    refine ite_m ‹_› (fun h => ?_) (fun h => ?_)
    · refine wss_cons ?_
      refine ws_raiseM2 ⟨1, rfl⟩ (T.y_NoSaying 0) (by show _ ≤ kk + 9; omega) ?_
      refine we_name (i := 1) rfl rfl rfl ?_
      exact errC (EI.at hE) h
    · refine wss_nil ?_
      refine wss_cons ?_
      refine ws_ret ?_
      refine we_ixM (κ := κ) ?_
      refine we_name (i := 0) rfl rfl rfl ?_
      refine we_name (i := 1) rfl rfl rfl ?_
      refine fin2 (f := ixM) v_text v_at (vE (u := v_text)) (vE (u := v_at)) ‹_› fun z6 h => ?_
      exact rtV_v (u := z6) h

abbrev st_read_from : Stmt := topS 13
abbrev N_read_from : List Str := ["text", "at", "sign", "part", "past", "one", "middle", "word", "other"]
abbrev vs_read_from : List Bool := [true, true, true, true, true, true, true, true, true]
abbrev gl_read_from : List Str := ["sign_at", "read_from", "WORDS"]
theorem sc_read_from : FnScope N_read_from ["text", "at"] (defScope st_read_from) := ⟨rfl, rfl, rfl, by decide +kernel, rfl, by decide +kernel, by decide +kernel⟩
theorem gd_read_from : goodC N_read_from (defScope st_read_from) vs_read_from vs_read_from gl_read_from = true := by decide +kernel
@[reducible] def cx_read_from (G : Gl) (k : Nat) : Pl.Ctx := G.cx N_read_from (defScope st_read_from) vs_read_from vs_read_from gl_read_from k

theorem ok_read_from (T : Tp G κ) : ∀ k, G.fn k "read_from" 2 (spV κ 2 (sh_read_from k))
  | 0 => fn_none T.d_read_from (spV_none fun us => rfl)
  | kk + 1 => by
    have h_sign_at := ok_sign_at T kk
    have h_read_from := ok_read_from T kk
    refine def_V T.d_read_from sc_read_from gd_read_from fun us hl Q Eh h => ?_
    have hE : EI κ Eh (erM κ Eh) := EI.erM
    obtain ⟨v_text, v_at, rfl⟩ := len2 hl
    change WSs _ [some (em κ v_text), some (em κ v_at), none, none, none, none, none, none, none] _ (_ :: _) _
    refine wss_cons ?_
    refine ws_set (i := 2) rfl rfl ?_ rfl
    refine we_callV (κ := κ) h_sign_at (Nat.le_refl _) ⟨0, rfl⟩ ?_
    refine wa_cons ?_ rfl
    refine we_name (i := 0) rfl rfl rfl ?_
    refine wa_cons ?_ rfl
    refine we_name (i := 1) rfl rfl rfl ?_
    refine wa_cons ?_ rfl
    refine we_str ?_
    refine wa_nil ?_
    refine finF (Γ := _) [v_text, v_at, .str "0pqr~[("] rfl rfl hE ‹_› fun z1 h => ?_
    refine wss_cons ?_
    refine ws_if ?_
    refine wt_eqM (κ := κ) ?_
    refine we_name (i := 2) rfl rfl rfl ?_
    refine we_str ?_
    refine fin2 (f := eqM) z1 (.str "0") (vE (u := z1)) (vE (u := .str "0")) ‹_› fun b2 h => ?_
    refine ite_m ‹_› (fun h => ?_) (fun h => ?_)
    · refine wss_cons ?_
      refine ws_ret ?_
      refine we_tup ?_
      refine wa_cons ?_ rfl
      refine we_tup ?_
      refine wa_cons ?_ rfl
      refine we_str ?_
      refine wa_nil ?_
      refine ⟨szd (by decide : 1 < 10000000), ?_⟩
      refine wa_cons ?_ rfl
      refine we_addM (κ := κ) ?_
      refine we_name (i := 1) rfl rfl rfl ?_
      refine we_int ?_
      refine fin2 (f := addM) v_at (.int 1) (vE (u := v_at)) (vE (u := .int 1)) ‹_› fun z3 h => ?_
      refine wa_nil ?_
      refine ⟨szd (by decide : 2 < 10000000), ?_⟩
      exact rtV_v (u := (.tup [.tup [.str "no"], z3])) h
    · refine wss_nil ?_
      refine wss_cons ?_
      refine ws_if ?_
      refine wt_eqM (κ := κ) ?_
      refine we_name (i := 2) rfl rfl rfl ?_
      refine we_str ?_
      refine fin2 (f := eqM) z1 (.str "~") (vE (u := z1)) (vE (u := .str "~")) ‹_› fun b4 h => ?_
      refine ite_m ‹_› (fun h => ?_) (fun h => ?_)
      · refine wss_cons ?_
        refine ws_sett [3, 4] ?_ rfl rfl
        refine we_callV (κ := κ) h_read_from (Nat.le_refl _) ⟨1, rfl⟩ ?_
        refine wa_cons ?_ rfl
        refine we_name (i := 0) rfl rfl rfl ?_
        refine wa_cons ?_ rfl
        refine we_addM (κ := κ) ?_
        refine we_name (i := 1) rfl rfl rfl ?_
        refine we_int ?_
        refine fin2 (f := addM) v_at (.int 1) (vE (u := v_at)) (vE (u := .int 1)) ‹_› fun z5 h => ?_
        refine wa_nil ?_
        refine finF (Γ := _) [v_text, z5] rfl rfl hE ‹_› fun z6 h => ?_
        refine tg2 z6 ‹_› fun v_part_7 v_past_8 h => ?_
        refine wg_tup ?_ rfl
        refine wgs_cons1 ?_ rfl
        refine wg_name (i := 3) rfl rfl ?_
        refine wgs_cons1 ?_ rfl
        refine wg_name (i := 4) rfl rfl ?_
        refine wgs_nil ?_
        refine wss_cons ?_
        refine ws_ret ?_
        refine we_tup ?_
        refine wa_cons ?_ rfl
        refine we_tup ?_
        refine wa_cons ?_ rfl
        refine we_str ?_
        refine wa_cons ?_ rfl
        refine we_name (i := 3) rfl rfl rfl ?_
        refine wa_nil ?_
        refine ⟨szd (by decide : 2 < 10000000), ?_⟩
        refine wa_cons ?_ rfl
        refine we_name (i := 4) rfl rfl rfl ?_
        refine wa_nil ?_
        refine ⟨szd (by decide : 2 < 10000000), ?_⟩
        exact rtV_v (u := (.tup [.tup [.str "not", v_part_7], v_past_8])) h
      · refine wss_nil ?_
        refine wss_cons ?_
        refine ws_if ?_
        refine wt_eqM (κ := κ) ?_
        refine we_name (i := 2) rfl rfl rfl ?_
        refine we_str ?_
        refine fin2 (f := eqM) z1 (.str "[") (vE (u := z1)) (vE (u := .str "[")) ‹_› fun b9 h => ?_
        refine ite_m ‹_› (fun h => ?_) (fun h => ?_)
        · refine wss_cons ?_
          refine ws_sett [3, 4] ?_ rfl rfl
          refine we_callV (κ := κ) h_read_from (Nat.le_refl _) ⟨1, rfl⟩ ?_
          refine wa_cons ?_ rfl
          refine we_name (i := 0) rfl rfl rfl ?_
          refine wa_cons ?_ rfl
          refine we_addM (κ := κ) ?_
          refine we_name (i := 1) rfl rfl rfl ?_
          refine we_int ?_
          refine fin2 (f := addM) v_at (.int 1) (vE (u := v_at)) (vE (u := .int 1)) ‹_› fun z10 h => ?_
          refine wa_nil ?_
          refine finF (Γ := _) [v_text, z10] rfl rfl hE ‹_› fun z11 h => ?_
          refine tg2 z11 ‹_› fun v_part_12 v_past_13 h => ?_
          refine wg_tup ?_ rfl
          refine wgs_cons1 ?_ rfl
          refine wg_name (i := 3) rfl rfl ?_
          refine wgs_cons1 ?_ rfl
          refine wg_name (i := 4) rfl rfl ?_
          refine wgs_nil ?_
          refine wss_cons ?_
          refine ws_expr ?_
          refine we_callV (κ := κ) h_sign_at (Nat.le_refl _) ⟨0, rfl⟩ ?_
          refine wa_cons ?_ rfl
          refine we_name (i := 0) rfl rfl rfl ?_
          refine wa_cons ?_ rfl
          refine we_name (i := 4) rfl rfl rfl ?_
          refine wa_cons ?_ rfl
          refine we_str ?_
          refine wa_nil ?_
          refine finF (Γ := _) [v_text, v_past_13, .str "]"] rfl rfl hE ‹_› fun z14 h => ?_
          refine wss_cons ?_
          refine ws_ret ?_
          refine we_tup ?_
          refine wa_cons ?_ rfl
          refine we_tup ?_
          refine wa_cons ?_ rfl
          refine we_str ?_
          refine wa_cons ?_ rfl
          refine we_name (i := 3) rfl rfl rfl ?_
          refine wa_nil ?_
          refine ⟨szd (by decide : 2 < 10000000), ?_⟩
          refine wa_cons ?_ rfl
          refine we_addM (κ := κ) ?_
          refine we_name (i := 4) rfl rfl rfl ?_
          refine we_int ?_
          refine fin2 (f := addM) v_past_13 (.int 1) (vE (u := v_past_13)) (vE (u := .int 1)) ‹_› fun z15 h => ?_
          refine wa_nil ?_
          refine ⟨szd (by decide : 2 < 10000000), ?_⟩
          exact rtV_v (u := (.tup [.tup [.str "shown", v_part_12], z15])) h
        · refine wss_nil ?_
          refine wss_cons ?_
          refine ws_if ?_
          refine wt_neM (κ := κ) ?_
          refine we_name (i := 2) rfl rfl rfl ?_
          refine we_str ?_
          refine fin2 (f := (nB eqM)) z1 (.str "(") (vE (u := z1)) (vE (u := .str "(")) ‹_› fun b16 h => ?_
          refine ite_m ‹_› (fun h => ?_) (fun h => ?_)
          · refine wss_cons ?_
            refine ws_ret ?_
            refine we_tup ?_
            refine wa_cons ?_ rfl
            refine we_tup ?_
            refine wa_cons ?_ rfl
            refine we_str ?_
            refine wa_cons ?_ rfl
            refine we_name (i := 2) rfl rfl rfl ?_
            refine wa_nil ?_
            refine ⟨szd (by decide : 2 < 10000000), ?_⟩
            refine wa_cons ?_ rfl
            refine we_addM (κ := κ) ?_
            refine we_name (i := 1) rfl rfl rfl ?_
            refine we_int ?_
            refine fin2 (f := addM) v_at (.int 1) (vE (u := v_at)) (vE (u := .int 1)) ‹_› fun z17 h => ?_
            refine wa_nil ?_
            refine ⟨szd (by decide : 2 < 10000000), ?_⟩
            exact rtV_v (u := (.tup [.tup [.str "letter", z1], z17])) h
          · refine wss_nil ?_
            refine wss_cons ?_
            refine ws_sett [5, 6] ?_ rfl rfl
            refine we_callV (κ := κ) h_read_from (Nat.le_refl _) ⟨1, rfl⟩ ?_
            refine wa_cons ?_ rfl
            refine we_name (i := 0) rfl rfl rfl ?_
            refine wa_cons ?_ rfl
            refine we_addM (κ := κ) ?_
            refine we_name (i := 1) rfl rfl rfl ?_
            refine we_int ?_
            refine fin2 (f := addM) v_at (.int 1) (vE (u := v_at)) (vE (u := .int 1)) ‹_› fun z18 h => ?_
            refine wa_nil ?_
            refine finF (Γ := _) [v_text, z18] rfl rfl hE ‹_› fun z19 h => ?_
            refine tg2 z19 ‹_› fun v_one_20 v_middle_21 h => ?_
            refine wg_tup ?_ rfl
            refine wgs_cons1 ?_ rfl
            refine wg_name (i := 5) rfl rfl ?_
            refine wgs_cons1 ?_ rfl
            refine wg_name (i := 6) rfl rfl ?_
            refine wgs_nil ?_
            refine wss_cons ?_
            refine ws_set (i := 7) rfl rfl ?_ rfl
            refine we_gdicK (κ := κ) T.c_WORDS ⟨2, rfl⟩ ?_
            refine we_callV (κ := κ) h_sign_at (Nat.le_refl _) ⟨0, rfl⟩ ?_
            refine wa_cons ?_ rfl
            refine we_name (i := 0) rfl rfl rfl ?_
            refine wa_cons ?_ rfl
            refine we_name (i := 6) rfl rfl rfl ?_
            refine wa_cons ?_ rfl
            refine we_str ?_
            refine wa_nil ?_
            refine finF (Γ := _) [v_text, v_middle_21, .str "&|>"] rfl rfl hE ‹_› fun z22 h => ?_
            refine ⟨z22, rfl, fin0 (m := dicM dc_WORDS z22) ‹_› fun z23 h => ?_⟩
            refine wss_cons ?_
            refine ws_sett [8, 4] ?_ rfl rfl
            refine we_callV (κ := κ) h_read_from (Nat.le_refl _) ⟨1, rfl⟩ ?_
            refine wa_cons ?_ rfl
            refine we_name (i := 0) rfl rfl rfl ?_
            refine wa_cons ?_ rfl
            refine we_addM (κ := κ) ?_
            refine we_name (i := 6) rfl rfl rfl ?_
            refine we_int ?_
            refine fin2 (f := addM) v_middle_21 (.int 1) (vE (u := v_middle_21)) (vE (u := .int 1)) ‹_› fun z24 h => ?_
            refine wa_nil ?_
            refine finF (Γ := _) [v_text, z24] rfl rfl hE ‹_› fun z25 h => ?_
            refine tg2 z25 ‹_› fun v_other_26 v_past_27 h => ?_
            refine wg_tup ?_ rfl
            refine wgs_cons1 ?_ rfl
            refine wg_name (i := 8) rfl rfl ?_
            refine wgs_cons1 ?_ rfl
            refine wg_name (i := 4) rfl rfl ?_
            refine wgs_nil ?_
            refine wss_cons ?_
            refine ws_expr ?_
            refine we_callV (κ := κ) h_sign_at (Nat.le_refl _) ⟨0, rfl⟩ ?_
            refine wa_cons ?_ rfl
            refine we_name (i := 0) rfl rfl rfl ?_
            refine wa_cons ?_ rfl
            refine we_name (i := 4) rfl rfl rfl ?_
            refine wa_cons ?_ rfl
            refine we_str ?_
            refine wa_nil ?_
            refine finF (Γ := _) [v_text, v_past_27, .str ")"] rfl rfl hE ‹_› fun z28 h => ?_
            refine wss_cons ?_
            refine ws_ret ?_
            refine we_tup ?_
            refine wa_cons ?_ rfl
            refine we_tup ?_
            refine wa_cons ?_ rfl
            refine we_name (i := 7) rfl rfl rfl ?_
            refine wa_cons ?_ rfl
            refine we_name (i := 5) rfl rfl rfl ?_
            refine wa_cons ?_ rfl
            refine we_name (i := 8) rfl rfl rfl ?_
            refine wa_nil ?_
            refine ⟨szd (by decide : 3 < 10000000), ?_⟩
            refine wa_cons ?_ rfl
            refine we_addM (κ := κ) ?_
            refine we_name (i := 4) rfl rfl rfl ?_
            refine we_int ?_
            refine fin2 (f := addM) v_past_27 (.int 1) (vE (u := v_past_27)) (vE (u := .int 1)) ‹_› fun z29 h => ?_
            refine wa_nil ?_
            refine ⟨szd (by decide : 2 < 10000000), ?_⟩
            exact rtV_v (u := (.tup [.tup [z23, v_one_20, v_other_26], z29])) h

abbrev st_read : Stmt := topS 14
abbrev N_read : List Str := ["text", "saying", "past"]
abbrev vs_read : List Bool := [true, true, true]
abbrev gl_read : List Str := ["read_from", "len", "NoSaying"]
theorem sc_read : FnScope N_read ["text"] (defScope st_read) := ⟨rfl, rfl, rfl, by decide +kernel, rfl, by decide +kernel, by decide +kernel⟩
theorem gd_read : goodC N_read (defScope st_read) vs_read vs_read gl_read = true := by decide +kernel
@[reducible] def cx_read (G : Gl) (k : Nat) : Pl.Ctx := G.cx N_read (defScope st_read) vs_read vs_read gl_read k

theorem ok_read (T : Tp G κ) : ∀ k, G.fn k "read" 1 (spV κ 1 (sh_read k))
  | 0 => fn_none T.d_read (spV_none fun us => rfl)
  | 1 => fn_none T.d_read (spV_none fun us => rfl)
  | 2 => fn_none T.d_read (spV_none fun us => rfl)
  | 3 => fn_none T.d_read (spV_none fun us => rfl)
  | 4 => fn_none T.d_read (spV_none fun us => rfl)
  | 5 => fn_none T.d_read (spV_none fun us => rfl)
  | 6 => fn_none T.d_read (spV_none fun us => rfl)
  | 7 => fn_none T.d_read (spV_none fun us => rfl)
  | 8 => fn_none T.d_read (spV_none fun us => rfl)
  | 9 => fn_none T.d_read (spV_none fun us => rfl)
  | kk + 10 => by
    have h_read_from := ok_read_from T (kk + 9)
    refine def_V T.d_read sc_read gd_read fun us hl Q Eh h => ?_
    have hE : EI κ Eh (erM κ Eh) := EI.erM
    obtain ⟨v_text, rfl⟩ := len1 hl
    change WSs _ [some (em κ v_text), none, none] _ (_ :: _) _
    refine wss_cons ?_
    refine ws_sett [1, 2] ?_ rfl rfl
    refine we_callV (κ := κ) h_read_from (Nat.le_refl _) ⟨0, rfl⟩ ?_
    refine wa_cons ?_ rfl
    refine we_name (i := 0) rfl rfl rfl ?_
    refine wa_cons ?_ rfl
    refine we_int ?_
    refine wa_nil ?_
    refine finF (Γ := _) [v_text, .int 0] rfl rfl hE ‹_› fun z1 h => ?_
    refine tg2 z1 ‹_› fun v_saying_2 v_past_3 h => ?_
    refine wg_tup ?_ rfl
    refine wgs_cons1 ?_ rfl
    refine wg_name (i := 1) rfl rfl ?_
    refine wgs_cons1 ?_ rfl
    refine wg_name (i := 2) rfl rfl ?_
    refine wgs_nil ?_
    refine wss_cons ?_
    refine ws_if ?_
    refine wt_ltM (κ := κ) ?_
    refine we_name (i := 2) rfl rfl rfl ?_
    refine we_lenM (κ := κ) ⟨1, rfl⟩ T.z_len ?_
    refine we_name (i := 0) rfl rfl rfl ?_
    refine fin1 (f := lenM) v_text (vE (u := v_text)) ‹_› fun z4 h => ?_
    refine fin2 (f := ltM) v_past_3 z4 (vE (u := v_past_3)) (vE (u := z4)) ‹_› fun b5 h => ?_
    refine ite_m ‹_› (fun h => ?_) (fun h => ?_)
    · refine wss_cons ?_
      refine ws_raiseM2 ⟨2, rfl⟩ (T.y_NoSaying 0) (by show _ ≤ kk + 9; omega) ?_
      refine we_name (i := 2) rfl rfl rfl ?_
      exact errC (EI.at hE) h
    · refine wss_nil ?_
      refine wss_cons ?_
      refine ws_ret ?_
      refine we_name (i := 1) rfl rfl rfl ?_
      exact rtV_v (u := v_saying_2) h

abbrev st__law_kinds : Stmt := topS 22
abbrev N__law_kinds : List Str := ["_law_e"]
abbrev vs__law_kinds : List Bool := [true]
abbrev gl__law_kinds : List Str := ["_law_told"]
theorem sc__law_kinds : FnScope N__law_kinds ["_law_e"] (defScope st__law_kinds) := ⟨rfl, rfl, rfl, by decide +kernel, rfl, by decide +kernel, by decide +kernel⟩
theorem gd__law_kinds : goodC N__law_kinds (defScope st__law_kinds) vs__law_kinds vs__law_kinds gl__law_kinds = true := by decide +kernel
@[reducible] def cx__law_kinds (G : Gl) (k : Nat) : Pl.Ctx := G.cx N__law_kinds (defScope st__law_kinds) vs__law_kinds vs__law_kinds gl__law_kinds k

theorem ok__law_kinds (T : Tp G κ) : ∀ k, G.fn k "_law_kinds" 1 (spV κ 1 (sh__law_kinds k))
  | 0 => fn_none T.d__law_kinds (spV_none fun us => rfl)
  | kk + 1 => by
    have h__law_told := ok__law_told T kk
    refine def_V T.d__law_kinds sc__law_kinds gd__law_kinds fun us hl Q Eh h => ?_
    have hE : EI κ Eh (erM κ Eh) := EI.erM
    obtain ⟨v_e, rfl⟩ := len1 hl
    change WSs _ [some (em κ v_e)] _ (_ :: _) _
    refine wss_cons ?_
    refine ws_ret ?_
    refine we_eqM (κ := κ) ?_
    refine we_callV (κ := κ) h__law_told (Nat.le_refl _) ⟨0, rfl⟩ ?_
    refine wa_cons ?_ rfl
    refine we_name (i := 0) rfl rfl rfl ?_
    refine wa_nil ?_
    refine finF (Γ := _) [v_e] rfl rfl hE ‹_› fun z1 h => ?_
    refine we_tup ?_
    refine wa_cons ?_ rfl
    refine we_f ?_
    refine wn_lst ?_
    refine wa_cons ?_ rfl
    refine we_bl ?_
    refine wa_cons ?_ rfl
    refine we_bl ?_
    refine wa_cons ?_ rfl
    refine we_bl ?_
    refine wa_cons ?_ rfl
    refine we_bl ?_
    refine wa_cons ?_ rfl
    refine we_bl ?_
    refine wa_cons ?_ rfl
    refine we_bl ?_
    refine wa_cons ?_ rfl
    refine we_bl ?_
    refine wa_cons ?_ rfl
    refine we_bl ?_
    refine wa_nil ?_
    refine ⟨szd (by decide : 8 < 10000000), ?_⟩
    refine wa_cons ?_ rfl
    refine we_bl ?_
    refine wa_nil ?_
    refine ⟨szd (by decide : 2 < 10000000), ?_⟩
    refine fin2 (f := (vB eqM)) z1 (.tup [.lst [.bl true, .bl false, .bl false, .bl false, .bl false, .bl false, .bl false, .bl false], .bl true]) (vE (u := z1)) (vE (u := .tup [.lst [.bl true, .bl false, .bl false, .bl false, .bl false, .bl false, .bl false, .bl false], .bl true])) ‹_› fun z2 h => ?_
    exact rtV_v (u := z2) h

abbrev st__law_asked : Stmt := topS 24
abbrev N__law_asked : List Str := ["_law_text_here", "_law_due", "_law_caught", "_law_found", "_law_e"]
abbrev vs__law_asked : List Bool := [true, true, true, true, true]
abbrev gl__law_asked : List Str := ["_law_bad_place", "read", "SayError", "_law_text", "_law_kinds", "isinstance", "int", "bool"]
theorem sc__law_asked : FnScope N__law_asked ["_law_text_here"] (defScope st__law_asked) := ⟨rfl, rfl, rfl, by decide +kernel, rfl, by decide +kernel, by decide +kernel⟩
theorem gd__law_asked : goodC N__law_asked (defScope st__law_asked) vs__law_asked vs__law_asked gl__law_asked = true := by decide +kernel
@[reducible] def cx__law_asked (G : Gl) (k : Nat) : Pl.Ctx := G.cx N__law_asked (defScope st__law_asked) vs__law_asked vs__law_asked gl__law_asked k

theorem ok__law_asked (T : Tp G κ) : ∀ k, G.fn k "_law_asked" 1 (spV κ 1 (sh__law_asked k))
  | 0 => fn_none T.d__law_asked (spV_none fun us => rfl)
  | kk + 1 => by
    have h__law_bad_place := ok__law_bad_place T kk
    have h_read := ok_read T kk
    have h__law_text := ok__law_text T kk
    have h__law_kinds := ok__law_kinds T kk
    refine def_V T.d__law_asked sc__law_asked gd__law_asked fun us hl Q Eh h => ?_
    have hE : EI κ Eh (erM κ Eh) := EI.erM
    obtain ⟨v_text_here, rfl⟩ := len1 hl
    change WSs _ [some (em κ v_text_here), none, none, none, none] _ (_ :: _) _
    refine wss_cons ?_
    refine ws_set (i := 1) rfl rfl ?_ rfl
    refine we_callV (κ := κ) h__law_bad_place (Nat.le_refl _) ⟨0, rfl⟩ ?_
    refine wa_cons ?_ rfl
    refine we_name (i := 0) rfl rfl rfl ?_
    refine wa_nil ?_
    refine finF (Γ := _) [v_text_here] rfl rfl hE ‹_› fun z1 h => ?_
    refine wss_cons ?_
    refine ws_set (i := 2) rfl rfl ?_ rfl
    refine we_non ?_
    refine wss_cons ?_
    refine ws_set (i := 3) rfl rfl ?_ rfl
    refine we_non ?_
    refine wss_cons ?_
    refine ws_tryK 4 2 (fun (st : U) (Γ : Pl.Env) (Λ : Cells) => ∃ (y0 : Option D), Γ = [some (em κ v_text_here), some (em κ z1), some (em κ .non), some (em κ st), y0] ∧ Λ = []) [("NoSaying", 1), ("NoTree", 1), ("HasLetter", 1), ("TooMany", 0), ("NoRule", 0), ("Outside", 0), ("NoLine", 0), ("Nothing", 0)] rfl rfl rfl rfl rfl (by decide) ⟨2, rfl⟩ T.g_SayError T.xt_SayError h (fun Q1 E1 h hE => ?_) (fun v_found_3 Γ Λ hs h => ?_) (fun ec24 eu25 h => ?_)
    · refine wss_cons ?_
      refine ws_set (i := 3) rfl rfl ?_ rfl
      refine we_callV (κ := κ) h_read (Nat.le_refl _) ⟨1, rfl⟩ ?_
      refine wa_cons ?_ rfl
      refine we_name (i := 0) rfl rfl rfl ?_
      refine wa_nil ?_
      refine finFt [v_text_here] rfl rfl hE ‹_› fun z2 h => ?_
      refine wss_nil ?_
      exact ⟨z2, ⟨_, rfl, rfl⟩, h⟩
    · obtain ⟨y0, rfl, rfl⟩ := hs
      refine wss_cons ?_
      refine ws_if ?_
      refine wt_isM (κ := κ) ?_
      refine we_name (i := 1) rfl rfl rfl ?_
      refine we_non ?_
      refine fin2 (f := isM) z1 .non (vE (u := z1)) (vE (u := .non)) ‹_› fun b4 h => ?_
      refine ite_m ‹_› (fun h => ?_) (fun h => ?_)
      · refine wss_cons ?_
        refine ws_ret ?_
        refine we_cutM (κ := κ) h (fun Q1 h => ?_) (fun z9 h => ?_)
        · refine we_andM (κ := κ) ?_
          refine we_isM (κ := κ) ?_
          refine we_name (i := 2) rfl rfl rfl ?_
          refine we_non ?_
          refine fin2 (f := (vB isM)) .non .non (vE (u := .non)) (vE (u := .non)) ‹_› fun z5 h => ?_
          refine fin1 (f := boolM) z5 (vE (u := z5)) ‹_› fun b6 h => ?_
          refine ite_m ‹_› (fun h => ?_) (fun h => ?_)
          · refine we_one ?_
            refine we_eqM (κ := κ) ?_
            refine we_callV (κ := κ) h__law_text (Nat.le_refl _) ⟨3, rfl⟩ ?_
            refine wa_cons ?_ rfl
            refine we_name (i := 3) rfl rfl rfl ?_
            refine wa_nil ?_
            refine finF (Γ := _) [v_found_3] rfl rfl hE ‹_› fun z7 h => ?_
            refine we_name (i := 0) rfl rfl rfl ?_
            refine fin2 (f := (vB eqM)) z7 v_text_here (vE (u := z7)) (vE (u := v_text_here)) ‹_› fun z8 h => ?_
            exact ⟨rfl, z8, rfl, h⟩
          · exact ⟨rfl, (.bl false), rfl, h⟩
        exact rtV_v (u := z9) h
      · refine wss_nil ?_
        refine wss_cons ?_
        refine ws_if ?_
        refine wt_cutM ‹_› (fun Q1 h => ?_) (fun b13 h => ?_)
        · refine wt_ww (ww_or ?_)
          refine wt_isM (κ := κ) ?_
          refine we_name (i := 2) rfl rfl rfl ?_
          refine we_non ?_
          refine fin2 (f := isM) .non .non (vE (u := .non)) (vE (u := .non)) ‹_› fun b10 h => ?_
          refine ite_m ‹_› (fun h => ?_) (fun h => ?_)
          · exact ⟨rfl, h⟩
          · refine ww_or1 ?_
            refine wt_not ?_
            refine wt_valM (κ := κ) ?_
            refine we_callV (κ := κ) h__law_kinds (Nat.le_refl _) ⟨4, rfl⟩ ?_
            refine wa_cons ?_ rfl
            refine we_name (i := 2) rfl rfl rfl ?_
            refine wa_nil ?_
            refine finF (Γ := _) [.non] rfl rfl hE ‹_› fun z11 h => ?_
            refine fin1 (f := boolM) z11 (vE (u := z11)) ‹_› fun b12 h => ?_
            exact ⟨rfl, h⟩
        refine ite_m ‹_› (fun h => ?_) (fun h => ?_)
        · refine wss_cons ?_
          refine ws_ret ?_
          refine we_bl ?_
          exact rtV_v (u := (.bl false)) h
        · refine wss_nil ?_
          refine wss_cons ?_
          refine ws_ret ?_
          refine we_cutM (κ := κ) h (fun Q1 h => ?_) (fun z23 h => ?_)
          · refine we_andM (κ := κ) ?_
            refine we_isiM (κ := κ) ⟨5, rfl⟩ T.z_isinstance ⟨6, rfl⟩ T.z_int boot_int' ?_
            refine we_excF (κ := κ) (c := "NoSaying") T.xf_NoSaying ?_
            refine we_name (i := 2) rfl rfl rfl ?_
            refine ⟨.non, rfl, fin0 (m := excF "NoSaying" .non) ‹_› fun z14 h => ?_⟩
            refine fin1 (f := fun u => isiM u "int") z14 (vE (u := z14)) ‹_› fun z15 h => ?_
            refine fin1 (f := boolM) z15 (vE (u := z15)) ‹_› fun b16 h => ?_
            refine ite_m ‹_› (fun h => ?_) (fun h => ?_)
            · refine we_andM (κ := κ) ?_
              refine we_notM (κ := κ) ?_
              refine we_isiM (κ := κ) ⟨5, rfl⟩ T.z_isinstance ⟨7, rfl⟩ T.z_bool boot_bool' ?_
              refine we_excF (κ := κ) (c := "NoSaying") T.xf_NoSaying ?_
              refine we_name (i := 2) rfl rfl rfl ?_
              refine ⟨.non, rfl, fin0 (m := excF "NoSaying" .non) ‹_› fun z17 h => ?_⟩
              refine fin1 (f := fun u => isiM u "bool") z17 (vE (u := z17)) ‹_› fun z18 h => ?_
              refine fin1 (f := boolM) z18 (vE (u := z18)) ‹_› fun z19 h => ?_
              refine fin1 (f := boolM) (.bl (!z19)) (vE (u := .bl (!z19))) ‹_› fun b20 h => ?_
              refine ite_m ‹_› (fun h => ?_) (fun h => ?_)
              · refine we_one ?_
                refine we_eqM (κ := κ) ?_
                refine we_excF (κ := κ) (c := "NoSaying") T.xf_NoSaying ?_
                refine we_name (i := 2) rfl rfl rfl ?_
                refine ⟨.non, rfl, fin0 (m := excF "NoSaying" .non) ‹_› fun z21 h => ?_⟩
                refine we_name (i := 1) rfl rfl rfl ?_
                refine fin2 (f := (vB eqM)) z21 z1 (vE (u := z21)) (vE (u := z1)) ‹_› fun z22 h => ?_
                exact ⟨rfl, z22, rfl, h⟩
              · exact ⟨rfl, (.bl false), rfl, h⟩
            · exact ⟨rfl, (.bl false), rfl, h⟩
          exact rtV_v (u := z23) h
    · refine wss_cons ?_
      refine ws_if ?_
      refine wt_isM (κ := κ) ?_
      refine we_name (i := 1) rfl rfl rfl ?_
      refine we_non ?_
      refine fin2 (f := isM) z1 .non (vE (u := z1)) (vE (u := .non)) ‹_› fun b26 h => ?_
      refine ite_m ‹_› (fun h => ?_) (fun h => ?_)
      · refine wss_cons ?_
        refine ws_ret ?_
        refine we_cutM (κ := κ) h (fun Q1 h => ?_) (fun z31 h => ?_)
        · refine we_andM (κ := κ) ?_
          refine we_isM (κ := κ) ?_
          refine we_name (i := 2) rfl rfl rfl ?_
          refine we_non ?_
          refine fin2 (f := (vB isM)) (.exc ec24 eu25) .non (vE (u := .exc ec24 eu25)) (vE (u := .non)) ‹_› fun z27 h => ?_
          refine fin1 (f := boolM) z27 (vE (u := z27)) ‹_› fun b28 h => ?_
          refine ite_m ‹_› (fun h => ?_) (fun h => ?_)
          · refine we_one ?_
            refine we_eqM (κ := κ) ?_
            refine we_callV (κ := κ) h__law_text (Nat.le_refl _) ⟨3, rfl⟩ ?_
            refine wa_cons ?_ rfl
            refine we_name (i := 3) rfl rfl rfl ?_
            refine wa_nil ?_
            refine finF (Γ := _) [.non] rfl rfl hE ‹_› fun z29 h => ?_
            refine we_name (i := 0) rfl rfl rfl ?_
            refine fin2 (f := (vB eqM)) z29 v_text_here (vE (u := z29)) (vE (u := v_text_here)) ‹_› fun z30 h => ?_
            exact ⟨rfl, z30, rfl, h⟩
          · exact ⟨rfl, (.bl false), rfl, h⟩
        exact rtV_v (u := z31) h
      · refine wss_nil ?_
        refine wss_cons ?_
        refine ws_if ?_
        refine wt_cutM ‹_› (fun Q1 h => ?_) (fun b35 h => ?_)
        · refine wt_ww (ww_or ?_)
          refine wt_isM (κ := κ) ?_
          refine we_name (i := 2) rfl rfl rfl ?_
          refine we_non ?_
          refine fin2 (f := isM) (.exc ec24 eu25) .non (vE (u := .exc ec24 eu25)) (vE (u := .non)) ‹_› fun b32 h => ?_
          refine ite_m ‹_› (fun h => ?_) (fun h => ?_)
          · exact ⟨rfl, h⟩
          · refine ww_or1 ?_
            refine wt_not ?_
            refine wt_valM (κ := κ) ?_
            refine we_callV (κ := κ) h__law_kinds (Nat.le_refl _) ⟨4, rfl⟩ ?_
            refine wa_cons ?_ rfl
            refine we_name (i := 2) rfl rfl rfl ?_
            refine wa_nil ?_
            refine finF (Γ := _) [.exc ec24 eu25] rfl rfl hE ‹_› fun z33 h => ?_
            refine fin1 (f := boolM) z33 (vE (u := z33)) ‹_› fun b34 h => ?_
            exact ⟨rfl, h⟩
        refine ite_m ‹_› (fun h => ?_) (fun h => ?_)
        · refine wss_cons ?_
          refine ws_ret ?_
          refine we_bl ?_
          exact rtV_v (u := (.bl false)) h
        · refine wss_nil ?_
          refine wss_cons ?_
          refine ws_ret ?_
          refine we_cutM (κ := κ) h (fun Q1 h => ?_) (fun z45 h => ?_)
          · refine we_andM (κ := κ) ?_
            refine we_isiM (κ := κ) ⟨5, rfl⟩ T.z_isinstance ⟨6, rfl⟩ T.z_int boot_int' ?_
            refine we_excF (κ := κ) (c := "NoSaying") T.xf_NoSaying ?_
            refine we_name (i := 2) rfl rfl rfl ?_
            refine ⟨(.exc ec24 eu25), rfl, fin0 (m := excF "NoSaying" (.exc ec24 eu25)) ‹_› fun z36 h => ?_⟩
            refine fin1 (f := fun u => isiM u "int") z36 (vE (u := z36)) ‹_› fun z37 h => ?_
            refine fin1 (f := boolM) z37 (vE (u := z37)) ‹_› fun b38 h => ?_
            refine ite_m ‹_› (fun h => ?_) (fun h => ?_)
            · refine we_andM (κ := κ) ?_
              refine we_notM (κ := κ) ?_
              refine we_isiM (κ := κ) ⟨5, rfl⟩ T.z_isinstance ⟨7, rfl⟩ T.z_bool boot_bool' ?_
              refine we_excF (κ := κ) (c := "NoSaying") T.xf_NoSaying ?_
              refine we_name (i := 2) rfl rfl rfl ?_
              refine ⟨(.exc ec24 eu25), rfl, fin0 (m := excF "NoSaying" (.exc ec24 eu25)) ‹_› fun z39 h => ?_⟩
              refine fin1 (f := fun u => isiM u "bool") z39 (vE (u := z39)) ‹_› fun z40 h => ?_
              refine fin1 (f := boolM) z40 (vE (u := z40)) ‹_› fun z41 h => ?_
              refine fin1 (f := boolM) (.bl (!z41)) (vE (u := .bl (!z41))) ‹_› fun b42 h => ?_
              refine ite_m ‹_› (fun h => ?_) (fun h => ?_)
              · refine we_one ?_
                refine we_eqM (κ := κ) ?_
                refine we_excF (κ := κ) (c := "NoSaying") T.xf_NoSaying ?_
                refine we_name (i := 2) rfl rfl rfl ?_
                refine ⟨(.exc ec24 eu25), rfl, fin0 (m := excF "NoSaying" (.exc ec24 eu25)) ‹_› fun z43 h => ?_⟩
                refine we_name (i := 1) rfl rfl rfl ?_
                refine fin2 (f := (vB eqM)) z43 z1 (vE (u := z43)) (vE (u := z1)) ‹_› fun z44 h => ?_
                exact ⟨rfl, z44, rfl, h⟩
              · exact ⟨rfl, (.bl false), rfl, h⟩
            · exact ⟨rfl, (.bl false), rfl, h⟩
          exact rtV_v (u := z45) h

abbrev st_law : Stmt := topS 25
abbrev N_law : List Str := ["_law_script", "_law_text_here", "_law_bad"]
abbrev vs_law : List Bool := [true, true, true]
abbrev gl_law : List Str := ["_law_text", "_law_built", "_law_mix", "_law_spoilt", "_law_made_well", "_law_asked"]
theorem sc_law : FnScope N_law ["_law_script"] (defScope st_law) := ⟨rfl, rfl, rfl, by decide +kernel, rfl, by decide +kernel, by decide +kernel⟩
theorem gd_law : goodC N_law (defScope st_law) vs_law vs_law gl_law = true := by decide +kernel
@[reducible] def cx_law (G : Gl) (k : Nat) : Pl.Ctx := G.cx N_law (defScope st_law) vs_law vs_law gl_law k

theorem ok_the_law (T : Tp G κ) (f : Addr) (fd : FuncData) (F : Fun G.K "law" "law" (topS 25) f fd) : FnG G.P G.w G.K G.mg G.base (L2.CX G.P G.w) (600 + 1) f fd ["_law_script"] (spOf G.K 1 (lawSpec 63)) := by
  have h__law_text := ok__law_text T 600
  have h__law_built := ok__law_built T 600
  have h__law_mix := ok__law_mix T 600
  have h__law_spoilt := ok__law_spoilt T 600
  have h__law_made_well := ok__law_made_well T 600
  have h__law_asked := ok__law_asked T 600
  refine law_M (κ := κ) (m := sh_law (600 + 1)) F sc_law gd_law (fun us hl Q Eh h => ?_) pure_law
  have hE : EI κ Eh (erM κ Eh) := EI.erM
  obtain ⟨v_script, rfl⟩ := len1 hl
  change WSs _ [some (em κ v_script), none, none] _ (_ :: _) _
  refine wss_cons ?_
  refine ws_set (i := 1) rfl rfl ?_ rfl
  refine we_callV (κ := κ) h__law_text (Nat.le_refl _) ⟨0, rfl⟩ ?_
  refine wa_cons ?_ rfl
  refine we_callV (κ := κ) h__law_built (Nat.le_refl _) ⟨1, rfl⟩ ?_
  refine wa_cons ?_ rfl
  refine we_name (i := 0) rfl rfl rfl ?_
  refine wa_cons ?_ rfl
  refine we_int ?_
  refine wa_cons ?_ rfl
  refine we_addM (κ := κ) ?_
  refine we_int ?_
  refine we_modM (κ := κ) ?_
  refine we_callV (κ := κ) h__law_mix (Nat.le_refl _) ⟨2, rfl⟩ ?_
  refine wa_cons ?_ rfl
  refine we_name (i := 0) rfl rfl rfl ?_
  refine wa_cons ?_ rfl
  refine we_int ?_
  refine wa_nil ?_
  refine finF (Γ := _) [v_script, .int 0] rfl rfl hE ‹_› fun z1 h => ?_
  refine we_int ?_
  refine fin2 (f := modM) z1 (.int 28) (vE (u := z1)) (vE (u := .int 28)) ‹_› fun z2 h => ?_
  refine fin2 (f := addM) (.int 1) z2 (vE (u := .int 1)) (vE (u := z2)) ‹_› fun z3 h => ?_
  refine wa_nil ?_
  refine finF (Γ := _) [v_script, .int 2, z3] rfl rfl hE ‹_› fun z4 h => ?_
  refine wa_nil ?_
  refine finF (Γ := _) [z4] rfl rfl hE ‹_› fun z5 h => ?_
  refine wss_cons ?_
  refine ws_set (i := 2) rfl rfl ?_ rfl
  refine we_callV (κ := κ) h__law_spoilt (Nat.le_refl _) ⟨3, rfl⟩ ?_
  refine wa_cons ?_ rfl
  refine we_name (i := 1) rfl rfl rfl ?_
  refine wa_cons ?_ rfl
  refine we_callV (κ := κ) h__law_mix (Nat.le_refl _) ⟨2, rfl⟩ ?_
  refine wa_cons ?_ rfl
  refine we_name (i := 0) rfl rfl rfl ?_
  refine wa_cons ?_ rfl
  refine we_int ?_
  refine wa_nil ?_
  refine finF (Γ := _) [v_script, .int 1] rfl rfl hE ‹_› fun z6 h => ?_
  refine wa_nil ?_
  refine finF (Γ := _) [z5, z6] rfl rfl hE ‹_› fun z7 h => ?_
  refine wss_cons ?_
  refine ws_cutM (fun (st : U) (Γ : Pl.Env) (Λ : Cells) => Γ = [some (em κ v_script), some (em κ z5), some (em κ st)] ∧ Λ = []) h (fun Q1 h => ?_) (fun v_bad_14 Γ Λ hs h => ?_)
  · refine ws_if ?_
    refine wt_eqM (κ := κ) ?_
    refine we_modM (κ := κ) ?_
    refine we_fdivM (κ := κ) ?_
    refine we_callV (κ := κ) h__law_mix (Nat.le_refl _) ⟨2, rfl⟩ ?_
    refine wa_cons ?_ rfl
    refine we_name (i := 0) rfl rfl rfl ?_
    refine wa_cons ?_ rfl
    refine we_int ?_
    refine wa_nil ?_
    refine finF (Γ := _) [v_script, .int 0] rfl rfl hE ‹_› fun z8 h => ?_
    refine we_int ?_
    refine fin2 (f := fdivM) z8 (.int 28) (vE (u := z8)) (vE (u := .int 28)) ‹_› fun z9 h => ?_
    refine we_int ?_
    refine fin2 (f := modM) z9 (.int 3) (vE (u := z9)) (vE (u := .int 3)) ‹_› fun z10 h => ?_
    refine we_int ?_
    refine fin2 (f := eqM) z10 (.int 1) (vE (u := z10)) (vE (u := .int 1)) ‹_› fun b11 h => ?_
    refine ite_m ‹_› (fun h => ?_) (fun h => ?_)
    · refine wss_cons ?_
      refine ws_set (i := 2) rfl rfl ?_ rfl
      refine we_callV (κ := κ) h__law_spoilt (Nat.le_refl _) ⟨3, rfl⟩ ?_
      refine wa_cons ?_ rfl
      refine we_name (i := 2) rfl rfl rfl ?_
      refine wa_cons ?_ rfl
      refine we_callV (κ := κ) h__law_mix (Nat.le_refl _) ⟨2, rfl⟩ ?_
      refine wa_cons ?_ rfl
      refine we_name (i := 0) rfl rfl rfl ?_
      refine wa_cons ?_ rfl
      refine we_int ?_
      refine wa_nil ?_
      refine finF (Γ := _) [v_script, .int 40] rfl rfl hE ‹_› fun z12 h => ?_
      refine wa_nil ?_
      refine finF (Γ := _) [z7, z12] rfl rfl hE ‹_› fun z13 h => ?_
      refine wss_nil ?_
      exact ⟨z13, ⟨rfl, rfl⟩, h⟩
    · refine wss_nil ?_
      exact ⟨z7, ⟨rfl, rfl⟩, h⟩
  · obtain ⟨rfl, rfl⟩ := hs
    refine wss_cons ?_
    refine ws_cutM (fun (st : U) (Γ : Pl.Env) (Λ : Cells) => Γ = [some (em κ v_script), some (em κ z5), some (em κ st)] ∧ Λ = []) h (fun Q1 h => ?_) (fun v_bad_19 Γ Λ hs h => ?_)
    · refine ws_if ?_
      refine wt_eqM (κ := κ) ?_
      refine we_modM (κ := κ) ?_
      refine we_fdivM (κ := κ) ?_
      refine we_callV (κ := κ) h__law_mix (Nat.le_refl _) ⟨2, rfl⟩ ?_
      refine wa_cons ?_ rfl
      refine we_name (i := 0) rfl rfl rfl ?_
      refine wa_cons ?_ rfl
      refine we_int ?_
      refine wa_nil ?_
      refine finF (Γ := _) [v_script, .int 0] rfl rfl hE ‹_› fun z15 h => ?_
      refine we_int ?_
      refine fin2 (f := fdivM) z15 (.int 84) (vE (u := z15)) (vE (u := .int 84)) ‹_› fun z16 h => ?_
      refine we_int ?_
      refine fin2 (f := modM) z16 (.int 9) (vE (u := z16)) (vE (u := .int 9)) ‹_› fun z17 h => ?_
      refine we_int ?_
      refine fin2 (f := eqM) z17 (.int 4) (vE (u := z17)) (vE (u := .int 4)) ‹_› fun b18 h => ?_
      refine ite_m ‹_› (fun h => ?_) (fun h => ?_)
      · refine wss_cons ?_
        refine ws_set (i := 2) rfl rfl ?_ rfl
        refine we_str ?_
        refine wss_nil ?_
        exact ⟨(.str ""), ⟨rfl, rfl⟩, h⟩
      · refine wss_nil ?_
        exact ⟨v_bad_14, ⟨rfl, rfl⟩, h⟩
    · obtain ⟨rfl, rfl⟩ := hs
      refine wss_cons ?_
      refine ws_if ?_
      refine wt_not ?_
      refine wt_valM (κ := κ) ?_
      refine we_callV (κ := κ) h__law_made_well (Nat.le_refl _) ⟨4, rfl⟩ ?_
      refine wa_cons ?_ rfl
      refine we_modM (κ := κ) ?_
      refine we_callV (κ := κ) h__law_mix (Nat.le_refl _) ⟨2, rfl⟩ ?_
      refine wa_cons ?_ rfl
      refine we_name (i := 0) rfl rfl rfl ?_
      refine wa_cons ?_ rfl
      refine we_int ?_
      refine wa_nil ?_
      refine finF (Γ := _) [v_script, .int 41] rfl rfl hE ‹_› fun z20 h => ?_
      refine we_int ?_
      refine fin2 (f := modM) z20 (.int 200) (vE (u := z20)) (vE (u := .int 200)) ‹_› fun z21 h => ?_
      refine wa_nil ?_
      refine finF (Γ := _) [z21] rfl rfl hE ‹_› fun z22 h => ?_
      refine fin1 (f := boolM) z22 (vE (u := z22)) ‹_› fun b23 h => ?_
      refine ite_m ‹_› (fun h => ?_) (fun h => ?_)
      · refine wss_cons ?_
        refine ws_ret ?_
        refine we_bl ?_
        exact rtV_v (u := (.bl false)) h
      · refine wss_nil ?_
        refine wss_cons ?_
        refine ws_ret ?_
        refine we_cutM (κ := κ) h (fun Q1 h => ?_) (fun z29 h => ?_)
        · refine we_andM (κ := κ) ?_
          refine we_callV (κ := κ) h__law_asked (Nat.le_refl _) ⟨5, rfl⟩ ?_
          refine wa_cons ?_ rfl
          refine we_name (i := 2) rfl rfl rfl ?_
          refine wa_nil ?_
          refine finF (Γ := _) [v_bad_19] rfl rfl hE ‹_› fun z24 h => ?_
          refine fin1 (f := boolM) z24 (vE (u := z24)) ‹_› fun b25 h => ?_
          refine ite_m ‹_› (fun h => ?_) (fun h => ?_)
          · refine we_andM (κ := κ) ?_
            refine we_callV (κ := κ) h__law_asked (Nat.le_refl _) ⟨5, rfl⟩ ?_
            refine wa_cons ?_ rfl
            refine we_name (i := 1) rfl rfl rfl ?_
            refine wa_nil ?_
            refine finF (Γ := _) [z5] rfl rfl hE ‹_› fun z26 h => ?_
            refine fin1 (f := boolM) z26 (vE (u := z26)) ‹_› fun b27 h => ?_
            refine ite_m ‹_› (fun h => ?_) (fun h => ?_)
            · refine we_one ?_
              refine we_callV (κ := κ) h__law_asked (Nat.le_refl _) ⟨5, rfl⟩ ?_
              refine wa_cons ?_ rfl
              refine we_name (i := 2) rfl rfl rfl ?_
              refine wa_nil ?_
              refine finF (Γ := _) [v_bad_19] rfl rfl hE ‹_› fun z28 h => ?_
              exact ⟨rfl, z28, rfl, h⟩
            · exact ⟨rfl, (.bl false), rfl, h⟩
          · exact ⟨rfl, (.bl false), rfl, h⟩
        exact rtV_v (u := z29) h
end Law
set_option maxHeartbeats 0 in
theorem PySem.Challenge.cw_selfsay_k07_no_saying_holds : PySem.Challenge.rw_selfsay_k07_no_saying.Holds := by
  w_on; o_law; k_head; (case hw => w_witness2)
  k_fill
  refine Pl.law_end (n := 63) (k := 601) (x := "_law_script") (st := Law.topS 25) rfl (by decide) rfl ⟨rfl, rfl, by decide, by decide⟩ rfl (fun w h Y => PySem.W.kIn_of Y) ?F
  case F =>
    intro w mg h KX G
    have z_len : mg "len" = none := by
      refine' PySem.W.mg_none_of KX G ?z
      (case z => k_is)
    have z_int : mg "int" = none := by
      refine' PySem.W.mg_none_of KX G ?z
      (case z => k_is)
    have z_bool : mg "bool" = none := by
      refine' PySem.W.mg_none_of KX G ?z
      (case z => k_is)
    have z_isinstance : mg "isinstance" = none := by
      refine' PySem.W.mg_none_of KX G ?z
      (case z => k_is)
    have z_range : mg "range" = none := by
      refine' PySem.W.mg_none_of KX G ?z
      (case z => k_is)
    have z_ValueError : mg "ValueError" = none := by
      refine' PySem.W.mg_none_of KX G ?z
      (case z => k_is)
    refine' (have d_sign_at := Pl.defAt_mk (x := "sign_at") (st := Law.topS 12) (ps := ["text", "at", "allowed"]) KX G (fun _ _ _ _ _ _ us hl => match us, hl with | [_, _, _], _ => rfl) ?a_1 ?l_1 ?c_1 ?k_1; ?rest_1)
    (case a_1 => k_is); (case l_1 => k_is); (case c_1 => k_is); (case k_1 => k_is)
    refine' (have d_read_from := Pl.defAt_mk (x := "read_from") (st := Law.topS 13) (ps := ["text", "at"]) KX G (fun _ _ _ _ _ _ us hl => match us, hl with | [_, _], _ => rfl) ?a_2 ?l_2 ?c_2 ?k_2; ?rest_2)
    (case a_2 => k_is); (case l_2 => k_is); (case c_2 => k_is); (case k_2 => k_is)
    refine' (have d_read := Pl.defAt_mk (x := "read") (st := Law.topS 14) (ps := ["text"]) KX G (fun _ _ _ _ _ _ us hl => match us, hl with | [_], _ => rfl) ?a_3 ?l_3 ?c_3 ?k_3; ?rest_3)
    (case a_3 => k_is); (case l_3 => k_is); (case c_3 => k_is); (case k_3 => k_is)
    refine' (have d__law_mix := Pl.defAt_mk (x := "_law_mix") (st := Law.topS 16) (ps := ["_law_script", "_law_k"]) KX G (fun _ _ _ _ _ _ us hl => match us, hl with | [_, _], _ => rfl) ?a_4 ?l_4 ?c_4 ?k_4; ?rest_4)
    (case a_4 => k_is); (case l_4 => k_is); (case c_4 => k_is); (case k_4 => k_is)
    refine' (have d__law_built := Pl.defAt_mk (x := "_law_built") (st := Law.topS 17) (ps := ["_law_script", "_law_at", "_law_count"]) KX G (fun _ _ _ _ _ _ us hl => match us, hl with | [_, _, _], _ => rfl) ?a_5 ?l_5 ?c_5 ?k_5; ?rest_5)
    (case a_5 => k_is); (case l_5 => k_is); (case c_5 => k_is); (case k_5 => k_is)
    refine' (have d__law_text := Pl.defAt_mk (x := "_law_text") (st := Law.topS 18) (ps := ["_law_saying"]) KX G (fun _ _ _ _ _ _ us hl => match us, hl with | [_], _ => rfl) ?a_6 ?l_6 ?c_6 ?k_6; ?rest_6)
    (case a_6 => k_is); (case l_6 => k_is); (case c_6 => k_is); (case k_6 => k_is)
    refine' (have d__law_bad_place := Pl.defAt_mk (x := "_law_bad_place") (st := Law.topS 19) (ps := ["_law_text_here"]) KX G (fun _ _ _ _ _ _ us hl => match us, hl with | [_], _ => rfl) ?a_7 ?l_7 ?c_7 ?k_7; ?rest_7)
    (case a_7 => k_is); (case l_7 => k_is); (case c_7 => k_is); (case k_7 => k_is)
    refine' (have d__law_spoilt := Pl.defAt_mk (x := "_law_spoilt") (st := Law.topS 20) (ps := ["_law_text_here", "_law_cell"]) KX G (fun _ _ _ _ _ _ us hl => match us, hl with | [_, _], _ => rfl) ?a_8 ?l_8 ?c_8 ?k_8; ?rest_8)
    (case a_8 => k_is); (case l_8 => k_is); (case c_8 => k_is); (case k_8 => k_is)
    refine' (have d__law_told := Pl.defAt_mk (x := "_law_told") (st := Law.topS 21) (ps := ["_law_e"]) KX G (fun _ _ _ _ _ _ us hl => match us, hl with | [_], _ => rfl) ?a_9 ?l_9 ?c_9 ?k_9; ?rest_9)
    (case a_9 => k_is); (case l_9 => k_is); (case c_9 => k_is); (case k_9 => k_is)
    refine' (have d__law_kinds := Pl.defAt_mk (x := "_law_kinds") (st := Law.topS 22) (ps := ["_law_e"]) KX G (fun _ _ _ _ _ _ us hl => match us, hl with | [_], _ => rfl) ?a_10 ?l_10 ?c_10 ?k_10; ?rest_10)
    (case a_10 => k_is); (case l_10 => k_is); (case c_10 => k_is); (case k_10 => k_is)
    refine' (have d__law_made_well := Pl.defAt_mk (x := "_law_made_well") (st := Law.topS 23) (ps := ["_law_number"]) KX G (fun _ _ _ _ _ _ us hl => match us, hl with | [_], _ => rfl) ?a_11 ?l_11 ?c_11 ?k_11; ?rest_11)
    (case a_11 => k_is); (case l_11 => k_is); (case c_11 => k_is); (case k_11 => k_is)
    refine' (have d__law_asked := Pl.defAt_mk (x := "_law_asked") (st := Law.topS 24) (ps := ["_law_text_here"]) KX G (fun _ _ _ _ _ _ us hl => match us, hl with | [_], _ => rfl) ?a_12 ?l_12 ?c_12 ?k_12; ?rest_12)
    (case a_12 => k_is); (case l_12 => k_is); (case c_12 => k_is); (case k_12 => k_is)
    refine' (have d_law := Pl.defAt_mk (x := "law") (st := Law.topS 25) (ps := ["_law_script"]) KX G (fun _ _ _ _ _ _ us hl => match us, hl with | [_], _ => rfl) ?a_13 ?l_13 ?c_13 ?k_13; ?rest_13)
    (case a_13 => k_is); (case l_13 => k_is); (case c_13 => k_is); (case k_13 => k_is)
    refine' (have q_NoSaying := PySem.W.mg_of (n := "NoSaying") KX G ?a_14; ?rest_14)
    (case a_14 => k_is)
    have g_NoSaying := Sh.gAt q_NoSaying
    refine' (have q_NoTree := PySem.W.mg_of (n := "NoTree") KX G ?a_15; ?rest_15)
    (case a_15 => k_is)
    have g_NoTree := Sh.gAt q_NoTree
    refine' (have q_HasLetter := PySem.W.mg_of (n := "HasLetter") KX G ?a_16; ?rest_16)
    (case a_16 => k_is)
    have g_HasLetter := Sh.gAt q_HasLetter
    refine' (have q_TooMany := PySem.W.mg_of (n := "TooMany") KX G ?a_17; ?rest_17)
    (case a_17 => k_is)
    have g_TooMany := Sh.gAt q_TooMany
    refine' (have q_NoRule := PySem.W.mg_of (n := "NoRule") KX G ?a_18; ?rest_18)
    (case a_18 => k_is)
    have g_NoRule := Sh.gAt q_NoRule
    refine' (have q_Outside := PySem.W.mg_of (n := "Outside") KX G ?a_19; ?rest_19)
    (case a_19 => k_is)
    have g_Outside := Sh.gAt q_Outside
    refine' (have q_NoLine := PySem.W.mg_of (n := "NoLine") KX G ?a_20; ?rest_20)
    (case a_20 => k_is)
    have g_NoLine := Sh.gAt q_NoLine
    refine' (have q_Nothing := PySem.W.mg_of (n := "Nothing") KX G ?a_21; ?rest_21)
    (case a_21 => k_is)
    have g_Nothing := Sh.gAt q_Nothing
    refine' (have q_SayError := PySem.W.mg_of (n := "SayError") KX G ?a_22; ?rest_22)
    (case a_22 => k_is)
    have g_SayError := Sh.gAt q_SayError
    refine' (have x_TooMany_f := Sh.excAt (x := "TooMany") (fs := (fun c => (List.lookup c ([("NoSaying", ["place"]), ("NoTree", ["room"]), ("HasLetter", ["letter"])] : List (PySem.Str × List PySem.Str))).getD [])) KX q_TooMany ?xq_23 ?k_23 ?b_23 ?t_23; ?rest_23)
    (case xq_23 => k_exc); (case k_23 => k_is); (case b_23 => k_is); (case t_23 => k_is)
    have x_TooMany := x_TooMany_f (by decide +kernel)
    refine' (have x_NoRule_f := Sh.excAt (x := "NoRule") (fs := (fun c => (List.lookup c ([("NoSaying", ["place"]), ("NoTree", ["room"]), ("HasLetter", ["letter"])] : List (PySem.Str × List PySem.Str))).getD [])) KX q_NoRule ?xq_24 ?k_24 ?b_24 ?t_24; ?rest_24)
    (case xq_24 => k_exc); (case k_24 => k_is); (case b_24 => k_is); (case t_24 => k_is)
    have x_NoRule := x_NoRule_f (by decide +kernel)
    refine' (have x_Outside_f := Sh.excAt (x := "Outside") (fs := (fun c => (List.lookup c ([("NoSaying", ["place"]), ("NoTree", ["room"]), ("HasLetter", ["letter"])] : List (PySem.Str × List PySem.Str))).getD [])) KX q_Outside ?xq_25 ?k_25 ?b_25 ?t_25; ?rest_25)
    (case xq_25 => k_exc); (case k_25 => k_is); (case b_25 => k_is); (case t_25 => k_is)
    have x_Outside := x_Outside_f (by decide +kernel)
    refine' (have x_NoLine_f := Sh.excAt (x := "NoLine") (fs := (fun c => (List.lookup c ([("NoSaying", ["place"]), ("NoTree", ["room"]), ("HasLetter", ["letter"])] : List (PySem.Str × List PySem.Str))).getD [])) KX q_NoLine ?xq_26 ?k_26 ?b_26 ?t_26; ?rest_26)
    (case xq_26 => k_exc); (case k_26 => k_is); (case b_26 => k_is); (case t_26 => k_is)
    have x_NoLine := x_NoLine_f (by decide +kernel)
    refine' (have x_Nothing_f := Sh.excAt (x := "Nothing") (fs := (fun c => (List.lookup c ([("NoSaying", ["place"]), ("NoTree", ["room"]), ("HasLetter", ["letter"])] : List (PySem.Str × List PySem.Str))).getD [])) KX q_Nothing ?xq_27 ?k_27 ?b_27 ?t_27; ?rest_27)
    (case xq_27 => k_exc); (case k_27 => k_is); (case b_27 => k_is); (case t_27 => k_is)
    have x_Nothing := x_Nothing_f (by decide +kernel)
    refine' (have y_NoSaying_o := Sh.oexcAt KX q_NoSaying ?lk_28 ?rv_28 ?sa_28 ?b_28 ?t_28 ?k_28; ?rest_28)
    (case lk_28 => k_is); (case rv_28 => rfl); (case sa_28 => k_is); (case b_28 => k_is); (case t_28 => k_is); (case k_28 => k_is)
    refine' (have y_NoSaying := Sh.exc1At (x := "NoSaying") (y := "SayError") (x2 := "place") (fld := "place") (qual := "NoSaying.__init__") (st := (L2.inClass (Law.topS 7) 0)) (fs := (fun c => (List.lookup c ([("NoSaying", ["place"]), ("NoTree", ["room"]), ("HasLetter", ["letter"])] : List (PySem.Str × List PySem.Str))).getD [])) KX q_NoSaying q_SayError (fun _ _ _ _ _ _ us hl => match us, hl with | [_, _], _ => rfl) ⟨rfl, rfl, rfl, by decide +kernel, rfl, by decide +kernel, by decide +kernel⟩ rfl rfl (.inl rfl) (.inl rfl) (by decide) (by decide) (by decide) (fun _ => rfl) (by decide +kernel) ?a_29 ?l_29 ?c_29 ?k_29 ?t_29 y_NoSaying_o ?nf_29 ?ga_29 ?rd_29 ?fc_29; ?rest_29)
    (case a_29 => k_is); (case l_29 => k_is); (case c_29 => k_is); (case k_29 => k_is); (case t_29 => k_is); (case nf_29 => k_is); (case ga_29 => k_is); (case rd_29 => k_is); (case fc_29 => k_is)
    refine' (have y_NoTree_o := Sh.oexcAt KX q_NoTree ?lk_30 ?rv_30 ?sa_30 ?b_30 ?t_30 ?k_30; ?rest_30)
    (case lk_30 => k_is); (case rv_30 => rfl); (case sa_30 => k_is); (case b_30 => k_is); (case t_30 => k_is); (case k_30 => k_is)
    refine' (have y_NoTree := Sh.exc1At (x := "NoTree") (y := "SayError") (x2 := "room") (fld := "room") (qual := "NoTree.__init__") (st := (L2.inClass (Law.topS 8) 0)) (fs := (fun c => (List.lookup c ([("NoSaying", ["place"]), ("NoTree", ["room"]), ("HasLetter", ["letter"])] : List (PySem.Str × List PySem.Str))).getD [])) KX q_NoTree q_SayError (fun _ _ _ _ _ _ us hl => match us, hl with | [_, _], _ => rfl) ⟨rfl, rfl, rfl, by decide +kernel, rfl, by decide +kernel, by decide +kernel⟩ rfl rfl (.inl rfl) (.inl rfl) (by decide) (by decide) (by decide) (fun _ => rfl) (by decide +kernel) ?a_31 ?l_31 ?c_31 ?k_31 ?t_31 y_NoTree_o ?nf_31 ?ga_31 ?rd_31 ?fc_31; ?rest_31)
    (case a_31 => k_is); (case l_31 => k_is); (case c_31 => k_is); (case k_31 => k_is); (case t_31 => k_is); (case nf_31 => k_is); (case ga_31 => k_is); (case rd_31 => k_is); (case fc_31 => k_is)
    refine' (have y_HasLetter_o := Sh.oexcAt KX q_HasLetter ?lk_32 ?rv_32 ?sa_32 ?b_32 ?t_32 ?k_32; ?rest_32)
    (case lk_32 => k_is); (case rv_32 => rfl); (case sa_32 => k_is); (case b_32 => k_is); (case t_32 => k_is); (case k_32 => k_is)
    refine' (have y_HasLetter := Sh.exc1At (x := "HasLetter") (y := "SayError") (x2 := "letter") (fld := "letter") (qual := "HasLetter.__init__") (st := (L2.inClass (Law.topS 9) 0)) (fs := (fun c => (List.lookup c ([("NoSaying", ["place"]), ("NoTree", ["room"]), ("HasLetter", ["letter"])] : List (PySem.Str × List PySem.Str))).getD [])) KX q_HasLetter q_SayError (fun _ _ _ _ _ _ us hl => match us, hl with | [_, _], _ => rfl) ⟨rfl, rfl, rfl, by decide +kernel, rfl, by decide +kernel, by decide +kernel⟩ rfl rfl (.inl rfl) (.inl rfl) (by decide) (by decide) (by decide) (fun _ => rfl) (by decide +kernel) ?a_33 ?l_33 ?c_33 ?k_33 ?t_33 y_HasLetter_o ?nf_33 ?ga_33 ?rd_33 ?fc_33; ?rest_33)
    (case a_33 => k_is); (case l_33 => k_is); (case c_33 => k_is); (case k_33 => k_is); (case t_33 => k_is); (case nf_33 => k_is); (case ga_33 => k_is); (case rd_33 => k_is); (case fc_33 => k_is)
    refine' (have xc_NoSaying := Sh.excCAt (x := "NoSaying") KX q_NoSaying ?hg_34 ?hk_34 ?hs_34 ?hd_34 ?ha_34 ?hn_34 ?ht_34 ?hm_34; ?rest_34)
    (case hg_34 => k_is); (case hk_34 => k_is); (case hs_34 => k_is); (case hd_34 => k_is); (case ha_34 => k_is); (case hn_34 => k_is); (case ht_34 => k_is); (case hm_34 => k_is)
    refine' (have xc_NoTree := Sh.excCAt (x := "NoTree") KX q_NoTree ?hg_35 ?hk_35 ?hs_35 ?hd_35 ?ha_35 ?hn_35 ?ht_35 ?hm_35; ?rest_35)
    (case hg_35 => k_is); (case hk_35 => k_is); (case hs_35 => k_is); (case hd_35 => k_is); (case ha_35 => k_is); (case hn_35 => k_is); (case ht_35 => k_is); (case hm_35 => k_is)
    refine' (have xc_HasLetter := Sh.excCAt (x := "HasLetter") KX q_HasLetter ?hg_36 ?hk_36 ?hs_36 ?hd_36 ?ha_36 ?hn_36 ?ht_36 ?hm_36; ?rest_36)
    (case hg_36 => k_is); (case hk_36 => k_is); (case hs_36 => k_is); (case hd_36 => k_is); (case ha_36 => k_is); (case hn_36 => k_is); (case ht_36 => k_is); (case hm_36 => k_is)
    refine' (have xc_TooMany := Sh.excCAt (x := "TooMany") KX q_TooMany ?hg_37 ?hk_37 ?hs_37 ?hd_37 ?ha_37 ?hn_37 ?ht_37 ?hm_37; ?rest_37)
    (case hg_37 => k_is); (case hk_37 => k_is); (case hs_37 => k_is); (case hd_37 => k_is); (case ha_37 => k_is); (case hn_37 => k_is); (case ht_37 => k_is); (case hm_37 => k_is)
    refine' (have xc_NoRule := Sh.excCAt (x := "NoRule") KX q_NoRule ?hg_38 ?hk_38 ?hs_38 ?hd_38 ?ha_38 ?hn_38 ?ht_38 ?hm_38; ?rest_38)
    (case hg_38 => k_is); (case hk_38 => k_is); (case hs_38 => k_is); (case hd_38 => k_is); (case ha_38 => k_is); (case hn_38 => k_is); (case ht_38 => k_is); (case hm_38 => k_is)
    refine' (have xc_Outside := Sh.excCAt (x := "Outside") KX q_Outside ?hg_39 ?hk_39 ?hs_39 ?hd_39 ?ha_39 ?hn_39 ?ht_39 ?hm_39; ?rest_39)
    (case hg_39 => k_is); (case hk_39 => k_is); (case hs_39 => k_is); (case hd_39 => k_is); (case ha_39 => k_is); (case hn_39 => k_is); (case ht_39 => k_is); (case hm_39 => k_is)
    refine' (have xc_NoLine := Sh.excCAt (x := "NoLine") KX q_NoLine ?hg_40 ?hk_40 ?hs_40 ?hd_40 ?ha_40 ?hn_40 ?ht_40 ?hm_40; ?rest_40)
    (case hg_40 => k_is); (case hk_40 => k_is); (case hs_40 => k_is); (case hd_40 => k_is); (case ha_40 => k_is); (case hn_40 => k_is); (case ht_40 => k_is); (case hm_40 => k_is)
    refine' (have xc_Nothing := Sh.excCAt (x := "Nothing") KX q_Nothing ?hg_41 ?hk_41 ?hs_41 ?hd_41 ?ha_41 ?hn_41 ?ht_41 ?hm_41; ?rest_41)
    (case hg_41 => k_is); (case hk_41 => k_is); (case hs_41 => k_is); (case hd_41 => k_is); (case ha_41 => k_is); (case hn_41 => k_is); (case ht_41 => k_is); (case hm_41 => k_is)
    refine' (have ki_NoSaying_NoSaying := Sh.kitXX (b := true) KX q_NoSaying q_NoSaying ?me_42; ?rest_42)
    (case me_42 => kit_is)
    refine' (have ki_NoSaying_NoTree := Sh.kitXX (b := false) KX q_NoTree q_NoSaying ?me_43; ?rest_43)
    (case me_43 => kit_is)
    refine' (have ki_NoSaying_HasLetter := Sh.kitXX (b := false) KX q_HasLetter q_NoSaying ?me_44; ?rest_44)
    (case me_44 => kit_is)
    refine' (have ki_NoSaying_TooMany := Sh.kitXX (b := false) KX q_TooMany q_NoSaying ?me_45; ?rest_45)
    (case me_45 => kit_is)
    refine' (have ki_NoSaying_NoRule := Sh.kitXX (b := false) KX q_NoRule q_NoSaying ?me_46; ?rest_46)
    (case me_46 => kit_is)
    refine' (have ki_NoSaying_Outside := Sh.kitXX (b := false) KX q_Outside q_NoSaying ?me_47; ?rest_47)
    (case me_47 => kit_is)
    refine' (have ki_NoSaying_NoLine := Sh.kitXX (b := false) KX q_NoLine q_NoSaying ?me_48; ?rest_48)
    (case me_48 => kit_is)
    refine' (have ki_NoSaying_Nothing := Sh.kitXX (b := false) KX q_Nothing q_NoSaying ?me_49; ?rest_49)
    (case me_49 => kit_is)
    have xi_NoSaying : ∀ q ∈ ([("NoSaying", true), ("NoTree", false), ("HasLetter", false), ("TooMany", false), ("NoRule", false), ("Outside", false), ("NoLine", false), ("Nothing", false)] : List (PySem.Str × Bool)), L2.ExcC _ (Sh.adOf mg q.1) ∧ PySem.W.kitOne _ (.ref (Sh.adOf mg q.1)) (.ref (Sh.adOf mg "NoSaying")) = some q.2 := (List.forall_mem_cons.mpr ⟨⟨xc_NoSaying, ki_NoSaying_NoSaying⟩, (List.forall_mem_cons.mpr ⟨⟨xc_NoTree, ki_NoSaying_NoTree⟩, (List.forall_mem_cons.mpr ⟨⟨xc_HasLetter, ki_NoSaying_HasLetter⟩, (List.forall_mem_cons.mpr ⟨⟨xc_TooMany, ki_NoSaying_TooMany⟩, (List.forall_mem_cons.mpr ⟨⟨xc_NoRule, ki_NoSaying_NoRule⟩, (List.forall_mem_cons.mpr ⟨⟨xc_Outside, ki_NoSaying_Outside⟩, (List.forall_mem_cons.mpr ⟨⟨xc_NoLine, ki_NoSaying_NoLine⟩, (List.forall_mem_cons.mpr ⟨⟨xc_Nothing, ki_NoSaying_Nothing⟩, (fun _ hh => absurd hh List.not_mem_nil)⟩)⟩)⟩)⟩)⟩)⟩)⟩)⟩)
    refine' (have ki_TooMany_NoSaying := Sh.kitXX (b := false) KX q_NoSaying q_TooMany ?me_50; ?rest_50)
    (case me_50 => kit_is)
    refine' (have ki_TooMany_NoTree := Sh.kitXX (b := false) KX q_NoTree q_TooMany ?me_51; ?rest_51)
    (case me_51 => kit_is)
    refine' (have ki_TooMany_HasLetter := Sh.kitXX (b := false) KX q_HasLetter q_TooMany ?me_52; ?rest_52)
    (case me_52 => kit_is)
    refine' (have ki_TooMany_TooMany := Sh.kitXX (b := true) KX q_TooMany q_TooMany ?me_53; ?rest_53)
    (case me_53 => kit_is)
    refine' (have ki_TooMany_NoRule := Sh.kitXX (b := false) KX q_NoRule q_TooMany ?me_54; ?rest_54)
    (case me_54 => kit_is)
    refine' (have ki_TooMany_Outside := Sh.kitXX (b := false) KX q_Outside q_TooMany ?me_55; ?rest_55)
    (case me_55 => kit_is)
    refine' (have ki_TooMany_NoLine := Sh.kitXX (b := false) KX q_NoLine q_TooMany ?me_56; ?rest_56)
    (case me_56 => kit_is)
    refine' (have ki_TooMany_Nothing := Sh.kitXX (b := false) KX q_Nothing q_TooMany ?me_57; ?rest_57)
    (case me_57 => kit_is)
    have xi_TooMany : ∀ q ∈ ([("NoSaying", false), ("NoTree", false), ("HasLetter", false), ("TooMany", true), ("NoRule", false), ("Outside", false), ("NoLine", false), ("Nothing", false)] : List (PySem.Str × Bool)), L2.ExcC _ (Sh.adOf mg q.1) ∧ PySem.W.kitOne _ (.ref (Sh.adOf mg q.1)) (.ref (Sh.adOf mg "TooMany")) = some q.2 := (List.forall_mem_cons.mpr ⟨⟨xc_NoSaying, ki_TooMany_NoSaying⟩, (List.forall_mem_cons.mpr ⟨⟨xc_NoTree, ki_TooMany_NoTree⟩, (List.forall_mem_cons.mpr ⟨⟨xc_HasLetter, ki_TooMany_HasLetter⟩, (List.forall_mem_cons.mpr ⟨⟨xc_TooMany, ki_TooMany_TooMany⟩, (List.forall_mem_cons.mpr ⟨⟨xc_NoRule, ki_TooMany_NoRule⟩, (List.forall_mem_cons.mpr ⟨⟨xc_Outside, ki_TooMany_Outside⟩, (List.forall_mem_cons.mpr ⟨⟨xc_NoLine, ki_TooMany_NoLine⟩, (List.forall_mem_cons.mpr ⟨⟨xc_Nothing, ki_TooMany_Nothing⟩, (fun _ hh => absurd hh List.not_mem_nil)⟩)⟩)⟩)⟩)⟩)⟩)⟩)⟩)
    refine' (have ki_NoRule_NoSaying := Sh.kitXX (b := false) KX q_NoSaying q_NoRule ?me_58; ?rest_58)
    (case me_58 => kit_is)
    refine' (have ki_NoRule_NoTree := Sh.kitXX (b := false) KX q_NoTree q_NoRule ?me_59; ?rest_59)
    (case me_59 => kit_is)
    refine' (have ki_NoRule_HasLetter := Sh.kitXX (b := false) KX q_HasLetter q_NoRule ?me_60; ?rest_60)
    (case me_60 => kit_is)
    refine' (have ki_NoRule_TooMany := Sh.kitXX (b := false) KX q_TooMany q_NoRule ?me_61; ?rest_61)
    (case me_61 => kit_is)
    refine' (have ki_NoRule_NoRule := Sh.kitXX (b := true) KX q_NoRule q_NoRule ?me_62; ?rest_62)
    (case me_62 => kit_is)
    refine' (have ki_NoRule_Outside := Sh.kitXX (b := false) KX q_Outside q_NoRule ?me_63; ?rest_63)
    (case me_63 => kit_is)
    refine' (have ki_NoRule_NoLine := Sh.kitXX (b := false) KX q_NoLine q_NoRule ?me_64; ?rest_64)
    (case me_64 => kit_is)
    refine' (have ki_NoRule_Nothing := Sh.kitXX (b := false) KX q_Nothing q_NoRule ?me_65; ?rest_65)
    (case me_65 => kit_is)
    have xi_NoRule : ∀ q ∈ ([("NoSaying", false), ("NoTree", false), ("HasLetter", false), ("TooMany", false), ("NoRule", true), ("Outside", false), ("NoLine", false), ("Nothing", false)] : List (PySem.Str × Bool)), L2.ExcC _ (Sh.adOf mg q.1) ∧ PySem.W.kitOne _ (.ref (Sh.adOf mg q.1)) (.ref (Sh.adOf mg "NoRule")) = some q.2 := (List.forall_mem_cons.mpr ⟨⟨xc_NoSaying, ki_NoRule_NoSaying⟩, (List.forall_mem_cons.mpr ⟨⟨xc_NoTree, ki_NoRule_NoTree⟩, (List.forall_mem_cons.mpr ⟨⟨xc_HasLetter, ki_NoRule_HasLetter⟩, (List.forall_mem_cons.mpr ⟨⟨xc_TooMany, ki_NoRule_TooMany⟩, (List.forall_mem_cons.mpr ⟨⟨xc_NoRule, ki_NoRule_NoRule⟩, (List.forall_mem_cons.mpr ⟨⟨xc_Outside, ki_NoRule_Outside⟩, (List.forall_mem_cons.mpr ⟨⟨xc_NoLine, ki_NoRule_NoLine⟩, (List.forall_mem_cons.mpr ⟨⟨xc_Nothing, ki_NoRule_Nothing⟩, (fun _ hh => absurd hh List.not_mem_nil)⟩)⟩)⟩)⟩)⟩)⟩)⟩)⟩)
    refine' (have ki_Outside_NoSaying := Sh.kitXX (b := false) KX q_NoSaying q_Outside ?me_66; ?rest_66)
    (case me_66 => kit_is)
    refine' (have ki_Outside_NoTree := Sh.kitXX (b := false) KX q_NoTree q_Outside ?me_67; ?rest_67)
    (case me_67 => kit_is)
    refine' (have ki_Outside_HasLetter := Sh.kitXX (b := false) KX q_HasLetter q_Outside ?me_68; ?rest_68)
    (case me_68 => kit_is)
    refine' (have ki_Outside_TooMany := Sh.kitXX (b := false) KX q_TooMany q_Outside ?me_69; ?rest_69)
    (case me_69 => kit_is)
    refine' (have ki_Outside_NoRule := Sh.kitXX (b := false) KX q_NoRule q_Outside ?me_70; ?rest_70)
    (case me_70 => kit_is)
    refine' (have ki_Outside_Outside := Sh.kitXX (b := true) KX q_Outside q_Outside ?me_71; ?rest_71)
    (case me_71 => kit_is)
    refine' (have ki_Outside_NoLine := Sh.kitXX (b := false) KX q_NoLine q_Outside ?me_72; ?rest_72)
    (case me_72 => kit_is)
    refine' (have ki_Outside_Nothing := Sh.kitXX (b := false) KX q_Nothing q_Outside ?me_73; ?rest_73)
    (case me_73 => kit_is)
    have xi_Outside : ∀ q ∈ ([("NoSaying", false), ("NoTree", false), ("HasLetter", false), ("TooMany", false), ("NoRule", false), ("Outside", true), ("NoLine", false), ("Nothing", false)] : List (PySem.Str × Bool)), L2.ExcC _ (Sh.adOf mg q.1) ∧ PySem.W.kitOne _ (.ref (Sh.adOf mg q.1)) (.ref (Sh.adOf mg "Outside")) = some q.2 := (List.forall_mem_cons.mpr ⟨⟨xc_NoSaying, ki_Outside_NoSaying⟩, (List.forall_mem_cons.mpr ⟨⟨xc_NoTree, ki_Outside_NoTree⟩, (List.forall_mem_cons.mpr ⟨⟨xc_HasLetter, ki_Outside_HasLetter⟩, (List.forall_mem_cons.mpr ⟨⟨xc_TooMany, ki_Outside_TooMany⟩, (List.forall_mem_cons.mpr ⟨⟨xc_NoRule, ki_Outside_NoRule⟩, (List.forall_mem_cons.mpr ⟨⟨xc_Outside, ki_Outside_Outside⟩, (List.forall_mem_cons.mpr ⟨⟨xc_NoLine, ki_Outside_NoLine⟩, (List.forall_mem_cons.mpr ⟨⟨xc_Nothing, ki_Outside_Nothing⟩, (fun _ hh => absurd hh List.not_mem_nil)⟩)⟩)⟩)⟩)⟩)⟩)⟩)⟩)
    refine' (have ki_NoLine_NoSaying := Sh.kitXX (b := false) KX q_NoSaying q_NoLine ?me_74; ?rest_74)
    (case me_74 => kit_is)
    refine' (have ki_NoLine_NoTree := Sh.kitXX (b := false) KX q_NoTree q_NoLine ?me_75; ?rest_75)
    (case me_75 => kit_is)
    refine' (have ki_NoLine_HasLetter := Sh.kitXX (b := false) KX q_HasLetter q_NoLine ?me_76; ?rest_76)
    (case me_76 => kit_is)
    refine' (have ki_NoLine_TooMany := Sh.kitXX (b := false) KX q_TooMany q_NoLine ?me_77; ?rest_77)
    (case me_77 => kit_is)
    refine' (have ki_NoLine_NoRule := Sh.kitXX (b := false) KX q_NoRule q_NoLine ?me_78; ?rest_78)
    (case me_78 => kit_is)
    refine' (have ki_NoLine_Outside := Sh.kitXX (b := false) KX q_Outside q_NoLine ?me_79; ?rest_79)
    (case me_79 => kit_is)
    refine' (have ki_NoLine_NoLine := Sh.kitXX (b := true) KX q_NoLine q_NoLine ?me_80; ?rest_80)
    (case me_80 => kit_is)
    refine' (have ki_NoLine_Nothing := Sh.kitXX (b := false) KX q_Nothing q_NoLine ?me_81; ?rest_81)
    (case me_81 => kit_is)
    have xi_NoLine : ∀ q ∈ ([("NoSaying", false), ("NoTree", false), ("HasLetter", false), ("TooMany", false), ("NoRule", false), ("Outside", false), ("NoLine", true), ("Nothing", false)] : List (PySem.Str × Bool)), L2.ExcC _ (Sh.adOf mg q.1) ∧ PySem.W.kitOne _ (.ref (Sh.adOf mg q.1)) (.ref (Sh.adOf mg "NoLine")) = some q.2 := (List.forall_mem_cons.mpr ⟨⟨xc_NoSaying, ki_NoLine_NoSaying⟩, (List.forall_mem_cons.mpr ⟨⟨xc_NoTree, ki_NoLine_NoTree⟩, (List.forall_mem_cons.mpr ⟨⟨xc_HasLetter, ki_NoLine_HasLetter⟩, (List.forall_mem_cons.mpr ⟨⟨xc_TooMany, ki_NoLine_TooMany⟩, (List.forall_mem_cons.mpr ⟨⟨xc_NoRule, ki_NoLine_NoRule⟩, (List.forall_mem_cons.mpr ⟨⟨xc_Outside, ki_NoLine_Outside⟩, (List.forall_mem_cons.mpr ⟨⟨xc_NoLine, ki_NoLine_NoLine⟩, (List.forall_mem_cons.mpr ⟨⟨xc_Nothing, ki_NoLine_Nothing⟩, (fun _ hh => absurd hh List.not_mem_nil)⟩)⟩)⟩)⟩)⟩)⟩)⟩)⟩)
    refine' (have ki_Nothing_NoSaying := Sh.kitXX (b := false) KX q_NoSaying q_Nothing ?me_82; ?rest_82)
    (case me_82 => kit_is)
    refine' (have ki_Nothing_NoTree := Sh.kitXX (b := false) KX q_NoTree q_Nothing ?me_83; ?rest_83)
    (case me_83 => kit_is)
    refine' (have ki_Nothing_HasLetter := Sh.kitXX (b := false) KX q_HasLetter q_Nothing ?me_84; ?rest_84)
    (case me_84 => kit_is)
    refine' (have ki_Nothing_TooMany := Sh.kitXX (b := false) KX q_TooMany q_Nothing ?me_85; ?rest_85)
    (case me_85 => kit_is)
    refine' (have ki_Nothing_NoRule := Sh.kitXX (b := false) KX q_NoRule q_Nothing ?me_86; ?rest_86)
    (case me_86 => kit_is)
    refine' (have ki_Nothing_Outside := Sh.kitXX (b := false) KX q_Outside q_Nothing ?me_87; ?rest_87)
    (case me_87 => kit_is)
    refine' (have ki_Nothing_NoLine := Sh.kitXX (b := false) KX q_NoLine q_Nothing ?me_88; ?rest_88)
    (case me_88 => kit_is)
    refine' (have ki_Nothing_Nothing := Sh.kitXX (b := true) KX q_Nothing q_Nothing ?me_89; ?rest_89)
    (case me_89 => kit_is)
    have xi_Nothing : ∀ q ∈ ([("NoSaying", false), ("NoTree", false), ("HasLetter", false), ("TooMany", false), ("NoRule", false), ("Outside", false), ("NoLine", false), ("Nothing", true)] : List (PySem.Str × Bool)), L2.ExcC _ (Sh.adOf mg q.1) ∧ PySem.W.kitOne _ (.ref (Sh.adOf mg q.1)) (.ref (Sh.adOf mg "Nothing")) = some q.2 := (List.forall_mem_cons.mpr ⟨⟨xc_NoSaying, ki_Nothing_NoSaying⟩, (List.forall_mem_cons.mpr ⟨⟨xc_NoTree, ki_Nothing_NoTree⟩, (List.forall_mem_cons.mpr ⟨⟨xc_HasLetter, ki_Nothing_HasLetter⟩, (List.forall_mem_cons.mpr ⟨⟨xc_TooMany, ki_Nothing_TooMany⟩, (List.forall_mem_cons.mpr ⟨⟨xc_NoRule, ki_Nothing_NoRule⟩, (List.forall_mem_cons.mpr ⟨⟨xc_Outside, ki_Nothing_Outside⟩, (List.forall_mem_cons.mpr ⟨⟨xc_NoLine, ki_Nothing_NoLine⟩, (List.forall_mem_cons.mpr ⟨⟨xc_Nothing, ki_Nothing_Nothing⟩, (fun _ hh => absurd hh List.not_mem_nil)⟩)⟩)⟩)⟩)⟩)⟩)⟩)⟩)
    refine' (have ki_NoTree_NoSaying := Sh.kitXX (b := false) KX q_NoSaying q_NoTree ?me_90; ?rest_90)
    (case me_90 => kit_is)
    refine' (have ki_NoTree_NoTree := Sh.kitXX (b := true) KX q_NoTree q_NoTree ?me_91; ?rest_91)
    (case me_91 => kit_is)
    refine' (have ki_NoTree_HasLetter := Sh.kitXX (b := false) KX q_HasLetter q_NoTree ?me_92; ?rest_92)
    (case me_92 => kit_is)
    refine' (have ki_NoTree_TooMany := Sh.kitXX (b := false) KX q_TooMany q_NoTree ?me_93; ?rest_93)
    (case me_93 => kit_is)
    refine' (have ki_NoTree_NoRule := Sh.kitXX (b := false) KX q_NoRule q_NoTree ?me_94; ?rest_94)
    (case me_94 => kit_is)
    refine' (have ki_NoTree_Outside := Sh.kitXX (b := false) KX q_Outside q_NoTree ?me_95; ?rest_95)
    (case me_95 => kit_is)
    refine' (have ki_NoTree_NoLine := Sh.kitXX (b := false) KX q_NoLine q_NoTree ?me_96; ?rest_96)
    (case me_96 => kit_is)
    refine' (have ki_NoTree_Nothing := Sh.kitXX (b := false) KX q_Nothing q_NoTree ?me_97; ?rest_97)
    (case me_97 => kit_is)
    have xi_NoTree : ∀ q ∈ ([("NoSaying", false), ("NoTree", true), ("HasLetter", false), ("TooMany", false), ("NoRule", false), ("Outside", false), ("NoLine", false), ("Nothing", false)] : List (PySem.Str × Bool)), L2.ExcC _ (Sh.adOf mg q.1) ∧ PySem.W.kitOne _ (.ref (Sh.adOf mg q.1)) (.ref (Sh.adOf mg "NoTree")) = some q.2 := (List.forall_mem_cons.mpr ⟨⟨xc_NoSaying, ki_NoTree_NoSaying⟩, (List.forall_mem_cons.mpr ⟨⟨xc_NoTree, ki_NoTree_NoTree⟩, (List.forall_mem_cons.mpr ⟨⟨xc_HasLetter, ki_NoTree_HasLetter⟩, (List.forall_mem_cons.mpr ⟨⟨xc_TooMany, ki_NoTree_TooMany⟩, (List.forall_mem_cons.mpr ⟨⟨xc_NoRule, ki_NoTree_NoRule⟩, (List.forall_mem_cons.mpr ⟨⟨xc_Outside, ki_NoTree_Outside⟩, (List.forall_mem_cons.mpr ⟨⟨xc_NoLine, ki_NoTree_NoLine⟩, (List.forall_mem_cons.mpr ⟨⟨xc_Nothing, ki_NoTree_Nothing⟩, (fun _ hh => absurd hh List.not_mem_nil)⟩)⟩)⟩)⟩)⟩)⟩)⟩)⟩)
    refine' (have ki_HasLetter_NoSaying := Sh.kitXX (b := false) KX q_NoSaying q_HasLetter ?me_98; ?rest_98)
    (case me_98 => kit_is)
    refine' (have ki_HasLetter_NoTree := Sh.kitXX (b := false) KX q_NoTree q_HasLetter ?me_99; ?rest_99)
    (case me_99 => kit_is)
    refine' (have ki_HasLetter_HasLetter := Sh.kitXX (b := true) KX q_HasLetter q_HasLetter ?me_100; ?rest_100)
    (case me_100 => kit_is)
    refine' (have ki_HasLetter_TooMany := Sh.kitXX (b := false) KX q_TooMany q_HasLetter ?me_101; ?rest_101)
    (case me_101 => kit_is)
    refine' (have ki_HasLetter_NoRule := Sh.kitXX (b := false) KX q_NoRule q_HasLetter ?me_102; ?rest_102)
    (case me_102 => kit_is)
    refine' (have ki_HasLetter_Outside := Sh.kitXX (b := false) KX q_Outside q_HasLetter ?me_103; ?rest_103)
    (case me_103 => kit_is)
    refine' (have ki_HasLetter_NoLine := Sh.kitXX (b := false) KX q_NoLine q_HasLetter ?me_104; ?rest_104)
    (case me_104 => kit_is)
    refine' (have ki_HasLetter_Nothing := Sh.kitXX (b := false) KX q_Nothing q_HasLetter ?me_105; ?rest_105)
    (case me_105 => kit_is)
    have xi_HasLetter : ∀ q ∈ ([("NoSaying", false), ("NoTree", false), ("HasLetter", true), ("TooMany", false), ("NoRule", false), ("Outside", false), ("NoLine", false), ("Nothing", false)] : List (PySem.Str × Bool)), L2.ExcC _ (Sh.adOf mg q.1) ∧ PySem.W.kitOne _ (.ref (Sh.adOf mg q.1)) (.ref (Sh.adOf mg "HasLetter")) = some q.2 := (List.forall_mem_cons.mpr ⟨⟨xc_NoSaying, ki_HasLetter_NoSaying⟩, (List.forall_mem_cons.mpr ⟨⟨xc_NoTree, ki_HasLetter_NoTree⟩, (List.forall_mem_cons.mpr ⟨⟨xc_HasLetter, ki_HasLetter_HasLetter⟩, (List.forall_mem_cons.mpr ⟨⟨xc_TooMany, ki_HasLetter_TooMany⟩, (List.forall_mem_cons.mpr ⟨⟨xc_NoRule, ki_HasLetter_NoRule⟩, (List.forall_mem_cons.mpr ⟨⟨xc_Outside, ki_HasLetter_Outside⟩, (List.forall_mem_cons.mpr ⟨⟨xc_NoLine, ki_HasLetter_NoLine⟩, (List.forall_mem_cons.mpr ⟨⟨xc_Nothing, ki_HasLetter_Nothing⟩, (fun _ hh => absurd hh List.not_mem_nil)⟩)⟩)⟩)⟩)⟩)⟩)⟩)⟩)
    refine' (have ki_SayError_NoSaying := Sh.kitXX (b := true) KX q_NoSaying q_SayError ?me_106; ?rest_106)
    (case me_106 => kit_is)
    refine' (have ki_SayError_NoTree := Sh.kitXX (b := true) KX q_NoTree q_SayError ?me_107; ?rest_107)
    (case me_107 => kit_is)
    refine' (have ki_SayError_HasLetter := Sh.kitXX (b := true) KX q_HasLetter q_SayError ?me_108; ?rest_108)
    (case me_108 => kit_is)
    refine' (have ki_SayError_TooMany := Sh.kitXX (b := true) KX q_TooMany q_SayError ?me_109; ?rest_109)
    (case me_109 => kit_is)
    refine' (have ki_SayError_NoRule := Sh.kitXX (b := true) KX q_NoRule q_SayError ?me_110; ?rest_110)
    (case me_110 => kit_is)
    refine' (have ki_SayError_Outside := Sh.kitXX (b := true) KX q_Outside q_SayError ?me_111; ?rest_111)
    (case me_111 => kit_is)
    refine' (have ki_SayError_NoLine := Sh.kitXX (b := true) KX q_NoLine q_SayError ?me_112; ?rest_112)
    (case me_112 => kit_is)
    refine' (have ki_SayError_Nothing := Sh.kitXX (b := true) KX q_Nothing q_SayError ?me_113; ?rest_113)
    (case me_113 => kit_is)
    have xi_SayError : ∀ q ∈ ([("NoSaying", true), ("NoTree", true), ("HasLetter", true), ("TooMany", true), ("NoRule", true), ("Outside", true), ("NoLine", true), ("Nothing", true)] : List (PySem.Str × Bool)), L2.ExcC _ (Sh.adOf mg q.1) ∧ PySem.W.kitOne _ (.ref (Sh.adOf mg q.1)) (.ref (Sh.adOf mg "SayError")) = some q.2 := (List.forall_mem_cons.mpr ⟨⟨xc_NoSaying, ki_SayError_NoSaying⟩, (List.forall_mem_cons.mpr ⟨⟨xc_NoTree, ki_SayError_NoTree⟩, (List.forall_mem_cons.mpr ⟨⟨xc_HasLetter, ki_SayError_HasLetter⟩, (List.forall_mem_cons.mpr ⟨⟨xc_TooMany, ki_SayError_TooMany⟩, (List.forall_mem_cons.mpr ⟨⟨xc_NoRule, ki_SayError_NoRule⟩, (List.forall_mem_cons.mpr ⟨⟨xc_Outside, ki_SayError_Outside⟩, (List.forall_mem_cons.mpr ⟨⟨xc_NoLine, ki_SayError_NoLine⟩, (List.forall_mem_cons.mpr ⟨⟨xc_Nothing, ki_SayError_Nothing⟩, (fun _ hh => absurd hh List.not_mem_nil)⟩)⟩)⟩)⟩)⟩)⟩)⟩)⟩)
    refine' (have ki_ValueError_NoSaying := Sh.kitXT (b := true) (T := "ValueError") KX q_NoSaying ?me_114; ?rest_114)
    (case me_114 => kit_is)
    refine' (have ki_ValueError_NoTree := Sh.kitXT (b := true) (T := "ValueError") KX q_NoTree ?me_115; ?rest_115)
    (case me_115 => kit_is)
    refine' (have ki_ValueError_HasLetter := Sh.kitXT (b := true) (T := "ValueError") KX q_HasLetter ?me_116; ?rest_116)
    (case me_116 => kit_is)
    refine' (have ki_ValueError_TooMany := Sh.kitXT (b := true) (T := "ValueError") KX q_TooMany ?me_117; ?rest_117)
    (case me_117 => kit_is)
    refine' (have ki_ValueError_NoRule := Sh.kitXT (b := true) (T := "ValueError") KX q_NoRule ?me_118; ?rest_118)
    (case me_118 => kit_is)
    refine' (have ki_ValueError_Outside := Sh.kitXT (b := true) (T := "ValueError") KX q_Outside ?me_119; ?rest_119)
    (case me_119 => kit_is)
    refine' (have ki_ValueError_NoLine := Sh.kitXT (b := true) (T := "ValueError") KX q_NoLine ?me_120; ?rest_120)
    (case me_120 => kit_is)
    refine' (have ki_ValueError_Nothing := Sh.kitXT (b := true) (T := "ValueError") KX q_Nothing ?me_121; ?rest_121)
    (case me_121 => kit_is)
    have xi_ValueError : ∀ q ∈ ([("NoSaying", true), ("NoTree", true), ("HasLetter", true), ("TooMany", true), ("NoRule", true), ("Outside", true), ("NoLine", true), ("Nothing", true)] : List (PySem.Str × Bool)), L2.ExcC _ (Sh.adOf mg q.1) ∧ PySem.W.kitOne _ (.ref (Sh.adOf mg q.1)) (.type "ValueError") = some q.2 := (List.forall_mem_cons.mpr ⟨⟨xc_NoSaying, ki_ValueError_NoSaying⟩, (List.forall_mem_cons.mpr ⟨⟨xc_NoTree, ki_ValueError_NoTree⟩, (List.forall_mem_cons.mpr ⟨⟨xc_HasLetter, ki_ValueError_HasLetter⟩, (List.forall_mem_cons.mpr ⟨⟨xc_TooMany, ki_ValueError_TooMany⟩, (List.forall_mem_cons.mpr ⟨⟨xc_NoRule, ki_ValueError_NoRule⟩, (List.forall_mem_cons.mpr ⟨⟨xc_Outside, ki_ValueError_Outside⟩, (List.forall_mem_cons.mpr ⟨⟨xc_NoLine, ki_ValueError_NoLine⟩, (List.forall_mem_cons.mpr ⟨⟨xc_Nothing, ki_ValueError_Nothing⟩, (fun _ hh => absurd hh List.not_mem_nil)⟩)⟩)⟩)⟩)⟩)⟩)⟩)⟩)
    refine' (have km_SayError_NoSaying := Sh.exmXX KX q_NoSaying q_SayError ?h1_122 ?hd_122 ?ht_122 ?h4_122; ?rest_122)
    (case h1_122 => k_is); (case hd_122 => k_is); (case ht_122 => k_is); (case h4_122 => k_is)
    refine' (have km_SayError_NoTree := Sh.exmXX KX q_NoTree q_SayError ?h1_123 ?hd_123 ?ht_123 ?h4_123; ?rest_123)
    (case h1_123 => k_is); (case hd_123 => k_is); (case ht_123 => k_is); (case h4_123 => k_is)
    refine' (have km_SayError_HasLetter := Sh.exmXX KX q_HasLetter q_SayError ?h1_124 ?hd_124 ?ht_124 ?h4_124; ?rest_124)
    (case h1_124 => k_is); (case hd_124 => k_is); (case ht_124 => k_is); (case h4_124 => k_is)
    refine' (have km_SayError_TooMany := Sh.exmXX KX q_TooMany q_SayError ?h1_125 ?hd_125 ?ht_125 ?h4_125; ?rest_125)
    (case h1_125 => k_is); (case hd_125 => k_is); (case ht_125 => k_is); (case h4_125 => k_is)
    refine' (have km_SayError_NoRule := Sh.exmXX KX q_NoRule q_SayError ?h1_126 ?hd_126 ?ht_126 ?h4_126; ?rest_126)
    (case h1_126 => k_is); (case hd_126 => k_is); (case ht_126 => k_is); (case h4_126 => k_is)
    refine' (have km_SayError_Outside := Sh.exmXX KX q_Outside q_SayError ?h1_127 ?hd_127 ?ht_127 ?h4_127; ?rest_127)
    (case h1_127 => k_is); (case hd_127 => k_is); (case ht_127 => k_is); (case h4_127 => k_is)
    refine' (have km_SayError_NoLine := Sh.exmXX KX q_NoLine q_SayError ?h1_128 ?hd_128 ?ht_128 ?h4_128; ?rest_128)
    (case h1_128 => k_is); (case hd_128 => k_is); (case ht_128 => k_is); (case h4_128 => k_is)
    refine' (have km_SayError_Nothing := Sh.exmXX KX q_Nothing q_SayError ?h1_129 ?hd_129 ?ht_129 ?h4_129; ?rest_129)
    (case h1_129 => k_is); (case hd_129 => k_is); (case ht_129 => k_is); (case h4_129 => k_is)
    have xt_SayError : ∀ c ∈ ([("NoSaying", 1), ("NoTree", 1), ("HasLetter", 1), ("TooMany", 0), ("NoRule", 0), ("Outside", 0), ("NoLine", 0), ("Nothing", 0)] : List (PySem.Str × Nat)), PySem.W.exmOne _ (.ref (Sh.adOf mg c.1)) (.ref (Sh.adOf mg "SayError")) = some true ∧ ((fun c => (List.lookup c ([("NoSaying", ["place"]), ("NoTree", ["room"]), ("HasLetter", ["letter"])] : List (PySem.Str × List PySem.Str))).getD []) c.1).length = c.2 := (List.forall_mem_cons.mpr ⟨⟨km_SayError_NoSaying, (by decide +kernel)⟩, (List.forall_mem_cons.mpr ⟨⟨km_SayError_NoTree, (by decide +kernel)⟩, (List.forall_mem_cons.mpr ⟨⟨km_SayError_HasLetter, (by decide +kernel)⟩, (List.forall_mem_cons.mpr ⟨⟨km_SayError_TooMany, (by decide +kernel)⟩, (List.forall_mem_cons.mpr ⟨⟨km_SayError_NoRule, (by decide +kernel)⟩, (List.forall_mem_cons.mpr ⟨⟨km_SayError_Outside, (by decide +kernel)⟩, (List.forall_mem_cons.mpr ⟨⟨km_SayError_NoLine, (by decide +kernel)⟩, (List.forall_mem_cons.mpr ⟨⟨km_SayError_Nothing, (by decide +kernel)⟩, (fun _ hh => absurd hh List.not_mem_nil)⟩)⟩)⟩)⟩)⟩)⟩)⟩)⟩)
    refine' (have xf_NoSaying_f := Sh.excFAt (x := "NoSaying") (f := "place") (fs := (fun c => (List.lookup c ([("NoSaying", ["place"]), ("NoTree", ["room"]), ("HasLetter", ["letter"])] : List (PySem.Str × List PySem.Str))).getD [])) KX q_NoSaying ?ga_130 ?gg_130 ?hs_130 ?hd_130 ?nf_130; ?rest_130)
    (case ga_130 => k_is); (case gg_130 => k_is); (case hs_130 => k_is); (case hd_130 => k_is); (case nf_130 => k_is)
    have xf_NoSaying := xf_NoSaying_f (by decide +kernel)
    refine' (have xf_NoTree_f := Sh.excFAt (x := "NoTree") (f := "room") (fs := (fun c => (List.lookup c ([("NoSaying", ["place"]), ("NoTree", ["room"]), ("HasLetter", ["letter"])] : List (PySem.Str × List PySem.Str))).getD [])) KX q_NoTree ?ga_131 ?gg_131 ?hs_131 ?hd_131 ?nf_131; ?rest_131)
    (case ga_131 => k_is); (case gg_131 => k_is); (case hs_131 => k_is); (case hd_131 => k_is); (case nf_131 => k_is)
    have xf_NoTree := xf_NoTree_f (by decide +kernel)
    refine' (have xf_HasLetter_f := Sh.excFAt (x := "HasLetter") (f := "letter") (fs := (fun c => (List.lookup c ([("NoSaying", ["place"]), ("NoTree", ["room"]), ("HasLetter", ["letter"])] : List (PySem.Str × List PySem.Str))).getD [])) KX q_HasLetter ?ga_132 ?gg_132 ?hs_132 ?hd_132 ?nf_132; ?rest_132)
    (case ga_132 => k_is); (case gg_132 => k_is); (case hs_132 => k_is); (case hd_132 => k_is); (case nf_132 => k_is)
    have xf_HasLetter := xf_HasLetter_f (by decide +kernel)
    refine' (have c_WORDS := Sh.dicK_mk (w := w) (x := "WORDS") (ps := Law.dc_WORDS) KX G ?a_133 ?l_133 ?hk_133 ?hv_133 ?lw_133; ?rest_133)
    (case a_133 => k_is); (case l_133 => k_is); (case hk_133 => exact ⟨⟨_, _, rfl, rfl⟩, ⟨⟨_, _, rfl, rfl⟩, ⟨⟨_, _, rfl, rfl⟩, trivial⟩⟩⟩); (case hv_133 => exact ⟨⟨_, rfl⟩, .inl ⟨_, _, rfl, rfl⟩, ⟨⟨_, rfl⟩, .inl ⟨_, _, rfl, rfl⟩, ⟨⟨_, rfl⟩, .inl ⟨_, _, rfl, rfl⟩, trivial⟩⟩⟩); (case lw_133 => decide +kernel)
    exact ⟨d_law, fun base KB GB f fd F => Law.ok_the_law (G := ⟨_, w, _, mg, base⟩) (κ := ⟨Sh.adOf mg, (fun c => (List.lookup c ([("NoSaying", ["place"]), ("NoTree", ["room"]), ("HasLetter", ["letter"])] : List (PySem.Str × List PySem.Str))).getD [])⟩) ⟨z_len, z_int, z_bool, z_isinstance, z_range, z_ValueError, d_sign_at, d_read_from, d_read, d__law_mix, d__law_built, d__law_text, d__law_bad_place, d__law_spoilt, d__law_told, d__law_kinds, d__law_made_well, d__law_asked, d_law, g_NoSaying, g_NoTree, g_HasLetter, g_TooMany, g_NoRule, g_Outside, g_NoLine, g_Nothing, g_SayError, x_TooMany, x_NoRule, x_Outside, x_NoLine, x_Nothing, (y_NoSaying _ _ _), (y_NoTree _ _ _), (y_HasLetter _ _ _), xc_NoSaying, xc_NoTree, xc_HasLetter, xc_TooMany, xc_NoRule, xc_Outside, xc_NoLine, xc_Nothing, xi_NoSaying, xi_TooMany, xi_NoRule, xi_Outside, xi_NoLine, xi_Nothing, xi_NoTree, xi_HasLetter, xi_SayError, xi_ValueError, xt_SayError, xf_NoSaying, xf_NoTree, xf_HasLetter, c_WORDS⟩ f fd F⟩

