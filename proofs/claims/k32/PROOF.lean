import PyProof.Rows.All
import HandS.EndBits
import HandS.CallSlots
import HandS.ExcOwn
import HandS.WordsExc
import PyProof.ReprRoads
import HandS.Iter
import HandS.TupAny
import HandS.List
import Wide.All
import OpenK.AllK
import Wide.FinOn
import HandS.ForMost
import HandS.ForExc
import HandS.Wide
import HandS.Flow
import HandS.Zip
import KE.DataEq
import HandS.Lambda
import HandS.IsInst
import HandS.EndTab
import HandS.SortKw
import PyProof.MinMaxWalk
import PyProof.WalkInts
import HandS.Text
import HandS.TupLe
import HandS.More
import HandS.DictEq
import HandS.DeepEq
import KE.LtSeq
import KE.LtData
import HandS.SortOrd
import HandS.SortRule
import HandS.RevRange
import HandS.Rev
import HandS.Deep
import HandS.Replace
import KE.GoesMore
import HandS.ClsMeth
import HandS.Conv
import HandS.Codes
import KE.KExcIs
import HandS.ExcIs
import HandS.ExcField
import HandS.TryOnly
import PyProof.StrBlock2
import PyProof.Draws
import PyProof.EnumMake
import HandS.ExcInit
import HandS.ReplaceLit
import HandS.StrMore
import PyProof.StrLawsReplace
import KE.SortKeyHeap
import KE.DataFind
import KE.SortData
import KE.KDictSum
import KE.KDictList
import HandS.ExcValue
import HandS.SetFor
import HandS.Strs
import HandS.Spec
import PySem.Challenge.RW_selfsay_k32_what_a_claim_needs
set_option Elab.async false
set_option linter.all false
set_option maxRecDepth 100000
set_option maxHeartbeats 4000000
/-! Pl0: promises of defs that may count on no repr being under way, and on one frame for one call. -/
namespace L2
open PySem PySem.Spec PyProof.Rows
/-- room for k calls within one another; no repr is under way -/
structure RoomW (k : Nat) (A : Around) : Prop where
  gd : A.guards = some []
  dp : A.depth + k + 8 < recursionLimit
  un : A.units + 4 * k + 220 < cLine
structure RoomG (k : Nat) (A : Around) : Prop where
  hd : A.handled = none
  gd : A.guards = some []
  dp : A.depth + k + 8 < recursionLimit
  un : A.units + 4 * k + 220 < cLine
theorem RoomG.w {k : Nat} {A : Around} (r : RoomG k A) : RoomW k A := ⟨r.gd, r.dp, r.un⟩
theorem RoomG.mono {j k : Nat} {A : Around} (r : RoomG k A) (h : j ≤ k) : RoomG j A := ⟨r.hd, r.gd, by have := r.dp; omega, by have := r.un; omega⟩
theorem RoomG.deeper {k : Nat} {A : Around} (r : RoomG (k + 1) A) (env : Env) : RoomG k (A.deeper env) :=
  ⟨r.hd, r.gd, by have := r.dp; show A.depth + 1 + k + 8 < _; omega, by have := r.un; show A.units + 3 + 4 * k + 220 < _; omega⟩
theorem RoomG.depth {k : Nat} {A : Around} (r : RoomG k A) : A.depth < recursionLimit := by have := r.dp; omega
theorem RoomG.units {k : Nat} {A : Around} (r : RoomG k A) : A.units + 64 < cLine := by have := r.un; omega
/-- room in the library's own sense -/
theorem RoomG.room {n k : Nat} {A : Around} (r : RoomG n A) (h : 4 * k ≤ n) : Room k A := ⟨r.hd, by have := r.dp; omega, by have := r.un; omega⟩
structure FnG (P : Program) (w : World) (K : PySem.W.Frag) (mg : Str → Option Value) (base : Heap) (CX : CXT) (k : Nat) (f : Addr) (fd : FuncData) (ps : List Str) (sp : Sp) : Prop where
  len : ∀ vs H Q E, sp vs H Q E → vs.length = ps.length
  run : ∀ (A : Around) (outer : List Env) (s : Shared) (H : Hp) (args : Args) (us : List Value) (vs : List V) (Q : VK) (E : XK), RoomG k A → Env0 P w K mg base A outer s H → BindsTo s fd args (ps.zip us) → Vals vs us → sp vs H Q E →
    codeAny (model P w) A (.call (.ref f) args) (CR CX outer P w H s Q E) s
theorem FnG.mono {P : Program} {w : World} {K : PySem.W.Frag} {mg : Str → Option Value} {base : Heap} {CX : CXT} {j k : Nat} {f : Addr} {fd : FuncData} {ps : List Str} {sp : Sp} (F : FnG P w K mg base CX j f fd ps sp) (h : j ≤ k) :
    FnG P w K mg base CX k f fd ps sp := ⟨F.len, fun A outer s H args us vs Q E hr => F.run A outer s H args us vs Q E (hr.mono h)⟩
theorem FnG.imp {P : Program} {w : World} {K : PySem.W.Frag} {mg : Str → Option Value} {base : Heap} {CX : CXT} {k : Nat} {f : Addr} {fd : FuncData} {ps : List Str} {sp sp' : Sp} (F : FnG P w K mg base CX k f fd ps sp)
    (h : ∀ vs H Q E, sp' vs H Q E → sp vs H Q E) : FnG P w K mg base CX k f fd ps sp' :=
  ⟨fun vs H Q E q => F.len vs H Q E (h _ _ _ _ q), fun A outer s H args us vs Q E hr he hb hv hs => F.run A outer s H args us vs Q E hr he hb hv (h _ _ _ _ hs)⟩
section
variable {X : Cx} {CX : CXT} {k : Nat} {f C : Addr} {fd : FuncData} {ps : List Str} {sp : Sp} {dvs : List V} {ds : List Value} {E : XK} {x m : Str} {p pos apos : Pos} {e o : Expr} {es : List Expr} {ta : TE} {t : TA}
end
section
variable {X : Cx} {CX : CXT} {k : Nat} {f : Addr} {fd : FuncData} {ps : List Str} {sp : Sp} {dvs : List V} {ds : List Value} {E : St → XK} {x : Str} {p pos : Pos} {e : Expr} {es : List Expr} {t : TA}
theorem run_fnSDG {pins : List (Addr × Obj)} {σ : St} {H : Hp} {s : Shared} {Q : VK} {us : List Value} {vs : List V} (F : FnG X.prog X.w X.K X.mg X.base CX k f fd ps sp) (hr : RoomG k X.A) (hb : Binds X.K fd ps ds) (hd : Vals dvs ds) (hx : PassesAt CX X σ (E σ))
    (I : Inv X pins σ H s) (r : Vals vs us) (h : sp (vs ++ dvs) H Q (E σ)) : wpAny (model X.prog X.w) X.A (call (.ref f) us) (EP X pins σ Q) X.xe s := by
  have r2 : Vals (vs ++ dvs) (us ++ ds) := r.append hd
  have hl : (us ++ ds).length = ps.length := by rw [← r2.length]; exact F.len _ _ _ _ h
  refine wpAny_call (codeAny_mono (F.run X.A X.stack s H ⟨us, []⟩ (us ++ ds) (vs ++ dvs) Q (E σ) hr I.env0 (hb s us I.kIn hl) r2 h) fun r s' hq => ?_)
  cases r with
  | error e => exact hx pins H s e s' I hq
  | ok fl =>
    cases fl with
    | ret u => exact I.after hq
    | next => exact False.elim hq
    | brk => exact False.elim hq
    | cont => exact False.elim hq
theorem pe_callSDG (F : FnG X.prog X.w X.K X.mg X.base CX k f fd ps sp) (hr : RoomG k X.A) (hg : Gl X x) (hm : X.mg x = some (.ref f)) (hk : PySem.W.keepIn X.K (.ref f) = true) (hb : Binds X.K fd ps ds) (hd : Vals dvs ds) (hx : ∀ σ, PassesAt CX X σ (E σ))
    (ha : PA X (e :: es) t) (hdb : (x == ("__debug__" : Str)) = false := by decide) (he : starEach (e :: es) X.env = (false, eval e X.env) :: starEach es X.env := by rfl) (hpl : (backTo pos (starEach es X.env)).any (·.1) = false := by rfl) :
    PE X (.Call (.Name x p) (e :: es) [] pos) (tCallSD sp dvs E t) := by
  refine ⟨fun pins s σ H Q I h => ?_⟩
  refine wpAny_Call_Name_kw (ld_glob I hg hm ?_ hdb)
  refine PySem.W.callWith_K (h₀ := X.base) I.ok.mod.kin hk (thn (ha.run pos pins s σ H _ I h) fun us s1 ⟨vs, H1, I1, r, q⟩ => ⟨I1.kIn, ?_⟩) he hpl
  exact run_fnSDG F hr hb hd (hx σ) I1 r q
end
theorem fn_ofG {CX : CXT} {P : Program} {w : World} {K : PySem.W.Frag} {mg : Str → Option Value} {base : Heap} {k : Nat} {f : Addr} {name qual : Str} {params : Arguments} {body : List Stmt} {scope : Scope} {dV kV doc pm cdv ct oc : Value} {an od : Option Addr}
    {osl : Array (Option Value)} {N ps : List Str} {sp : Sp} (lk : K.lookup f = some ⟨oc, od, .func (PySem.W.fnOf name qual params body scope dV kV doc pm an cdv ct), osl⟩) (hcd : PySem.W.codeIn K cdv qual = true) (S : FnScope N ps scope)
    (len : ∀ vs H Q E, sp vs H Q E → vs.length = ps.length)
    (hbody : ∀ (A : Around) (outer : List Env) (s : Shared) (H : Hp) (vs : List V) (Q : VK) (E : XK), RoomG k (A.deeper (envOfC qual scope s.heap.objs.size f cdv)) → sp vs H Q E →
      ∃ t, PSs (cxOf CX P w K mg base N qual scope f cdv A outer s H E) body t ∧ t { nx := fun _ H' => Q .non H', rt := Q } (start N vs) H) :
    FnG P w K mg base CX (k + 1) f (PySem.W.fnOf name qual params body scope dV kV doc pm an cdv ct) ps sp := by
  refine ⟨len, fun A outer s H args us vs Q E hr e0 hb r hsp => ?_⟩
  have hl := len _ _ _ _ hsp
  have KX : K.In s.heap := e0.mod.kin.keeps fun b o e => (e0.bs b o e).1
  have lim : s.heap.NoLimit := e0.mod.nolimit.keeps fun b o e => (e0.bs b o e).1
  have hkind : ∀ y ∈ ps.zip us, scope.names.lookup y.1 = some .local ∨ (scope.names.lookup y.1 = some .cell ∧ ((cellsFrom (s.heap.objs.size + 1) scope.names []).lookup y.1).isSome = true) := fun ⟨n, v⟩ hy => by
    rcases S.par n (List.of_mem_zip hy).1 with q | q
    · exact .inl q
    · exact .inr ⟨q, PySem.W.cellsFrom_some _ _ _ (.inl q)⟩
  refine codeAny_call_function hr.depth (KX _ _ lk) rfl S.co S.gen rfl (PySem.W.codeRec_of KX hcd) (hb _ _ _ _ ?_)
  refine wpAny_newFunctionEnv_cells S.kind hkind fun env he s1 x => ?_
  subst he
  refine ⟨lim.keeps x.toInCall.keep, codeAny_func ?_⟩
  obtain ⟨t, ht, hq⟩ := hbody A outer s H vs Q E (hr.deeper _) hsp
  have I : Inv (cxOf CX P w K mg base N qual scope f cdv A outer s H E) [] (start N vs) H s1 := inv_start S hr.hd e0 hl r x
  refine wpAny_mono (ht.run [] s1 (start N vs) H _ I hq) (fun fl s' hs => ?_) fun e s' hs => hs
  have fin : ∀ {σ' : St} {H' : Hp} {v : V} {u : Value}, Inv (cxOf CX P w K mg base N qual scope f cdv A outer s H E) [] σ' H' s' → RelV v u → Q v H' → CE outer P w H s Q u s' :=
    fun {σ' H' v u} J rv q => ⟨v, H', J.os, J.bare, J.base, J.hok, rv, q⟩
  cases fl with
  | ret u =>
    obtain ⟨v, σ', H', J, rv, q⟩ := hs
    exact fin J rv q
  | next =>
    obtain ⟨σ', H', J, q⟩ := hs
    exact fin (v := V.non) (u := Value.none) J rfl q
  | brk =>
    obtain ⟨_, _, _, q⟩ := hs
    exact False.elim q
  | cont =>
    obtain ⟨_, _, _, q⟩ := hs
    exact False.elim q
section
variable {P : Program} {w : World} {K : PySem.W.Frag} {mg : Str → Option Value} {base : Heap}
theorem Fun.okXG {x qual : Str} {st : Stmt} {f : Addr} {fd : FuncData} {N ps : List Str} {k : Nat} {sp : Sp} (F : Fun K x qual st f fd) (S : FnScope N ps (defScope st)) (len : ∀ vs H Q E, sp vs H Q E → vs.length = ps.length)
    (hbody : ∀ (cdv : Value) (A : Around) (outer : List Env) (s : Shared) (H : Hp) (vs : List V) (Q : VK) (E : XK), fd.code = cdv → RoomG k (A.deeper (envOfC qual (defScope st) s.heap.objs.size f cdv)) → sp vs H Q E →
      ∃ t, PSs (cxOf (L2.CX P w) P w K mg base N qual (defScope st) f cdv A outer s H E) (defBody st) t ∧ t { nx := fun _ H' => Q .non H', rt := Q } (start N vs) H) : FnG P w K mg base (L2.CX P w) (k + 1) f fd ps sp := by
  obtain ⟨oc, od, kV, doc, pm, an, cdv, ct, osl, rfl, lk, hcd⟩ := F.ex
  exact fn_ofG lk hcd S len fun A outer s H vs Q E hr hsp => hbody cdv A outer s H vs Q E rfl hr hsp
end
theorem law_callG {P : Program} {w : World} {K : PySem.W.Frag} {mg mb : Str → Option Value} {CX : CXT} {k : Nat} {fa a : Addr} {fd : FuncData} {x : Str} {sp : Sp} {s₁ : Shared} {vs : List Value} {ns : List Int}
    (KX : K.In s₁.heap) (hns : s₁.heap.Ns mainGlobals mg) (hb : s₁.heap.Ns builtinsNs mb) (hbb : ∀ x : Str, x ≠ "__name__" → mb x = bootBuiltins x) (hlim : s₁.heap.NoLimit) (hg : s₁.gens = #[])
    (ha : s₁.heap.get? a = some { cls := .type "list", data := .seq vs.toArray }) (hi : IntsAre vs ns) (hl : ns.length ≤ sizeLine) (hr : RoomG k callerA)
    (F : ∀ base : Heap, K.In base → base.Ns mainGlobals mg → FnG P w K mg base CX k fa fd [x] sp) (hbind : ∀ (s : Shared) (u : Value), BindsTo s fd ⟨[u], []⟩ [(x, u)])
    (hsp : ∀ H : Hp, Only H → SqL K H a (ns.map V.int) → sp [.ref a] H (fun v _ => v = .bl true) fun _ _ _ => False)
    (hCX : ∀ H e s', CX [] H s₁ (fun _ _ _ => False) e s' → False) :
    codeAny (model P w) callerA (.call (.ref fa) ⟨[.ref a], []⟩) (fun r s' => r = .ok (.ret (.bool true)) ∧ OldK s₁.heap s'.heap ∧ s'.os = s₁.os ∧ AllBare s'.gens) s₁ := by
  have rv := vals_ints hi
  have lenV := hi.length
  -- from an abstract heap in which nothing but the script may be tracked
  have core : ∀ H : Hp, Only H → SqL K H a (ns.map V.int) → HOk P w H s₁.heap → (∀ b, H b ≠ none → b = a) → (H a ≠ none → K.lookup a = none) →
      codeAny (model P w) callerA (.call (.ref fa) ⟨[.ref a], []⟩) (fun r s' => r = .ok (.ret (.bool true)) ∧ OldK s₁.heap s'.heap ∧ s'.os = s₁.os ∧ AllBare s'.gens) s₁ := by
    intro H hO hS hok hA hK
    have base_of : ∀ {b : Addr} {o : Obj}, s₁.heap.get? b = some o → H b = none → (hidT s₁.heap H).get? b = some o := fun e n => hidT_get e n
    have noA : ∀ {b : Addr} {o : Obj} {es : Array DictEntry} {ep : Nat}, s₁.heap.get? b = some o → o.data = .dict es ep → H b = none := fun {b o es ep} e d => by
      cases q : H b with
      | none => rfl
      | some u =>
        have e' : b = a := hA b (by rw [q]; simp)
        subst e'
        rw [ha] at e; cases e
        have d' : Data.seq vs.toArray _ = Data.dict es ep := d
        cases d'
    have nsK : ∀ {b : Addr} {m : Str → Option Value}, s₁.heap.Ns b m → (hidT s₁.heap H).Ns b m := fun {b m} ⟨o, es, ep, e, d, r⟩ => ⟨o, es, ep, base_of e (noA e d), d, r⟩
    have hKb : K.In (hidT s₁.heap H) := fun b o e => base_of (KX b o e) (by
      cases q : H b with
      | none => rfl
      | some u =>
        have e' : b = a := hA b (by rw [q]; simp)
        subst e'
        rw [hK (by rw [q]; simp)] at e; cases e)
    have hM : Mod K mg (hidT s₁.heap H) := ⟨hKb, nsK hns, ⟨mb, nsK hb, hbb⟩, let ⟨mc, h1, h2⟩ := hlim; ⟨mc, nsK h1, h2⟩⟩
    have e0 : Env0 P w K mg (hidT s₁.heap H) callerA [] s₁ H := ⟨rfl, hM, fun b o e => of_hidT e, Nat.le_of_eq (hidT_size _ _), trivial, fun b hb => absurd (show b ∈ ([] : List Addr) from hb) (by simp), hok, .of_eq hg⟩
    refine codeAny_mono ((F _ hKb (nsK hns)).run callerA [] s₁ H ⟨[.ref a], []⟩ [.ref a] [.ref a] _ _ hr e0 (hbind s₁ (.ref a)) (.cons rfl .nil) (hsp H hO hS)) fun r s' h => ?_
    cases r with
    | error e => exact (hCX H e s' h).elim
    | ok fl =>
      cases fl with
      | next => exact False.elim h
      | brk => exact False.elim h
      | cont => exact False.elim h
      | ret u =>
        obtain ⟨v, H', os, bare, un, hok', r', q⟩ := h
        have q' : v = .bl true := q
        subst q'
        obtain rfl : u = Value.bool true := r'
        refine ⟨rfl, OldK.of_keep fun b o e => ?_, os, bare⟩
        cases q : H b with
        | none => exact un.keep b o e q (by intro z; exact absurd (show b ∈ ([] : List Addr) from z) (by simp)) (by simp)
        | some u =>
          rcases hO b with z | ⟨ob, xs, z⟩
          · rw [q] at z; cases z
          · have z2 := un.frzs b ob _ z
            obtain ⟨e1, _⟩ := hok b _ z
            obtain ⟨e2, _⟩ := hok' b _ z2
            rw [e] at e1; cases e1
            exact e2
  cases hk : K.lookup a with
  | some o =>
    -- the script is one of the module's own objects
    have e := KX a o hk
    rw [ha] at e
    cases e
    refine core (fun _ => none) (fun _ => .inl rfl) (.inr ⟨_, vs.toArray, _, hk, rfl, rfl, rfl, by rw [List.size_toArray, lenV]; exact hl, by simpa using rv⟩) (fun b u z => by have z' : (none : Option HO) = some u := z; cases z') (fun b z => absurd rfl z) fun z => absurd rfl z
  | none =>
    refine core (fun b => if b = a then some (.frz { cls := .type "list", data := .seq vs.toArray } (.lst (ns.map V.int))) else none) (fun b => ?_) (.inl (.inr ⟨{ cls := .type "list", data := .seq vs.toArray }, if_pos rfl⟩)) (fun b u z => ?_) (fun b z => ?_) fun _ => hk
    · by_cases hb : b = a
      · exact .inr ⟨_, _, if_pos hb⟩
      · exact .inl (if_neg hb)
    · by_cases hb : b = a
      · have z' := (if_pos hb).symm.trans z
        cases z'
        subst hb
        exact ⟨ha, by rw [List.length_map]; exact hl, vs, _, rv, ha⟩
      · have z' := (if_neg hb).symm.trans z
        cases z'
    · by_cases hb : b = a
      · exact hb
      · exact absurd (if_neg hb) z
theorem walk_ofG {l : PySem.W.OpenLaw} {n k : Nat} {q : Program} {loose : List Str} {XP : (Str → Option Value) → Heap → Prop} {YP : World → Heap → Prop} {d : DefRec} {K : Params → PySem.W.Frag} {CX : World → CXT} {sp : World → Sp} {x : Str}
    (hn : l.most = some n) (hn2 : n ≤ sizeLine) (hdf : d.params.defaults = []) (hr : RoomG k callerA)
    (hY : ∀ (w : World) (h : Heap), YP w h → (K w.params).In h)
    (F : ∀ (w : World) (mg : Str → Option Value) (fa : Addr) (h : Heap), (K w.params).In h → h.Ns mainGlobals mg → mg d.name = some (.ref fa) →
      ∃ fd : FuncData, (∀ (s : Shared) (u : Value), BindsTo s fd ⟨[u], []⟩ [(x, u)]) ∧
        ∀ base : Heap, (K w.params).In base → base.Ns mainGlobals mg → FnG l.prog w (K w.params) mg base (CX w) k fa fd [x] (sp w))
    (hsp : ∀ (w : World) (H : Hp) (a : Addr) (ns : List Int), ns.length ≤ n → Only H → SqL (K w.params) H a (ns.map V.int) → sp w [.ref a] H (fun v _ => v = .bl true) fun _ _ _ => False)
    (hCX : ∀ (w : World) (H : Hp) (s : Shared) (e : Value) (s' : Shared), CX w [] H s (fun _ _ _ => False) e s' → False) :
    PySem.W.WalkO q loose XP YP l.row.toRowW d [] (fun f vs => PySem.call f vs) := by
  refine Att.attach_call hn hdf fun w s₀ s₁ mg mb fa o pm cd doc a vs ns G Y ho hd hcd hmg hobj hints hlen hg => ?_
  have KX := hY w _ Y
  obtain ⟨fd, hb, hF⟩ := F w mg fa _ KX G.T.g hmg
  exact law_callG KX G.T.g G.T.b G.T.builtins G.T.nolimit hg hobj hints (Nat.le_trans hlen hn2) hr hF hb (fun H hO hS => hsp w H a ns hlen hO hS) fun H e s' => hCX w H s₁ e s'
end L2

/-! Pl0x: tuples made anew, known to their objects. -/
namespace L2
open PySem PySem.Spec PyProof.Rows HT
/-- an object of the class tuple, made anew -/
def tupO (its : List Value) : Obj := { cls := .type "tuple", data := .seq its.toArray }
theorem tupX_ok {P : Program} {w : World} {H : Hp} {h : Heap} {a : Addr} {xs : List V} {its : List Value} (z : xs.length ≤ sizeLine) (r : Vals xs its) (e : h.get? a = some (tupO its)) : ObjOk P w H h a (.frz (tupO its) (.tup xs)) := ⟨e, z, its, r, _, e, rfl, _, rfl⟩
section
variable {X : Cx} {e : Expr} {es : List Expr} {te : TE} {t : TA} {pos : Pos}
def tTupX (t : TA) : TE := fun σ H Q => t σ H fun xs H1 => xs.length ≤ sizeLine ∧ ∀ p its, H1 p = none → Q (.ref p) (upd H1 p (.frz (tupO its) (.tup xs)))
theorem pe_tupX {x1} (h : PA X es t) : PE X (.Tuple es x1 pos) (tTupX t) := by
  refine ⟨fun pins s σ H Q I hq => ?_⟩
  refine wpAny_Tuple_spliced (thn (h.run pos pins s σ H _ I hq) fun us s1 ⟨xs, H1, I1, r, z, q⟩ => ⟨by rw [← r.length]; exact z, ?_⟩)
  have hf : H1 s1.heap.objs.size = none := I1.hok.fresh (Nat.le_refl _)
  exact ⟨.ref s1.heap.objs.size, upd H1 s1.heap.objs.size (.frz (tupO us) (.tup xs)), I1.laid (t' := s1.toks) (fun b u e => Heap.get?_push_of_some _ e) (Nat.le_refl _) (tupX_ok z r (Heap.get?_push_size _ rfl)), rfl, q _ us hf⟩
/-- t + u -/
def rCatX (K : PySem.W.Frag) : R2 := fun x y H Q => ∃ a b xs ys, x = .ref a ∧ y = .ref b ∧ SqT K H a xs ∧ SqT K H b ys ∧ xs.length + ys.length ≤ sizeLine ∧
  (xs = [] → Q (.ref b) H) ∧ (xs ≠ [] → ys = [] → Q (.ref a) H) ∧ (xs ≠ [] → ys ≠ [] → ∀ p its, H p = none → Q (.ref p) (upd H p (.frz (tupO its) (.tup (xs ++ ys)))))
theorem op_catX : OpR X (binaryOp .Add) (rCatX X.K) := by
  intro pins s σ H x y v u Q I rx ry h
  obtain ⟨a, b, xs, ys, rfl, rfl, ha, hb, hz, q0, q1, q2⟩ := h
  cases rx
  cases ry
  obtain ⟨its, r1, p1, _⟩ := I.tuple ha
  obtain ⟨its2, r2, p2, _⟩ := I.tuple hb
  by_cases hx : xs = []
  · subst hx
    cases r1
    exact cat_tup0 p1 p2 ⟨.ref b, H, I, rfl, q0 rfl⟩
  · refine HT.cat_tup p1 p2 (fun z => hx (r1.nil_iff.mp z)) (fun z => ⟨.ref a, H, I, rfl, q1 hx (r2.nil_iff.mp z)⟩) (fun z => ?_) (by rw [← r1.length, ← r2.length]; exact hz)
    exact ⟨.ref s.heap.objs.size, _, I.laid (t' := s.toks) (o := .frz (tupO (its ++ its2)) (.tup (xs ++ ys))) (fun b ob q => Heap.get?_push_of_some _ q) (Nat.le_refl _) (tupX_ok (by rw [List.length_append]; exact hz) (r1.append r2) (Heap.get?_push_size _ rfl)), rfl, q2 hx (fun w => z (r2.nil_iff.mpr w)) _ _ (I.hok.fresh (Nat.le_refl _))⟩
/-- t[lo:hi]: the whole of it is t itself -/
def rSlX (K : PySem.W.Frag) : V → Option Int → Option Int → Hp → VK → Prop := fun x lo hi H Q => ∃ a xs, x = .ref a ∧ SqT K H a xs ∧
  (HT.sIx xs.length 0 lo = 0 ∧ HT.sIx xs.length xs.length hi = xs.length → Q (.ref a) H) ∧ (¬ (HT.sIx xs.length 0 lo = 0 ∧ HT.sIx xs.length xs.length hi = xs.length) → ∀ p its, H p = none → Q (.ref p) (upd H p (.frz (tupO its) (.tup (cutV xs lo hi)))))
theorem sl_tupX : SlR X (rSlX X.K) := by
  intro pins s σ H x v vl vu lo hi sl Q I rx hs pl pu h
  obtain ⟨a, xs, rfl, hx, q1, q2⟩ := h
  cases rx
  obtain ⟨its, r, ht, hz⟩ := I.tuple hx
  have hlen : its.toArray.size = xs.length := by rw [List.size_toArray]; exact r.length.symm
  refine ⟨"tuple", _, PyProof.Rows.slot_tuple_getitem.lookup, ht.typeIs, ?_⟩
  by_cases hw : HT.sIx xs.length 0 lo = 0 ∧ HT.sIx xs.length xs.length hi = xs.length
  · exact getItem_tuple_whole ht hs pl pu (by rw [hlen]; exact hw) ⟨.ref a, H, I, rfl, q1 hw⟩
  · refine HT.getItem_tuple_cut ht hs pl pu (by rw [hlen]; exact hw) ?_ (by rw [hlen]; exact hz)
    rw [hlen]
    exact ⟨.ref s.heap.objs.size, _, I.laid (t' := s.toks) (o := .frz (tupO _) (.tup (cutV xs lo hi))) (fun b ob q => Heap.get?_push_of_some _ q) (Nat.le_refl _) (tupX_ok (Nat.le_trans (cutV_length xs lo hi) hz) ((r.drop (HT.sIx xs.length 0 lo)).take (HT.sIx xs.length xs.length hi - HT.sIx xs.length 0 lo)) (Heap.get?_push_size _ rfl)), rfl, q2 hw _ _ (I.hok.fresh (Nat.le_refl _))⟩
end
end L2

/-! Pl: a layer over HandS: pure data D, cells, and judgements by weakest wishes over them. -/
namespace Pl
open PySem L2 PyProof.Rows

/-! ### data -/
/-- a datum: immutable things as trees; `loc n` is the n-th mutable thing that is owned -/
inductive D where
  | non | bl (b : Bool) | int (i : Int) | str (s : Str)
  | tup (ds : List D) | lst (ds : List D) | fzl (ds : List D)
  | loc (n : Nat) | raw (v : V)
  | ins (C : Addr) (ns : List Str) (ds : List D)
  | dic (ks : List Key) (ds : List D)
  | exc (C : Addr) (ns : List Str) (ds : List D)
  deriving Inhabited
/-- at a: an exception of the class at C, its dict at d -/
def excHO (C a : Addr) (d : Option Addr) : HO := .ext fun h => ∃ (oe : Obj) (vs : Array Value), h.get? a = some oe ∧ Zc (.ref C) d oe ∧ oe.data = .fields vs

/-- extension of heaps -/
def Ex (H H' : Hp) : Prop := ∀ a o, H a = some o → H' a = some o
theorem Ex.refl (H : Hp) : Ex H H := fun _ _ h => h
theorem Ex.trans {H H1 H2 : Hp} (a : Ex H H1) (b : Ex H1 H2) : Ex H H2 := fun x o h => b x o (a x o h)
theorem Ex.new {H : Hp} {p : Addr} {o : HO} (h : H p = none) : Ex H (upd H p o) := fun a u e => by
  rw [upd_ne (ne_of_none e h)]; exact e
theorem Ex.back {H H' : Hp} {p : Addr} (e : Ex H H') (h : H' p = none) : H p = none := by
  cases h1 : H p with
  | none => rfl
  | some o => rw [e p o h1] at h; cases h
theorem Ex.rd {H H' : Hp} {a : Addr} {u : HO} (e : Ex H H') (h : Rd H a u) : Rd H' a u := by
  rcases h with h | ⟨o, h⟩
  · exact .inl (e a _ h)
  · exact .inr ⟨o, e a _ h⟩
theorem Ex.sqL {K : PySem.W.Frag} {H H' : Hp} {a : Addr} {xs : List V} (e : Ex H H') (h : SqL K H a xs) : SqL K H' a xs := by
  rcases h with h | h
  · exact .inl (e.rd h)
  · exact .inr h
theorem Ex.sqT {K : PySem.W.Frag} {H H' : Hp} {a : Addr} {xs : List V} (e : Ex H H') (h : SqT K H a xs) : SqT K H' a xs := by
  rcases h with h | h
  · exact .inl (e.rd h)
  · exact .inr h
/-- an object that H does not know is laid or changed -/
theorem Ex.mut {H H' : Hp} {p : Addr} {o : HO} (e : Ex H H') (h : H p = none) : Ex H (upd H' p o) := fun a u ha => by
  rw [upd_ne (ne_of_none ha h)]; exact e a u ha

/-- truths alone -/
def allBl : List D → Bool
  | [] => true
  | .bl _ :: ds => allBl ds
  | _ :: _ => false
/-- the thing at a is known to its object, which has no dict -/
def SqE (B : Hp) (a : Addr) : Prop := ∃ o u, B a = some (.frz o u) ∧ o.dict = none
/-- a tuple of these; one of truths alone is known to its object -/
def SqX (K : PySem.W.Frag) (B : Hp) (a : Addr) (vs : List V) (ds : List D) : Prop := SqT K B a vs ∧ (allBl ds = true → SqE B a)
theorem SqX.to {K : PySem.W.Frag} {B : Hp} {a : Addr} {vs : List V} {ds es : List D} (h : SqX K B a vs ds) (e : allBl es = true → allBl ds = true) : SqX K B a vs es := ⟨h.1, fun q => h.2 (e q)⟩
theorem SqX.new {K : PySem.W.Frag} {B : Hp} {a : Addr} {vs : List V} {ds : List D} {its : List Value} (h : B a = some (.frz (tupO its) (.tup vs))) : SqX K B a vs ds := ⟨.inl (.inr ⟨_, h⟩), fun _ => ⟨_, _, h, rfl⟩⟩
theorem SqX.ex {K : PySem.W.Frag} {B B' : Hp} {a : Addr} {vs : List V} {ds : List D} (e : Ex B B') (h : SqX K B a vs ds) : SqX K B' a vs ds := ⟨e.sqT h.1, fun q => by obtain ⟨o, u, z, d⟩ := h.2 q; exact ⟨o, u, e _ _ z, d⟩⟩
theorem SqX.odd {K : PySem.W.Frag} {B : Hp} {a : Addr} {vs : List V} {ds : List D} (h : SqT K B a vs) (e : allBl ds = false) : SqX K B a vs ds := ⟨h, fun q => by rw [e] at q; cases q⟩
/-- a list that never changes: known to its object, or of the written part -/
def SqZ (K : PySem.W.Frag) (B : Hp) (a : Addr) (vs : List V) : Prop := (∃ o, B a = some (.frz o (.lst vs))) ∨ ∃ (o : Obj) (its : Array Value) (n : Nat), K.lookup a = some o ∧ o.cls = .type "list" ∧ o.dict = none ∧ o.data = .seq its n ∧ its.size ≤ sizeLine ∧ Vals vs its.toList
theorem SqZ.l {K : PySem.W.Frag} {B : Hp} {a : Addr} {vs : List V} (h : SqZ K B a vs) : SqL K B a vs := h.elim (fun h => .inl (.inr h)) .inr
theorem SqZ.of {K : PySem.W.Frag} {B : Hp} {a : Addr} {vs : List V} (h : SqL K B a vs) (n : ∀ xs, B a ≠ some (.lst xs)) : SqZ K B a vs := by
  rcases h with (h | h) | h
  · exact absurd h (n _)
  · exact .inl h
  · exact .inr h
theorem Ex.sqZ {K : PySem.W.Frag} {H H' : Hp} {a : Addr} {xs : List V} (e : Ex H H') (h : SqZ K H a xs) : SqZ K H' a xs := h.elim (fun ⟨o, h⟩ => .inl ⟨o, e a _ h⟩) .inr
mutual
/-- the value v bears the datum d, by the view B and the cells' addresses α -/
def Rep (K : PySem.W.Frag) (B : Hp) (α : List Addr) : D → V → Prop
  | .non, v => v = .non
  | .bl b, v => v = .bl b
  | .int i, v => v = .int i
  | .str s, v => v = .str s
  | .tup ds, v => ∃ a vs, v = .ref a ∧ SqX K B a vs ds ∧ Reps K B α ds vs
  | .lst ds, v => ∃ a vs, v = .ref a ∧ B a = some (.lst vs) ∧ Reps K B α ds vs
  | .fzl ds, v => ∃ a vs, v = .ref a ∧ SqZ K B a vs ∧ Reps K B α ds vs
  | .loc n, v => ∃ a, v = .ref a ∧ α[n]? = some a
  | .raw u, v => v = u
  | .ins C ns ds, v => ∃ a dx vs, v = .ref a ∧ B a = some (.ins C dx (ns.zip vs)) ∧ Reps K B α ds vs ∧ ns.length = ds.length
  | .dic ks ds, v => ∃ a vs, v = .ref a ∧ Rd B a (.dK (ks.zip vs)) ∧ Reps K B α ds vs ∧ ks.length = ds.length
  | .exc C ns ds, v => ∃ a d vs, v = .ref a ∧ B a = some (excHO C a d) ∧ Reps K B α ds vs ∧ ns.length = ds.length ∧ (d = none → ns = []) ∧ ∀ dx, d = some dx → B dx = some (.xd (ns.zip vs))
def Reps (K : PySem.W.Frag) (B : Hp) (α : List Addr) : List D → List V → Prop
  | [], vs => vs = []
  | d :: ds, vs => ∃ v r, vs = v :: r ∧ Rep K B α d v ∧ Reps K B α ds r
end
section
variable {K : PySem.W.Frag} {B B' : Hp} {α α' : List Addr}
theorem pre_get {α α' : List Addr} {n : Nat} {a : Addr} (p : α <+: α') (h : α[n]? = some a) : α'[n]? = some a := by
  obtain ⟨t, rfl⟩ := p
  rw [List.getElem?_append_left]
  · exact h
  · exact (List.getElem?_eq_some_iff.mp h).1
mutual
theorem Rep.mono (e : Ex B B') (p : α <+: α') : ∀ (d : D) (v : V), Rep K B α d v → Rep K B' α' d v
  | .non, _, h => h
  | .bl _, _, h => h
  | .int _, _, h => h
  | .str _, _, h => h
  | .tup ds, v, h => by
    unfold Rep at h ⊢
    obtain ⟨a, vs, rfl, h1, h2⟩ := h
    exact ⟨a, vs, rfl, ⟨e.sqT h1.1, fun q => by obtain ⟨o, u, z, d⟩ := h1.2 q; exact ⟨o, u, e _ _ z, d⟩⟩, Reps.mono e p ds vs h2⟩
  | .lst ds, v, h => by
    unfold Rep at h ⊢
    obtain ⟨a, vs, rfl, h1, h2⟩ := h
    exact ⟨a, vs, rfl, e _ _ h1, Reps.mono e p ds vs h2⟩
  | .fzl ds, v, h => by
    unfold Rep at h ⊢
    obtain ⟨a, vs, rfl, h1, h2⟩ := h
    exact ⟨a, vs, rfl, e.sqZ h1, Reps.mono e p ds vs h2⟩
  | .loc n, v, h => by
    unfold Rep at h ⊢
    obtain ⟨a, rfl, h1⟩ := h
    exact ⟨a, rfl, pre_get p h1⟩
  | .raw _, _, h => h
  | .ins C ns ds, v, h => by
    unfold Rep at h ⊢
    obtain ⟨a, dx, vs, rfl, h1, h2, h3⟩ := h
    exact ⟨a, dx, vs, rfl, e _ _ h1, Reps.mono e p ds vs h2, h3⟩
  | .dic ks ds, v, h => by
    unfold Rep at h ⊢
    obtain ⟨a, vs, rfl, h1, h2, h3⟩ := h
    exact ⟨a, vs, rfl, e.rd h1, Reps.mono e p ds vs h2, h3⟩
  | .exc C ns ds, v, h => by
    unfold Rep at h ⊢
    obtain ⟨a, d, vs, rfl, h1, h2, h3, h4⟩ := h
    exact ⟨a, d, vs, rfl, e _ _ h1, Reps.mono e p ds vs h2, h3, h4.1, fun dx q => e _ _ (h4.2 dx q)⟩
theorem Reps.mono (e : Ex B B') (p : α <+: α') : ∀ (ds : List D) (vs : List V), Reps K B α ds vs → Reps K B' α' ds vs
  | [], _, h => h
  | d :: ds, vs, h => by
    unfold Reps at h ⊢
    obtain ⟨v, r, rfl, h1, h2⟩ := h
    exact ⟨v, r, rfl, Rep.mono e p d v h1, Reps.mono e p ds r h2⟩
end
theorem Reps.length : ∀ {ds : List D} {vs : List V}, Reps K B α ds vs → vs.length = ds.length
  | [], _, h => by unfold Reps at h; subst h; rfl
  | _ :: _, _, h => by
    unfold Reps at h
    obtain ⟨v, r, rfl, _, h2⟩ := h
    simp [Reps.length h2]
theorem Reps.get : ∀ {ds : List D} {vs : List V} {i : Nat} {d : D}, Reps K B α ds vs → ds[i]? = some d → ∃ v, vs[i]? = some v ∧ Rep K B α d v
  | [], _, _, _, _, e => by simp at e
  | d :: ds, _, 0, _, h, e => by
    unfold Reps at h
    obtain ⟨v, r, rfl, h1, _⟩ := h
    simp at e; subst e
    exact ⟨v, rfl, h1⟩
  | d :: ds, _, i + 1, d', h, e => by
    unfold Reps at h
    obtain ⟨v, r, rfl, _, h2⟩ := h
    obtain ⟨u, e1, e2⟩ := Reps.get (i := i) h2 (by simpa using e)
    exact ⟨u, by simpa using e1, e2⟩
theorem Reps.getV : ∀ {ds : List D} {vs : List V} {i : Nat} {v : V}, Reps K B α ds vs → vs[i]? = some v → ∃ d, ds[i]? = some d ∧ Rep K B α d v := fun {ds vs i v} h e => by
  have hl := h.length
  have hi : i < ds.length := by rw [← hl]; exact (List.getElem?_eq_some_iff.mp e).1
  obtain ⟨u, e1, e2⟩ := h.get (List.getElem?_eq_getElem hi)
  rw [e] at e1; cases e1
  exact ⟨_, List.getElem?_eq_getElem hi, e2⟩
theorem Reps.append : ∀ {ds es : List D} {vs ws : List V}, Reps K B α ds vs → Reps K B α es ws → Reps K B α (ds ++ es) (vs ++ ws)
  | [], _, _, _, h, k => by unfold Reps at h; subst h; exact k
  | d :: ds, es, _, ws, h, k => by
    unfold Reps at h
    obtain ⟨v, r, rfl, h1, h2⟩ := h
    show Reps K B α (d :: (ds ++ es)) (v :: (r ++ ws))
    unfold Reps
    exact ⟨v, _, rfl, h1, h2.append k⟩
theorem Reps.cons {d : D} {v : V} {ds : List D} {vs : List V} (h : Rep K B α d v) (t : Reps K B α ds vs) : Reps K B α (d :: ds) (v :: vs) := by
  unfold Reps; exact ⟨v, vs, rfl, h, t⟩
theorem Reps.nil : Reps K B α [] [] := by unfold Reps; rfl
theorem Reps.one {d : D} {v : V} (h : Rep K B α d v) : Reps K B α [d] [v] := .cons h .nil
theorem Reps.take (n : Nat) : ∀ {ds : List D} {vs : List V}, Reps K B α ds vs → Reps K B α (ds.take n) (vs.take n) := by
  induction n with
  | zero => intro ds vs _; simp [Reps]
  | succ n ih =>
    intro ds vs h
    cases ds with
    | nil => unfold Reps at h; subst h; simp [Reps]
    | cons d ds =>
      unfold Reps at h
      obtain ⟨v, r, rfl, h1, h2⟩ := h
      exact .cons h1 (ih h2)
theorem Reps.drop (n : Nat) : ∀ {ds : List D} {vs : List V}, Reps K B α ds vs → Reps K B α (ds.drop n) (vs.drop n) := by
  induction n with
  | zero => intro ds vs h; exact h
  | succ n ih =>
    intro ds vs h
    cases ds with
    | nil => unfold Reps at h; subst h; simp [Reps]
    | cons d ds =>
      unfold Reps at h
      obtain ⟨v, r, rfl, h1, h2⟩ := h
      exact ih h2
theorem Reps.set {i : Nat} {d : D} {v : V} (hd : Rep K B α d v) : ∀ {ds : List D} {vs : List V}, Reps K B α ds vs → Reps K B α (ds.set i d) (vs.set i v) := by
  induction i with
  | zero =>
    intro ds vs h
    cases ds with
    | nil => unfold Reps at h; subst h; simp [Reps]
    | cons e ds =>
      unfold Reps at h
      obtain ⟨w, r, rfl, h1, h2⟩ := h
      exact .cons hd h2
  | succ n ih =>
    intro ds vs h
    cases ds with
    | nil => unfold Reps at h; subst h; simp [Reps]
    | cons e ds =>
      unfold Reps at h
      obtain ⟨w, r, rfl, h1, h2⟩ := h
      exact .cons h1 (ih h2)
end

/-! ### cells -/
/-- a mutable thing that is owned -/
inductive Cell where
  | lst (ds : List D)
  | dic (ks : List Key) (ds : List D)
  | ins (C : Addr) (ns : List Str) (ds : List D)
  | gone
  deriving Inhabited

def CellAt (K : PySem.W.Frag) (B : Hp) (α : List Addr) (H : Hp) (a : Addr) : Cell → Prop
  | .lst ds => ∃ vs, H a = some (.lst vs) ∧ Reps K B α ds vs
  | .dic ks ds => ∃ vs, H a = some (.dK (ks.zip vs)) ∧ Reps K B α ds vs ∧ ks.length = ds.length
  | .ins C ns ds => ∃ dx vs, H a = some (.ins C dx (ns.zip vs)) ∧ Reps K B α ds vs ∧ ns.length = ds.length
  | .gone => True
/-- no code object's table -/
def NoTbl (o : HO) : Prop := ∀ ps, o ≠ .tbl ps
/-- what a cell holds -/
def Celly : Option HO → Prop
  | some (.lst _) => True
  | some (.dK _) => True
  | some (.ins _ _ _) => True
  | _ => False
theorem celly_some {x : Option HO} (h : Celly x) : ∃ o, x = some o ∧ NoTbl o := by
  cases x with
  | none => exact h.elim
  | some o => cases o <;> first | exact h.elim | exact ⟨_, rfl, fun _ q => nomatch q⟩
theorem CellAt.celly {K : PySem.W.Frag} {B : Hp} {α : List Addr} {H : Hp} {a : Addr} {c : Cell} (h : CellAt K B α H a c) (hg : c ≠ .gone) : Celly (H a) := by
  cases c with
  | lst ds => obtain ⟨vs, q, _⟩ := h; rw [q]; trivial
  | dic ks ds => obtain ⟨vs, q, _⟩ := h; rw [q]; trivial
  | ins C ns ds => obtain ⟨dx, vs, q, _⟩ := h; rw [q]; trivial
  | gone => exact absurd rfl hg
theorem CellAt.mono {K : PySem.W.Frag} {B B' : Hp} {α α' : List Addr} {H H' : Hp} {a : Addr} (e : Ex B B') (p : α <+: α') (h : ∀ o, H a = some o → NoTbl o → H' a = some o) : ∀ {c : Cell}, CellAt K B α H a c → CellAt K B' α' H' a c
  | .lst ds, ⟨vs, h1, h2⟩ => ⟨vs, h _ h1 (fun _ q => nomatch q), h2.mono e p⟩
  | .dic ks ds, ⟨vs, h1, h2, h3⟩ => ⟨vs, h _ h1 (fun _ q => nomatch q), h2.mono e p, h3⟩
  | .ins C ns ds, ⟨dx, vs, h1, h2, h3⟩ => ⟨dx, vs, h _ h1 (fun _ q => nomatch q), h2.mono e p, h3⟩
  | .gone, _ => trivial

/-- the frame of a def's run: the heap and the view at its entry, the addresses of the cells that it was handed -/
structure Fm where
  H0 : Hp
  B0 : Hp
  α0 : List Addr

abbrev Env := List (Option D)
abbrev Cells := List Cell

/-- the tables of code objects that a lambda may write (each with the name that its code objects bear) -/
def Tbl.T : List (Addr × Str) := []
theorem tabs_upd {H : Hp} {a : Addr} {o : HO} (t : LamX.Tabs Tbl.T H) (c : Celly (H a)) : LamX.Tabs Tbl.T (upd H a o) := fun p hp => by
  obtain ⟨ps, h1, h2, h3⟩ := t p hp
  have na : p.1 ≠ a := fun e => by rw [← e, h1] at c; exact c
  refine ⟨ps, by rw [upd_ne na]; exact h1, h2, fun pos cv hc => ?_⟩
  obtain ⟨b, e1, e2⟩ := h3 pos cv hc
  have nb : b ≠ a := fun e => by
    rw [← e, e2] at c
    exact c
  exact ⟨b, e1, by rw [upd_ne nb]; exact e2⟩
structure Tb (F : Fm) (B : Hp) (α : List Addr) (H : Hp) : Prop where
  tabs : LamX.Tabs Tbl.T H
  h0 : ∀ p ∈ Tbl.T, F.H0 p.1 ≠ none
  nb : ∀ a ps, B a ≠ some (.tbl ps)
  ca : ∀ a ∈ α, Celly (H a)
section
variable {F : Fm} {B B' H H' : Hp} {α α1 α' : List Addr}
theorem celly_ext {x : Addr} (h : Celly (H x)) (e : ∀ o, H x = some o → NoTbl o → H' x = some o) : Celly (H' x) := by
  obtain ⟨o, h1, h2⟩ := celly_some h
  rw [e o h1 h2, ← h1]; exact h
theorem Tb.grow (t : Tb F B α H) (e : Ex H H') : Tb F B α H' := ⟨t.tabs.ext e, t.h0, t.nb, fun a ha => celly_ext (t.ca a ha) fun o h _ => e _ _ h⟩
theorem Tb.see {p : Addr} {o : HO} (t : Tb F B α H) (hn : NoTbl o) : Tb F (upd B p o) α H := ⟨t.tabs, t.h0, fun a ps h => by
  by_cases e : a = p
  · subst e; rw [upd_same] at h; exact hn ps (Option.some.inj h)
  · rw [upd_ne e] at h; exact t.nb a ps h, t.ca⟩
theorem Tb.own {p : Addr} (t : Tb F B α H) (h : Celly (H p)) : Tb F B (α ++ [p]) H := ⟨t.tabs, t.h0, t.nb, fun a ha => by
  rcases List.mem_append.mp ha with z | z
  · exact t.ca a z
  · rw [List.mem_singleton] at z; subst z; exact h⟩
theorem Tb.put {a : Addr} {o : HO} (t : Tb F B α H) (hc : Celly (H a)) (ho : a ∈ α → Celly (some o)) : Tb F B α (upd H a o) := ⟨tabs_upd t.tabs hc, t.h0, t.nb, fun b hb => by
  by_cases e : b = a
  · subst e; rw [upd_same]; exact ho hb
  · rw [upd_ne e]; exact t.ca b hb⟩
theorem Tb.sub (t : Tb F B α H) (h : ∀ a ∈ α1, a ∈ α) : Tb F B α1 H := ⟨t.tabs, t.h0, t.nb, fun a ha => t.ca a (h a ha)⟩
theorem Tb.start (t : Tb F B α H) (h : ∀ a ∈ α1, a ∈ α) : Tb ⟨H, B, α1⟩ B α1 H := ⟨t.tabs, fun p hp => by
  obtain ⟨ps, e, _⟩ := t.tabs p hp
  show H p.1 ≠ none
  rw [e]; simp, t.nb, fun a ha => t.ca a (h a ha)⟩
theorem Tb.back {H0 : Hp} {B0 : Hp} {β : List Addr} (t : Tb F B α H) (u : Tb ⟨H0, B0, α1⟩ B' α' H') (kp : ∀ a o, H a = some o → a ∉ α1 → NoTbl o → H' a = some o) (h1 : ∀ a ∈ α1, a ∈ α') (hβ : ∀ a ∈ β, a ∈ α ∨ a ∈ α') : Tb F B' β H' := ⟨u.tabs, t.h0, u.nb, fun a ha => by
  by_cases m : a ∈ α1
  · exact u.ca a (h1 a m)
  · rcases hβ a ha with z | z
    · exact celly_ext (t.ca a z) fun o h n => kp a o h m n
    · exact u.ca a z⟩
end
theorem Tb.view {F : Fm} {B V : Hp} {α α1 : List Addr} {H : Hp} (t : Tb F B α H) (hV : ∀ a ps, V a ≠ some (.tbl ps)) (h : ∀ a ∈ α1, a ∈ α) : Tb ⟨H, V, α1⟩ V α1 H := ⟨t.tabs, (t.start (α1 := α1) h).h0, hV, fun a ha => t.ca a (h a ha)⟩
structure Sat (K : PySem.W.Frag) (F : Fm) (B : Hp) (α : List Addr) (Γ : Env) (Λ : Cells) (σ : L2.St) (H : Hp) : Prop where
  bb : Ex F.B0 B
  bh : Ex B H
  fr : ∀ (a : Addr) (o : HO), B a = some o → F.B0 a = some o ∨ F.H0 a = none
  kp : ∀ (a : Addr) (o : HO), F.H0 a = some o → a ∉ F.α0 → NoTbl o → H a = some o
  dm : ∀ a : Addr, H a = none → F.H0 a = none
  pf : F.α0 <+: α
  nd : α.Nodup
  al : α.length = Λ.length
  ce : ∀ (n : Nat) (c : Cell), Λ[n]? = some c → c ≠ .gone → ∃ a, α[n]? = some a ∧ B a = none ∧ (F.H0 a = none ∨ a ∈ F.α0) ∧ CellAt K B α H a c
  ah : ∀ a ∈ α, H a ≠ none ∧ (F.H0 a = none ∨ a ∈ F.α0)
  sl : ∀ (i : Nat) (d : D), Γ[i]? = some (some d) → ∃ v, σ[i]? = some (some v) ∧ Rep K B α d v
  ln : Γ.length = σ.length
  tb : Tb F B α H

section
variable {K : PySem.W.Frag} {F : Fm} {B B' : Hp} {α α' : List Addr} {Γ : Env} {Λ : Cells} {σ : L2.St} {H H' : Hp}

/-- a slot is stored -/
theorem Sat.set {i : Nat} {d : D} {v : V} (S : Sat K F B α Γ Λ σ H) (r : Rep K B α d v) : Sat K F B α (Γ.set i (some d)) Λ (σ.set i (some v)) H := by
  refine { S with sl := fun j e hj => ?_, ln := by simpa using S.ln }
  by_cases hij : i = j
  · subst hij
    have hi : i < Γ.length := by
      have := (List.getElem?_eq_some_iff.mp hj).1
      simpa using this
    rw [List.getElem?_set_self hi] at hj
    cases hj
    exact ⟨v, List.getElem?_set_self (by rw [← S.ln]; exact hi), r⟩
  · rw [List.getElem?_set_ne hij] at hj
    obtain ⟨w, h1, h2⟩ := S.sl j e hj
    exact ⟨w, by rw [List.getElem?_set_ne hij]; exact h1, h2⟩
/-- slots forgotten -/
theorem Sat.env {Γ' : Env} {σ' : L2.St} (S : Sat K F B α Γ Λ σ H) (hl : Γ'.length = σ'.length) (h : ∀ (i : Nat) (d : D), Γ'[i]? = some (some d) → ∃ v, σ'[i]? = some (some v) ∧ Rep K B α d v) : Sat K F B α Γ' Λ σ' H :=
  { S with sl := h, ln := hl }
theorem CellAt.some {H : Hp} {a : Addr} {c : Cell} (h : CellAt K B α H a c) (hg : c ≠ .gone) : H a ≠ none := by
  cases c with
  | lst ds => obtain ⟨vs, q, _⟩ := h; rw [q]; simp
  | dic ks ds => obtain ⟨vs, q, _⟩ := h; rw [q]; simp
  | ins C ns ds => obtain ⟨dx, vs, q, _⟩ := h; rw [q]; simp
  | gone => exact absurd rfl hg

/-- the heap has grown by things that the view does not see -/
theorem Sat.grow (S : Sat K F B α Γ Λ σ H) (e : Ex H H') : Sat K F B α Γ Λ σ H' :=
  { S with bh := S.bh.trans e, tb := S.tb.grow e, kp := fun a o h ha n => e _ _ (S.kp a o h ha n), dm := fun a h => S.dm a (e.back h)
           ce := fun n c h hg => by
            obtain ⟨a, h1, h2, h3, h4⟩ := S.ce n c h hg
            exact ⟨a, h1, h2, h3, h4.mono (Ex.refl B) (List.prefix_refl _) fun o q _ => e a o q⟩
           ah := fun a ha => ⟨fun h => (S.ah a ha).1 (e.back h), (S.ah a ha).2⟩ }
/-- the view grows by a thing of the heap that is new and no cell -/
theorem Sat.see {p : Addr} {o : HO} (S : Sat K F B α Γ Λ σ H) (hp : H p = some o) (hB : B p = none) (h0 : F.H0 p = none) (hα : p ∉ α) (hn : NoTbl o := by intro _ q; cases q) : Sat K F (upd B p o) α Γ Λ σ H := by
  refine ⟨S.bb.mut ?_, fun a u h => ?_, fun a u h => ?_, S.kp, S.dm, S.pf, S.nd, S.al, fun n c h hg => ?_, S.ah, fun i d h => ?_, S.ln, S.tb.see hn⟩
  · exact S.bb.back hB
  · by_cases e : a = p
    · subst e; rw [upd_same] at h; rw [← h]; exact hp
    · rw [upd_ne e] at h; exact S.bh a u h
  · by_cases e : a = p
    · subst e; exact .inr h0
    · rw [upd_ne e] at h; exact S.fr a u h
  · obtain ⟨a, h1, h2, h3, h4⟩ := S.ce n c h hg
    have hap : a ≠ p := fun e => hα (e ▸ List.mem_of_getElem? h1)
    exact ⟨a, h1, by rw [upd_ne hap]; exact h2, h3, h4.mono (Ex.new hB) (List.prefix_refl _) fun u q _ => q⟩
  · obtain ⟨v, h1, h2⟩ := S.sl i d h
    exact ⟨v, h1, h2.mono (Ex.new hB) (List.prefix_refl _)⟩
/-- a new object that is seen by the view -/
theorem Sat.lay {p : Addr} {o : HO} (S : Sat K F B α Γ Λ σ H) (hp : H p = none) (hn : NoTbl o := by intro _ q; cases q) : Sat K F (upd B p o) α Γ Λ σ (upd H p o) :=
  (S.grow (Ex.new hp)).see upd_same (S.bh.back hp) (S.dm p hp) (fun ha => (S.ah p ha).1 hp) hn
/-- a new object that is a cell -/
theorem Sat.own {p : Addr} {c : Cell} (S : Sat K F B α Γ Λ σ H) (hp : H p = none) (e : Ex H H') (hc : H' p ≠ none) (hh : ∀ α', α <+: α' → CellAt K B α' H' p c) (hg0 : c ≠ .gone := by intro q; cases q) : Sat K F B (α ++ [p]) Γ (Λ ++ [c]) σ H' := by
  have S' := S.grow e
  have hpa : p ∉ α := fun ha => (S.ah p ha).1 hp
  refine { S' with pf := S.pf.trans (List.prefix_append _ _), nd := ?_, al := by simp [S.al], ce := fun n c' h hg => ?_, ah := fun a ha => ?_, sl := fun i d h => ?_, tb := S'.tb.own ((hh α (List.prefix_refl _)).celly hg0) }
  · rw [List.nodup_append]
    refine ⟨S.nd, List.nodup_cons.mpr ⟨by simp, List.nodup_nil⟩, fun a ha b hb e => ?_⟩
    simp at hb; subst hb; subst e; exact hpa ha
  · by_cases hn : n < Λ.length
    · rw [List.getElem?_append_left hn] at h
      obtain ⟨a, h1, h2, h3, h4⟩ := S'.ce n c' h hg
      exact ⟨a, pre_get (List.prefix_append _ _) h1, h2, h3, h4.mono (Ex.refl B) (List.prefix_append _ _) fun u q _ => q⟩
    · have hlt : n < (Λ ++ [c]).length := (List.getElem?_eq_some_iff.mp h).1
      have hn' : n = Λ.length := by simp at hlt; omega
      subst hn'
      rw [List.getElem?_append_right (Nat.le_refl _)] at h
      simp at h; subst h
      refine ⟨p, by rw [← S.al, List.getElem?_append_right (Nat.le_refl _)]; simp, S.bh.back hp, .inl (S.dm p hp), hh _ (List.prefix_append _ _)⟩
  · rcases List.mem_append.mp ha with h | h
    · exact S'.ah a h
    · simp at h; subst h; exact ⟨hc, .inl (S.dm _ hp)⟩
  · obtain ⟨v, h1, h2⟩ := S.sl i d h
    exact ⟨v, h1, h2.mono (Ex.refl B) (List.prefix_append _ _)⟩
/-- a cell is written -/
theorem Sat.put {n : Nat} {a : Addr} {o : HO} {c : Cell} (S : Sat K F B α Γ Λ σ H) (hn : α[n]? = some a) (hB : B a = none) (hc : CellAt K B α (upd H a o) a c) (hg0 : c ≠ .gone := by intro q; cases q) : Sat K F B α Γ (Λ.set n c) σ (upd H a o) := by
  have ha := List.mem_of_getElem? hn
  have nl : n < Λ.length := by rw [← S.al]; exact (List.getElem?_eq_some_iff.mp hn).1
  refine { S with bh := S.bh.mut hB, tb := S.tb.put (S.tb.ca a ha) (fun _ => by have := hc.celly hg0; rw [upd_same] at this; exact this), kp := fun b u h hb nt => ?_, dm := fun b h => ?_, al := by simp [S.al], ce := fun m c' h hg => ?_, ah := fun b hb => ?_ }
  · have hab : b ≠ a := fun e => by
      subst e
      rcases (S.ah b ha).2 with q | q
      · rw [h] at q; cases q
      · exact hb q
    rw [upd_ne hab]; exact S.kp b u h hb nt
  · by_cases e : b = a
    · subst e; rw [upd_same] at h; cases h
    · rw [upd_ne e] at h; exact S.dm b h
  · by_cases e : n = m
    · subst e
      rw [List.getElem?_set_self nl] at h
      cases h
      exact ⟨a, hn, hB, (S.ah a ha).2, hc⟩
    · rw [List.getElem?_set_ne e] at h
      obtain ⟨b, h1, h2, h3, h4⟩ := S.ce m c' h hg
      have hba : b ≠ a := fun q => by
        subst q
        exact e ((List.getElem?_inj (by rw [S.al]; exact nl) S.nd).mp (hn.trans h1.symm))
      exact ⟨b, h1, h2, h3, h4.mono (Ex.refl B) (List.prefix_refl _) fun u q _ => by rw [upd_ne hba]; exact q⟩
  · by_cases e : b = a
    · subst e; exact ⟨by rw [upd_same]; simp, (S.ah b hb).2⟩
    · rw [upd_ne e]; exact S.ah b hb
end
end Pl

namespace Pl
open PySem L2 PyProof.Rows

/-! ### contexts -/
/-- what is known of the code that runs: the program's facts, the names by slot, which of them may be read and stored here, the global names -/
structure Ctx where
  P : Program
  w : World
  K : PySem.W.Frag
  mg : Str → Option Value
  base : Heap
  N : List Str
  sc : Scope
  vs : List Bool
  ls : List Bool
  gl : List Str
  k : Nat
  m : Nat := 0
  /-- a def's own body, no comprehension's block -/
  tp : Bool := true
  /-- of a def that makes lambdas: how its names begin, its code object -/
  cd : Option (Str × Addr) := none
  /-- an exception is being handled -/
  hot : Bool := false

/-- the scope is as told -/
structure Ctx.Good (C : Ctx) : Prop where
  nd : C.N.Nodup
  vis : ∀ (i : Nat) (x : Str), C.N[i]? = some x → C.vs[i]? = some true → Vis C.sc x
  sto : ∀ (i : Nat) (x : Str), C.N[i]? = some x → C.ls[i]? = some true → Loc C.sc x
  glo : ∀ (j : Nat) (x : Str), C.gl[j]? = some x → C.sc.names.lookup x = some .globalImplicit

structure Ctx.Is (C : Ctx) (X : Cx) : Prop where
  prog : X.prog = C.P
  w : X.w = C.w
  K : X.K = C.K
  mg : X.mg = C.mg
  base : X.base = C.base
  N : X.N = C.N
  sc : X.env.scope = C.sc
  calmW : C.hot = false → X.calm = true
  hdW : C.hot = false → X.A.handled = none
  roomW : RoomW C.k X.A
  fn : ∀ (i : Nat) (x : Str), C.N[i]? = some x → C.ls[i]? = some true → X.fn x = true ∨ X.env.scope.names.lookup x = some .local
  good : C.Good
  po : PassesOwn (model X.prog X.w) X.A X.env X.xe
  tp : C.tp = true → X.stack = X.env :: X.outer ∧ X.env.frame = some X.env.locals ∧ X.ex = []
  cdv : ∀ (q : Str) (c : Addr), C.cd = some (q, c) → X.env.qual = q ∧ X.env.code = .ref c

/-- no exception is being handled -/
class Cool (C : Ctx) : Prop where
  h : C.hot = false
instance {P : Program} {w : World} {K : PySem.W.Frag} {mg : Str → Option Value} {base : Heap} {N : List Str} {sc : Scope} {vs ls : List Bool} {gl : List Str} {k m : Nat} {tp : Bool} {cd : Option (Str × Addr)} : Cool ⟨P, w, K, mg, base, N, sc, vs, ls, gl, k, m, tp, cd, false⟩ := ⟨rfl⟩
section
variable {C : Ctx} {X : Cx}
theorem Ctx.Is.calm [Cool C] (h : C.Is X) : X.calm = true := h.calmW Cool.h
theorem Ctx.Is.room [Cool C] (h : C.Is X) : RoomG C.k X.A := ⟨h.hdW Cool.h, h.roomW.gd, h.roomW.dp, h.roomW.un⟩
theorem Ctx.Is.vis (h : C.Is X) {i : Nat} {x : Str} (hi : C.N[i]? = some x) (hv : C.vs[i]? = some true) : Vis X.env.scope x := by rw [h.sc]; exact h.good.vis i x hi hv
theorem Ctx.Is.loc (h : C.Is X) {i : Nat} {x : Str} (hi : C.N[i]? = some x) (hv : C.ls[i]? = some true) : Loc X.env.scope x := by rw [h.sc]; exact h.good.sto i x hi hv
/-- a global name of this code -/
def GlAt (C : Ctx) (x : Str) : Prop := ∃ j : Nat, C.gl[j]? = some x
theorem Ctx.Is.gl (h : C.Is X) {x : Str} (hj : GlAt C x) : Gl X x := by
  obtain ⟨j, hj⟩ := hj
  show X.env.scope.names.lookup x = _
  rw [h.sc]; exact h.good.glo j x hj
theorem Ctx.Is.ni (h : C.Is X) {i : Nat} {x : Str} (hi : C.N[i]? = some x) : X.N[i]? = some x := by rw [h.N]; exact hi
theorem Ctx.Is.nd (h : C.Is X) : X.N.Nodup := by rw [h.N]; exact h.good.nd
end

/-! ### errors -/
/-- an exception: its class, its fields -/
structure Err where
  cls : Value
  fs : Option (List Str × List D)
def ErrAt (K : PySem.W.Frag) (F : Fm) (B : Hp) (α : List Addr) (H : Hp) (e : Err) (c : Value) (dx : Option Addr) : Prop :=
  c = e.cls ∧ match e.fs with
    | none => dx = none
    | some (ns, ds) => ∃ a vs, dx = some a ∧ H a = some (.xd (ns.zip vs)) ∧ Reps K B α ds vs ∧ ns.length = ds.length ∧ (B a = none → F.H0 a = none ∧ a ∉ α)
abbrev ER := Err → Env → Cells → Prop
abbrev ER.none : ER := fun _ _ _ => False

/-! ### judgements -/
section
variable (K : PySem.W.Frag) (F : Fm) (W : WX)
/-- what is wanted of an error -/
def ErOk (B : Hp) (σ : L2.St) (Γ : Env) (E : ER) : Prop :=
  ∀ err Λ' B' α' H' c dx, E err Γ Λ' → Sat K F B' α' Γ Λ' σ H' → Ex B B' → ErrAt K F B' α' H' err c dx → W c dx σ H'
def rdE (E : ER) (Γ : Env) (Λ : Cells) (P : D → Cells → Prop) : TE := fun σ H Q => ∃ B α, Sat K F B α Γ Λ σ H ∧
  (∀ d Λ' v B' α' H', P d Λ' → Sat K F B' α' Γ Λ' σ H' → Ex B B' → α <+: α' → Rep K B' α' d v → Q v H') ∧ ErOk K F W B σ Γ E
/-- a new list -/
def rdN (E : ER) (Γ : Env) (Λ : Cells) (P : List D → Cells → Prop) : TE := fun σ H Q => ∃ B α, Sat K F B α Γ Λ σ H ∧
  (∀ ds Λ' p vs B' α' H', P ds Λ' → Sat K F B' α' Γ Λ' σ H' → Ex B B' → α <+: α' → H' p = some (.lst vs) → B' p = none → F.H0 p = none → p ∉ α' → Reps K B' α' ds vs → Q (.ref p) H') ∧ ErOk K F W B σ Γ E
def rdA (E : ER) (Γ : Env) (Λ : Cells) (P : List D → Cells → Prop) : TA := fun σ H Q => ∃ B α, Sat K F B α Γ Λ σ H ∧
  (∀ ds Λ' vs B' α' H', P ds Λ' → Sat K F B' α' Γ Λ' σ H' → Ex B B' → α <+: α' → Reps K B' α' ds vs → Q vs H') ∧ ErOk K F W B σ Γ E
def rdT (E : ER) (Γ : Env) (Λ : Cells) (P : Bool → Cells → Prop) : TT := fun σ H Q => ∃ B α, Sat K F B α Γ Λ σ H ∧
  (∀ b Λ' B' α' H', P b Λ' → Sat K F B' α' Γ Λ' σ H' → Ex B B' → α <+: α' → Q b H') ∧ ErOk K F W B σ Γ E
end
/-- what a def hands back: a datum; a new list -/
inductive Res where
  | val (d : D)
  | new (ds : List D)
def ResAt (K : PySem.W.Frag) (F : Fm) (B : Hp) (α : List Addr) (H : Hp) (v : V) : Res → Prop
  | .val d => Rep K B α d v
  | .new ds => ∃ p vs, v = .ref p ∧ H p = some (.lst vs) ∧ B p = none ∧ F.H0 p = none ∧ p ∉ α ∧ Reps K B α ds vs
/-- the wishes of a statement -/
structure Rs where
  nx : Env → Cells → Prop
  rt : Res → Cells → Prop
  bk : Env → Cells → Prop := fun _ _ => False
  ct : Env → Cells → Prop := fun _ _ => False
  er : ER := ER.none
section
variable (K : PySem.W.Frag) (F : Fm) (W : WX)
def nxOk (B : Hp) (R : Env → Cells → Prop) (q : L2.St → Hp → Prop) : Prop := ∀ Γ' Λ' B' α' σ' H', R Γ' Λ' → Sat K F B' α' Γ' Λ' σ' H' → Ex B B' → q σ' H'
def rtOk (B : Hp) (R : Res → Cells → Prop) (q : VK) : Prop := ∀ d Λ' v Γ' B' α' σ' H', R d Λ' → Sat K F B' α' Γ' Λ' σ' H' → Ex B B' → ResAt K F B' α' H' v d → q v H'
def erOk (B : Hp) (E : ER) : Prop := ∀ err Γ' Λ' B' α' σ' H' c dx, E err Γ' Λ' → Sat K F B' α' Γ' Λ' σ' H' → Ex B B' → ErrAt K F B' α' H' err c dx → W c dx σ' H'
structure EndsOk (B : Hp) (R : Rs) (D : Ends) : Prop where
  nx : nxOk K F B R.nx D.nx
  rt : rtOk K F B R.rt D.rt
  bk : nxOk K F B R.bk D.bk
  ct : nxOk K F B R.ct D.ct
  er : erOk K F W B R.er
def rdS (Γ : Env) (Λ : Cells) (R : Rs) : TS := fun D σ H => ∃ B α, Sat K F B α Γ Λ σ H ∧ EndsOk K F W B R D
end
section
variable {K : PySem.W.Frag} {F : Fm} {W : WX} {B B' : Hp} {σ : L2.St} {Γ : Env} {E : ER} {R : Rs} {D' : Ends}
theorem erOk.at (h : erOk K F W B E) : ErOk K F W B σ Γ E := fun err Λ' B' α' H' c dx e S x q => h err Γ Λ' B' α' σ H' c dx e S x q
theorem ErOk.mono (h : ErOk K F W B σ Γ E) (e : Ex B B') : ErOk K F W B' σ Γ E := fun err Λ' B1 α' H' c dx q S x r => h err Λ' B1 α' H' c dx q S (e.trans x) r
theorem nxOk.mono {R : Env → Cells → Prop} {q : L2.St → Hp → Prop} (h : nxOk K F B R q) (e : Ex B B') : nxOk K F B' R q := fun Γ' Λ' B1 α' σ' H' r S x => h Γ' Λ' B1 α' σ' H' r S (e.trans x)
theorem rtOk.mono {R : Res → Cells → Prop} {q : VK} (h : rtOk K F B R q) (e : Ex B B') : rtOk K F B' R q := fun d Λ' v Γ' B1 α' σ' H' r S x p => h d Λ' v Γ' B1 α' σ' H' r S (e.trans x) p
theorem erOk.mono (h : erOk K F W B E) (e : Ex B B') : erOk K F W B' E := fun err Γ' Λ' B1 α' σ' H' c dx q S x r => h err Γ' Λ' B1 α' σ' H' c dx q S (e.trans x) r
theorem EndsOk.mono (h : EndsOk K F W B R D') (e : Ex B B') : EndsOk K F W B' R D' := ⟨h.nx.mono e, h.rt.mono e, h.bk.mono e, h.ct.mono e, h.er.mono e⟩
end

def WE (C : Ctx) (E : ER) (Γ : Env) (Λ : Cells) (e : Expr) (P : D → Cells → Prop) : Prop := ∀ X F W, C.Is X → Takes X W → PE X e (rdE C.K F W E Γ Λ P)
def WN (C : Ctx) (E : ER) (Γ : Env) (Λ : Cells) (e : Expr) (P : List D → Cells → Prop) : Prop := ∀ X F W, C.Is X → Takes X W → PE X e (rdN C.K F W E Γ Λ P)
def WA (C : Ctx) (E : ER) (Γ : Env) (Λ : Cells) (es : List Expr) (P : List D → Cells → Prop) : Prop := ∀ X F W, C.Is X → Takes X W → PA X es (rdA C.K F W E Γ Λ P)
def WT (C : Ctx) (E : ER) (Γ : Env) (Λ : Cells) (e : Expr) (P : Bool → Cells → Prop) : Prop := ∀ X F W, C.Is X → Takes X W → PT X e (rdT C.K F W E Γ Λ P)
def WS (C : Ctx) (Γ : Env) (Λ : Cells) (s : Stmt) (R : Rs) : Prop := ∀ X F W, C.Is X → F.α0.length ≤ C.m → Takes X W → PS X s (rdS C.K F W Γ Λ R)
def WSs (C : Ctx) (Γ : Env) (Λ : Cells) (s : List Stmt) (R : Rs) : Prop := ∀ X F W, C.Is X → F.α0.length ≤ C.m → Takes X W → PSs X s (rdS C.K F W Γ Λ R)

/-! ### the union of all readings -/
section
variable {X : Cx}
def UE (X : Cx) (e : Expr) : TE := fun σ H Q => ∃ t, PE X e t ∧ t σ H Q
def UA (X : Cx) (e : List Expr) : TA := fun σ H Q => ∃ t, PA X e t ∧ t σ H Q
def UT (X : Cx) (e : Expr) : TT := fun σ H Q => ∃ t, PT X e t ∧ t σ H Q
def UW (X : Cx) (e : Expr) : TT := fun σ H Q => ∃ t, PW X e t ∧ t σ H Q
def US (X : Cx) (s : Stmt) : TS := fun D σ H => ∃ t, PS X s t ∧ t D σ H
def USs (X : Cx) (s : List Stmt) : TS := fun D σ H => ∃ t, PSs X s t ∧ t D σ H
theorem pe_U {e : Expr} : PE X e (UE X e) := ⟨fun pins s σ H Q I ⟨_, h, q⟩ => h.run pins s σ H Q I q⟩
theorem pa_U {e : List Expr} : PA X e (UA X e) := ⟨fun pos pins s σ H Q I ⟨_, h, q⟩ => h.run pos pins s σ H Q I q⟩
theorem pt_U {e : Expr} : PT X e (UT X e) := ⟨fun pins s σ H Q I ⟨_, h, q⟩ => h.run pins s σ H Q I q⟩
theorem pw_U {e : Expr} : PW X e (UW X e) := ⟨fun wh pins s σ H Q I ⟨_, h, q⟩ => h.run wh pins s σ H Q I q⟩
theorem ps_U {s : Stmt} : PS X s (US X s) := ⟨fun pins s σ H D I ⟨_, h, q⟩ => h.run pins s σ H D I q⟩
theorem pss_U {s : List Stmt} : PSs X s (USs X s) := ⟨fun pins s σ H D I ⟨_, h, q⟩ => h.run pins s σ H D I q⟩
theorem pe_imp {e : Expr} {t t' : TE} (h : PE X e t) (i : ∀ σ H Q, t' σ H Q → t σ H Q) : PE X e t' := ⟨fun pins s σ H Q I q => h.run pins s σ H Q I (i σ H Q q)⟩
theorem pa_imp {e : List Expr} {t t' : TA} (h : PA X e t) (i : ∀ σ H Q, t' σ H Q → t σ H Q) : PA X e t' := ⟨fun pos pins s σ H Q I q => h.run pos pins s σ H Q I (i σ H Q q)⟩
theorem pt_imp {e : Expr} {t t' : TT} (h : PT X e t) (i : ∀ σ H Q, t' σ H Q → t σ H Q) : PT X e t' := ⟨fun pins s σ H Q I q => h.run pins s σ H Q I (i σ H Q q)⟩
theorem pw_imp {e : Expr} {t t' : TT} (h : PW X e t) (i : ∀ σ H Q, t' σ H Q → t σ H Q) : PW X e t' := ⟨fun wh pins s σ H Q I q => h.run wh pins s σ H Q I (i σ H Q q)⟩
theorem ps_imp {s : Stmt} {t t' : TS} (h : PS X s t) (i : ∀ D σ H, t' D σ H → t D σ H) : PS X s t' := ⟨fun pins s σ H D I q => h.run pins s σ H D I (i D σ H q)⟩
theorem pss_imp {s : List Stmt} {t t' : TS} (h : PSs X s t) (i : ∀ D σ H, t' D σ H → t D σ H) : PSs X s t' := ⟨fun pins s σ H D I q => h.run pins s σ H D I (i D σ H q)⟩
end

section
variable {C : Ctx} {E : ER} {Γ : Env} {Λ : Cells} {X : Cx} {F : Fm} {W : WX} {B : Hp} {α : List Addr} {σ : L2.St} {H : Hp}
theorem WE.use {e : Expr} {P : D → Cells → Prop} {Q : VK} (h : WE C E Γ Λ e P) (is : C.Is X) (tk : Takes X W) (S : Sat C.K F B α Γ Λ σ H) (er : ErOk C.K F W B σ Γ E)
    (q : ∀ d Λ' v B' α' H', P d Λ' → Sat C.K F B' α' Γ Λ' σ H' → Ex B B' → α <+: α' → Rep C.K B' α' d v → Q v H') : UE X e σ H Q := ⟨_, h X F W is tk, B, α, S, q, er⟩
theorem WN.use {e : Expr} {P : List D → Cells → Prop} {Q : VK} (h : WN C E Γ Λ e P) (is : C.Is X) (tk : Takes X W) (S : Sat C.K F B α Γ Λ σ H) (er : ErOk C.K F W B σ Γ E)
    (q : ∀ ds Λ' p vs B' α' H', P ds Λ' → Sat C.K F B' α' Γ Λ' σ H' → Ex B B' → α <+: α' → H' p = some (.lst vs) → B' p = none → F.H0 p = none → p ∉ α' → Reps C.K B' α' ds vs → Q (.ref p) H') : UE X e σ H Q := ⟨_, h X F W is tk, B, α, S, q, er⟩
theorem WA.use {e : List Expr} {P : List D → Cells → Prop} {Q : List V → Hp → Prop} (h : WA C E Γ Λ e P) (is : C.Is X) (tk : Takes X W) (S : Sat C.K F B α Γ Λ σ H) (er : ErOk C.K F W B σ Γ E)
    (q : ∀ ds Λ' vs B' α' H', P ds Λ' → Sat C.K F B' α' Γ Λ' σ H' → Ex B B' → α <+: α' → Reps C.K B' α' ds vs → Q vs H') : UA X e σ H Q := ⟨_, h X F W is tk, B, α, S, q, er⟩
theorem WT.use {e : Expr} {P : Bool → Cells → Prop} {Q : Bool → Hp → Prop} (h : WT C E Γ Λ e P) (is : C.Is X) (tk : Takes X W) (S : Sat C.K F B α Γ Λ σ H) (er : ErOk C.K F W B σ Γ E)
    (q : ∀ b Λ' B' α' H', P b Λ' → Sat C.K F B' α' Γ Λ' σ H' → Ex B B' → α <+: α' → Q b H') : UT X e σ H Q := ⟨_, h X F W is tk, B, α, S, q, er⟩
theorem WS.use {s : Stmt} {R : Rs} {D : Ends} (h : WS C Γ Λ s R) (is : C.Is X) (hm : F.α0.length ≤ C.m) (tk : Takes X W) (S : Sat C.K F B α Γ Λ σ H) (q : EndsOk C.K F W B R D) : US X s D σ H := ⟨_, h X F W is hm tk, B, α, S, q⟩
theorem WSs.use {s : List Stmt} {R : Rs} {D : Ends} (h : WSs C Γ Λ s R) (is : C.Is X) (hm : F.α0.length ≤ C.m) (tk : Takes X W) (S : Sat C.K F B α Γ Λ σ H) (q : EndsOk C.K F W B R D) : USs X s D σ H := ⟨_, h X F W is hm tk, B, α, S, q⟩
end

/-! ### weaker wishes -/
section
variable {C : Ctx} {E : ER} {Γ : Env} {Λ : Cells}
theorem we_mono {e : Expr} {P P' : D → Cells → Prop} (h : WE C E Γ Λ e P) (i : ∀ d Λ', P d Λ' → P' d Λ') : WE C E Γ Λ e P' := fun X F W is tk =>
  pe_imp (h X F W is tk) fun σ H Q ⟨B, α, S, q, er⟩ => ⟨B, α, S, fun d Λ' v B' α' H' p => q d Λ' v B' α' H' (i d Λ' p), er⟩
theorem wa_mono {e : List Expr} {P P' : List D → Cells → Prop} (h : WA C E Γ Λ e P) (i : ∀ d Λ', P d Λ' → P' d Λ') : WA C E Γ Λ e P' := fun X F W is tk =>
  pa_imp (h X F W is tk) fun σ H Q ⟨B, α, S, q, er⟩ => ⟨B, α, S, fun ds Λ' vs B' α' H' hp => q ds Λ' vs B' α' H' (i ds Λ' hp), er⟩
theorem wt_mono {e : Expr} {P P' : Bool → Cells → Prop} (h : WT C E Γ Λ e P) (i : ∀ d Λ', P d Λ' → P' d Λ') : WT C E Γ Λ e P' := fun X F W is tk =>
  pt_imp (h X F W is tk) fun σ H Q ⟨B, α, S, q, er⟩ => ⟨B, α, S, fun b Λ' B' α' H' hp => q b Λ' B' α' H' (i b Λ' hp), er⟩
structure Rs.Le (R R' : Rs) : Prop where
  nx : ∀ Γ Λ, R.nx Γ Λ → R'.nx Γ Λ := by intros; assumption
  rt : ∀ d Λ, R.rt d Λ → R'.rt d Λ := by intros; assumption
  bk : ∀ Γ Λ, R.bk Γ Λ → R'.bk Γ Λ := by intros; assumption
  ct : ∀ Γ Λ, R.ct Γ Λ → R'.ct Γ Λ := by intros; assumption
  er : ∀ e Γ Λ, R.er e Γ Λ → R'.er e Γ Λ := by intros; assumption
theorem EndsOk.le {K : PySem.W.Frag} {F : Fm} {W : WX} {B : Hp} {R R' : Rs} {D : Ends} (h : EndsOk K F W B R' D) (i : R.Le R') : EndsOk K F W B R D :=
  ⟨fun Γ' Λ' B' α' σ' H' r => h.nx Γ' Λ' B' α' σ' H' (i.nx _ _ r), fun d Λ' v Γ' B' α' σ' H' r => h.rt d Λ' v Γ' B' α' σ' H' (i.rt _ _ r), fun Γ' Λ' B' α' σ' H' r => h.bk Γ' Λ' B' α' σ' H' (i.bk _ _ r), fun Γ' Λ' B' α' σ' H' r => h.ct Γ' Λ' B' α' σ' H' (i.ct _ _ r),
   fun err Γ' Λ' B' α' σ' H' c dx r => h.er err Γ' Λ' B' α' σ' H' c dx (i.er _ _ _ r)⟩
theorem ws_mono {s : Stmt} {R R' : Rs} (h : WS C Γ Λ s R) (i : R.Le R') : WS C Γ Λ s R' := fun X F W is hm tk =>
  ps_imp (h X F W is hm tk) fun D σ H ⟨B, α, S, q⟩ => ⟨B, α, S, q.le i⟩
theorem wss_mono {s : List Stmt} {R R' : Rs} (h : WSs C Γ Λ s R) (i : R.Le R') : WSs C Γ Λ s R' := fun X F W is hm tk =>
  pss_imp (h X F W is hm tk) fun D σ H ⟨B, α, S, q⟩ => ⟨B, α, S, q.le i⟩
end

/-! ### names, constants -/
section
variable {C : Ctx} {E : ER} {Γ : Env} {Λ : Cells} {P : D → Cells → Prop} {pos : Pos}
theorem we_name {i : Nat} {x : Str} {d : D} (hi : C.N[i]? = some x) (hv : C.vs[i]? = some true) (hg : Γ[i]? = some (some d)) (p : P d Λ)
    (hd : (x == ("__debug__" : Str)) = false := by decide) (hcd : (x == ("__classdict__" : Str)) = false := by decide) : WE C E Γ Λ (.Name x pos) P := fun X F W is tk => by
  refine pe_imp (pe_var (is.ni hi) (is.vis hi hv) hd hcd) fun σ H Q ⟨B, α, S, q, er⟩ => ?_
  obtain ⟨v, h1, h2⟩ := S.sl i d hg
  exact ⟨v, h1, q d Λ v B α H p S (Ex.refl B) (List.prefix_refl _) h2⟩
theorem we_int {i : Int} {j : Nat} (p : P (.int i) Λ) : WE C E Γ Λ (.Constant (.int i) j pos) P := fun X F W is tk =>
  pe_imp pe_int fun σ H Q ⟨B, α, S, q, er⟩ => q _ Λ _ B α H p S (Ex.refl B) (List.prefix_refl _) rfl
theorem we_bl {b : Bool} {j : Nat} (p : P (.bl b) Λ) : WE C E Γ Λ (.Constant (.bool b) j pos) P := fun X F W is tk =>
  pe_imp pe_bl fun σ H Q ⟨B, α, S, q, er⟩ => q _ Λ _ B α H p S (Ex.refl B) (List.prefix_refl _) rfl
theorem we_non {j : Nat} (p : P .non Λ) : WE C E Γ Λ (.Constant .none j pos) P := fun X F W is tk =>
  pe_imp pe_non fun σ H Q ⟨B, α, S, q, er⟩ => q _ Λ _ B α H p S (Ex.refl B) (List.prefix_refl _) rfl
theorem we_str {s : Str} {j : Nat} (p : P (.str s) Λ) : WE C E Γ Λ (.Constant (.str s) j pos) P := fun X F W is tk =>
  pe_imp pe_str fun σ H Q ⟨B, α, S, q, er⟩ => q _ Λ _ B α H p S (Ex.refl B) (List.prefix_refl _) rfl
/-- a module's constant, class, def; a built-in type as a value -/
theorem we_glob {x : Str} {v : V} {u : Value} (hj : GlAt C x) (hm : C.mg x = some u) (r : RelV v u) {d : D} (hr : ∀ B α, Rep C.K B α d v) (p : P d Λ) (hd : (x == ("__debug__" : Str)) = false := by decide) : WE C E Γ Λ (.Name x pos) P := fun X F W is tk =>
  pe_imp (pe_glob (is.gl hj) (by rw [is.mg]; exact hm) r hd) fun σ H Q ⟨B, α, S, q, er⟩ => q _ Λ _ B α H p S (Ex.refl B) (List.prefix_refl _) (hr B α)
theorem we_blt {x : Str} {v : V} {u : Value} (hj : GlAt C x) (hm : C.mg x = none) (hv : bootBuiltins x = some u) (r : RelV v u) (p : P (.raw v) Λ) (hn : x ≠ "__name__" := by decide) (hd : (x == ("__debug__" : Str)) = false := by decide) : WE C E Γ Λ (.Name x pos) P := fun X F W is tk =>
  pe_imp (pe_bltn (is.gl hj) (by rw [is.mg]; exact hm) hv r hn hd) fun σ H Q ⟨B, α, S, q, er⟩ => q _ Λ _ B α H p S (Ex.refl B) (List.prefix_refl _) rfl

/-- a new list: seen from now on by the view; or owned -/
theorem we_f {e : Expr} (h : WN C E Γ Λ e fun ds Λ' => P (.lst ds) Λ') : WE C E Γ Λ e P := fun X F W is tk => by
  refine pe_imp (h X F W is tk) fun σ H Q ⟨B, α, S, q, er⟩ => ⟨B, α, S, fun ds Λ' p vs B' α' H' hp S' e pf h1 h2 h3 h4 h5 => ?_, er⟩
  have hx : Ex B' (upd B' p (.lst vs)) := Ex.new h2
  refine q _ Λ' _ (upd B' p (.lst vs)) α' H' hp (S'.see h1 h2 h3 h4) (e.trans hx) pf ?_
  show Rep C.K _ α' (.lst ds) (.ref p)
  unfold Rep
  exact ⟨p, vs, rfl, upd_same, h5.mono hx (List.prefix_refl _)⟩
end
/-- a thing of the heap that is new is owned from now on -/
theorem Sat.adopt {K : PySem.W.Frag} {F : Fm} {B : Hp} {α : List Addr} {Γ : Env} {Λ : Cells} {σ : L2.St} {H : Hp} {p : Addr} {c : Cell} (S : Sat K F B α Γ Λ σ H) (hB : B p = none) (h0 : F.H0 p = none) (hα : p ∉ α) (hH : H p ≠ none)
    (hc : CellAt K B (α ++ [p]) H p c) (hg0 : c ≠ .gone := by intro q; cases q) : Sat K F B (α ++ [p]) Γ (Λ ++ [c]) σ H := by
  refine { S with pf := S.pf.trans (List.prefix_append _ _), nd := ?_, al := by simp [S.al], ce := fun n c' h hg => ?_, ah := fun a ha => ?_, sl := fun i d h => ?_, tb := S.tb.own (hc.celly hg0) }
  · rw [List.nodup_append]
    refine ⟨S.nd, List.nodup_cons.mpr ⟨by simp, List.nodup_nil⟩, fun a ha b hb e => ?_⟩
    simp at hb; subst hb; subst e; exact hα ha
  · by_cases hn : n < Λ.length
    · rw [List.getElem?_append_left hn] at h
      obtain ⟨a, h1, h2, h3, h4⟩ := S.ce n c' h hg
      exact ⟨a, pre_get (List.prefix_append _ _) h1, h2, h3, h4.mono (Ex.refl B) (List.prefix_append _ _) fun u q _ => q⟩
    · have hlt : n < (Λ ++ [c]).length := (List.getElem?_eq_some_iff.mp h).1
      have hn' : n = Λ.length := by simp at hlt; omega
      subst hn'
      rw [List.getElem?_append_right (Nat.le_refl _)] at h
      simp at h; subst h
      refine ⟨p, by rw [← S.al, List.getElem?_append_right (Nat.le_refl _)]; simp, hB, .inl h0, hc⟩
  · rcases List.mem_append.mp ha with h | h
    · exact S.ah a h
    · simp at h; subst h; exact ⟨hH, .inl h0⟩
  · obtain ⟨v, h1, h2⟩ := S.sl i d h
    exact ⟨v, h1, h2.mono (Ex.refl B) (List.prefix_append _ _)⟩
section
variable {C : Ctx} {E : ER} {Γ : Env} {Λ : Cells} {P : D → Cells → Prop} {pos : Pos}
theorem we_o {e : Expr} (h : WN C E Γ Λ e fun ds Λ' => P (.loc Λ'.length) (Λ' ++ [.lst ds])) : WE C E Γ Λ e P := fun X F W is tk => by
  refine pe_imp (h X F W is tk) fun σ H Q ⟨B, α, S, q, er⟩ => ⟨B, α, S, fun ds Λ' p vs B' α' H' hp S' e pf h1 h2 h3 h4 h5 => ?_, er⟩
  refine q _ _ _ B' (α' ++ [p]) H' hp (S'.adopt h2 h3 h4 (by rw [h1]; simp) ⟨vs, h1, h5.mono (Ex.refl _) (List.prefix_append _ _)⟩) e (pf.trans (List.prefix_append _ _)) ?_
  show Rep C.K _ _ (.loc _) (.ref p)
  unfold Rep
  exact ⟨p, rfl, by rw [← S'.al, List.getElem?_append_right (Nat.le_refl _)]; simp⟩
end

/-! ### argument lists -/
section
variable {C : Ctx} {E : ER} {Γ : Env} {Λ : Cells}
/-- no star stands there -/
def plainE : Expr → Bool
  | .Starred _ _ => false
  | _ => true
theorem star_plain {e : Expr} {es : List Expr} {env : PySem.Env} (h : plainE e = true) : starEach (e :: es) env = (false, eval e env) :: starEach es env := by
  cases e <;> first | rfl | cases h
theorem wa_nil {P : List D → Cells → Prop} (p : P [] Λ) : WA C E Γ Λ [] P := fun X F W is tk =>
  pa_imp pa_nil fun σ H Q ⟨B, α, S, q, er⟩ => q [] Λ [] B α H p S (Ex.refl B) (List.prefix_refl _) .nil
theorem wa_cons {e : Expr} {es : List Expr} {P : List D → Cells → Prop} (h : WE C E Γ Λ e fun d Λ1 => WA C E Γ Λ1 es fun ds Λ2 => P (d :: ds) Λ2) (he : plainE e = true := by rfl) : WA C E Γ Λ (e :: es) P := fun X F W is tk => by
  refine pa_imp (pa_cons pe_U pa_U (star_plain he)) fun σ H Q ⟨B, α, S, q, er⟩ => ?_
  refine WE.use h is tk S er fun d Λ1 v B1 α1 H1 p1 S1 e1 f1 r1 => ?_
  refine WA.use p1 is tk S1 (er.mono e1) fun ds Λ2 vs B2 α2 H2 p2 S2 e2 f2 r2 => ?_
  exact q _ Λ2 _ B2 α2 H2 p2 S2 (e1.trans e2) (f1.trans f2) (.cons (r1.mono e2 f2) r2)
/-- a list of written items -/
theorem wn_lst {es : List Expr} {pos : Pos} {P : List D → Cells → Prop} (h : WA C E Γ Λ es fun ds Λ' => ds.length ≤ sizeLine ∧ P ds Λ') : WN C E Γ Λ (.List es pos) P := fun X F W is tk => by
  refine pe_imp (pe_lst pa_U) fun σ H Q ⟨B, α, S, q, er⟩ => ?_
  refine WA.use h is tk S er fun ds Λ1 vs B1 α1 H1 p1 S1 e1 f1 r1 => ⟨by rw [r1.length]; exact p1.1, fun p hp => ?_⟩
  exact q ds Λ1 p vs B1 α1 _ p1.2 (S1.grow (Ex.new hp)) e1 f1 upd_same (S1.bh.back hp) (S1.dm p hp) (fun ha => (S1.ah p ha).1 hp) r1
theorem we_tup {es : List Expr} {x1} {pos : Pos} {P : D → Cells → Prop} (h : WA C E Γ Λ es fun ds Λ' => ds.length ≤ sizeLine ∧ P (.tup ds) Λ') : WE C E Γ Λ (.Tuple es x1 pos) P := fun X F W is tk => by
  refine pe_imp (pe_tupX pa_U) fun σ H Q ⟨B, α, S, q, er⟩ => ?_
  refine WA.use h is tk S er fun ds Λ1 vs B1 α1 H1 p1 S1 e1 f1 r1 => ⟨by rw [r1.length]; exact p1.1, fun p its hp => ?_⟩
  have hx : Ex B1 (upd B1 p (.frz (tupO its) (.tup vs))) := Ex.new (S1.bh.back hp)
  refine q _ Λ1 _ (upd B1 p (.frz (tupO its) (.tup vs))) α1 _ p1.2 (S1.lay hp) (e1.trans hx) f1 ?_
  show Rep C.K _ α1 (.tup ds) (.ref p)
  unfold Rep
  exact ⟨p, vs, rfl, SqX.new upd_same, r1.mono hx (List.prefix_refl _)⟩
end

/-! ### two-place operations by data -/
/-- what a two-place operation by values does to data -/
def OpK (K : PySem.W.Frag) (r : R2) (x y : D) (Γ : Env) (Λ : Cells) (P : D → Cells → Prop) : Prop := ∀ F B α σ H vx vy (Q : VK), Sat K F B α Γ Λ σ H → Rep K B α x vx → Rep K B α y vy →
  (∀ d Λ' v B' α' H', P d Λ' → Sat K F B' α' Γ Λ' σ H' → Ex B B' → α <+: α' → Rep K B' α' d v → Q v H') → r vx vy H Q
/-- .. to a value that is no new thing -/
theorem OpK.val {K : PySem.W.Frag} {r : R2} {x y z : D} {Γ : Env} {Λ : Cells} {P : D → Cells → Prop} (p : P z Λ) (h : ∀ F B α σ H vx vy (Q : VK), Sat K F B α Γ Λ σ H → Rep K B α x vx → Rep K B α y vy → (∀ v, Rep K B α z v → Q v H) → r vx vy H Q) : OpK K r x y Γ Λ P :=
  fun F B α σ H vx vy Q S rx ry q => h F B α σ H vx vy Q S rx ry fun v rv => q z Λ v B α H p S (Ex.refl B) (List.prefix_refl _) rv
section
variable {C : Ctx} {E : ER} {Γ : Env} {Λ : Cells} {P : D → Cells → Prop} {pos : Pos} {a b : Expr}
theorem we_opK {op : Operator} {r : R2} (ho : ∀ X, C.Is X → OpR X (binaryOp op) r) (h : WE C E Γ Λ a fun x Λ1 => WE C E Γ Λ1 b fun y Λ2 => OpK C.K r x y Γ Λ2 P) : WE C E Γ Λ (.BinOp a op b pos) P := fun X F W is tk => by
  refine pe_imp (pe_op (ho X is) pe_U pe_U) fun σ H Q ⟨B, α, S, q, er⟩ => ?_
  refine WE.use h is tk S er fun x Λ1 vx B1 α1 H1 p1 S1 e1 f1 r1 => ?_
  refine WE.use p1 is tk S1 (er.mono e1) fun y Λ2 vy B2 α2 H2 p2 S2 e2 f2 r2 => ?_
  exact p2 F B2 α2 σ H2 vx vy Q S2 (r1.mono e2 f2) r2 fun d Λ' v B' α' H' p' S' e' f' r' => q d Λ' v B' α' H' p' S' ((e1.trans e2).trans e') ((f1.trans f2).trans f') r'
theorem we_cmpK {op : CmpOp} {r : R2} (ho : ∀ X, C.Is X → OpR X (compareOp op) r) (h : WE C E Γ Λ a fun x Λ1 => WE C E Γ Λ1 b fun y Λ2 => OpK C.K r x y Γ Λ2 P) (hm : behindInMarks op b = false) : WE C E Γ Λ (.Compare a [op] [b] pos) P := fun X F W is tk => by
  refine pe_imp (pe_cmpR (ho X is) pe_U pe_U hm) fun σ H Q ⟨B, α, S, q, er⟩ => ?_
  refine WE.use h is tk S er fun x Λ1 vx B1 α1 H1 p1 S1 e1 f1 r1 => ?_
  refine WE.use p1 is tk S1 (er.mono e1) fun y Λ2 vy B2 α2 H2 p2 S2 e2 f2 r2 => ?_
  exact p2 F B2 α2 σ H2 vx vy Q S2 (r1.mono e2 f2) r2 fun d Λ' v B' α' H' p' S' e' f' r' => q d Λ' v B' α' H' p' S' ((e1.trans e2).trans e') ((f1.trans f2).trans f') r'
/-- a test that is a comparison -/
theorem wt_cmpK {op : CmpOp} {r : R2} {P : Bool → Cells → Prop} (ho : ∀ X, C.Is X → OpR X (compareOp op) r) (h : WE C E Γ Λ a fun x Λ1 => WE C E Γ Λ1 b fun y Λ2 => OpK C.K r x y Γ Λ2 fun d Λ3 => ∃ c, d = .bl c ∧ P c Λ3) (hm : behindInMarks op b = false) : WT C E Γ Λ (.Compare a [op] [b] pos) P := fun X F W is tk => by
  refine pt_imp (pt_cmpR (ho X is) pe_U pe_U hm) fun σ H Q ⟨B, α, S, q, er⟩ => ?_
  refine WE.use h is tk S er fun x Λ1 vx B1 α1 H1 p1 S1 e1 f1 r1 => ?_
  refine WE.use p1 is tk S1 (er.mono e1) fun y Λ2 vy B2 α2 H2 p2 S2 e2 f2 r2 => ?_
  refine p2 F B2 α2 σ H2 vx vy _ S2 (r1.mono e2 f2) r2 fun d Λ' v B' α' H' p' S' e' f' r' => ?_
  obtain ⟨c, rfl, p'⟩ := p'
  exact ⟨c, r', q c Λ' B' α' H' p' S' ((e1.trans e2).trans e') ((f1.trans f2).trans f')⟩
end
end Pl

namespace Pl
open PySem L2 PyProof.Rows

/-! ### looking through a cell -/
/-- a cell's number is read as what stands in the cell -/
def vw (Λ : Cells) : D → D
  | .loc n => match Λ[n]? with
    | some (.lst ds) => .lst ds
    | some (.dic ks ds) => .dic ks ds
    | some (.ins C ns ds) => .ins C ns ds
    | _ => .loc n
  | d => d
section
variable {K : PySem.W.Frag} {F : Fm} {B : Hp} {α : List Addr} {Γ : Env} {Λ : Cells} {σ : L2.St} {H : Hp}
/-- a list, wherever it stands -/
theorem Sat.lst (S : Sat K F B α Γ Λ σ H) {x : D} {v : V} {ds : List D} (r : Rep K B α x v) (e : vw Λ x = .lst ds) : ∃ a vs, v = .ref a ∧ H a = some (.lst vs) ∧ Reps K B α ds vs := by
  cases x with
  | lst es =>
    cases e
    unfold Rep at r
    obtain ⟨a, vs, h1, h2, h3⟩ := r
    exact ⟨a, vs, h1, S.bh _ _ h2, h3⟩
  | loc n =>
    unfold Rep at r
    obtain ⟨a, h1, h2⟩ := r
    simp only [vw] at e
    cases hc : Λ[n]? with
    | none => rw [hc] at e; cases e
    | some c =>
      rw [hc] at e
      cases c <;> simp at e
      subst e
      obtain ⟨a', q1, q2, q3, q4⟩ := S.ce n _ hc (by simp)
      rw [h2] at q1; cases q1
      obtain ⟨vs, q5, q6⟩ := q4
      exact ⟨a, vs, h1, q5, q6⟩
  | _ => cases e
theorem Sat.fzl (S : Sat K F B α Γ Λ σ H) {x : D} {v : V} {ds : List D} (r : Rep K B α x v) (e : vw Λ x = .fzl ds) : ∃ a vs, v = .ref a ∧ SqL K H a vs ∧ Reps K B α ds vs := by
  have ex : x = .fzl ds := by
    cases x with
    | loc n =>
      simp only [vw] at e
      cases hc : Λ[n]? with
      | none => rw [hc] at e; cases e
      | some c => rw [hc] at e; cases c <;> cases e
    | _ => exact e
  subst ex
  unfold Rep at r
  obtain ⟨a, vs, h1, h2, h3⟩ := r
  exact ⟨a, vs, h1, S.bh.sqL h2.l, h3⟩
/-- a sequence: a list, a locked list, a tuple -/
def seqD (Λ : Cells) (x : D) : Option (List D) := match vw Λ x with
  | .lst ds => some ds
  | .fzl ds => some ds
  | .tup ds => some ds
  | _ => none
theorem Sat.seq (S : Sat K F B α Γ Λ σ H) {x : D} {v : V} {ds : List D} (r : Rep K B α x v) (e : seqD Λ x = some ds) : ∃ a vs, v = .ref a ∧ (SqL K H a vs ∨ SqT K H a vs) ∧ Reps K B α ds vs := by
  unfold seqD at e
  split at e
  · rename_i es he
    cases e
    obtain ⟨a, vs, h1, h2, h3⟩ := S.lst r he
    exact ⟨a, vs, h1, .inl (SqL.of h2), h3⟩
  · rename_i es he
    cases e
    cases x with
    | fzl es' =>
      cases he
      unfold Rep at r
      obtain ⟨a, vs, h1, h2, h3⟩ := r
      exact ⟨a, vs, h1, .inl (S.bh.sqL h2.l), h3⟩
    | loc n =>
      simp only [vw] at he
      cases hc : Λ[n]? with
      | none => rw [hc] at he; cases he
      | some c => rw [hc] at he; cases c <;> simp at he
    | _ => cases he
  · rename_i es he
    cases e
    cases x with
    | tup es' =>
      cases he
      unfold Rep at r
      obtain ⟨a, vs, h1, h2, h3⟩ := r
      exact ⟨a, vs, h1, .inr (S.bh.sqT h2.1), h3⟩
    | loc n =>
      simp only [vw] at he
      cases hc : Λ[n]? with
      | none => rw [hc] at he; cases he
      | some c => rw [hc] at he; cases c <;> simp at he
    | _ => cases he
  · cases e
/-- .. a list alone -/
def lstD (Λ : Cells) (x : D) : Option (List D) := match vw Λ x with
  | .lst ds => some ds
  | .fzl ds => some ds
  | _ => none
theorem Sat.seqL (S : Sat K F B α Γ Λ σ H) {x : D} {v : V} {ds : List D} (r : Rep K B α x v) (e : lstD Λ x = some ds) : ∃ a vs, v = .ref a ∧ SqL K H a vs ∧ Reps K B α ds vs := by
  unfold lstD at e
  split at e
  · rename_i es he
    cases e
    obtain ⟨a, vs, h1, h2, h3⟩ := S.lst r he
    exact ⟨a, vs, h1, SqL.of h2, h3⟩
  · rename_i es he
    cases e
    cases x with
    | fzl es' =>
      cases he
      unfold Rep at r
      obtain ⟨a, vs, h1, h2, h3⟩ := r
      exact ⟨a, vs, h1, S.bh.sqL h2.l, h3⟩
    | loc n =>
      simp only [vw] at he
      cases hc : Λ[n]? with
      | none => rw [hc] at he; cases he
      | some c => rw [hc] at he; cases c <;> simp at he
    | _ => cases he
  · cases e
end

/-! ### arithmetic -/
section
variable {C : Ctx} {E : ER} {Γ : Env} {Λ : Cells} {P : D → Cells → Prop} {pos : Pos} {a b : Expr}
/-- what + does -/
def addP (Λ : Cells) (x y : D) (P : D → Prop) : Prop := match vw Λ x, vw Λ y with
  | .int i, .int j => P (.int (i + j))
  | .str s, .str t => s.length + t.length ≤ sizeLine ∧ P (.str (s ++ t))
  | .tup xs, .tup ys => xs.length + ys.length ≤ sizeLine ∧ P (.tup (xs ++ ys))
  | .lst xs, .lst ys => xs.length + ys.length ≤ sizeLine ∧ P (.lst (xs ++ ys))
  | .fzl xs, .fzl ys => xs.length + ys.length ≤ sizeLine ∧ P (.lst (xs ++ ys))
  | .fzl xs, .lst ys => xs.length + ys.length ≤ sizeLine ∧ P (.lst (xs ++ ys))
  | .lst xs, .fzl ys => xs.length + ys.length ≤ sizeLine ∧ P (.lst (xs ++ ys))
  | _, _ => False
/-- xs + ys, one of both known to its object or of the written part -/
def rCatZ (K : PySem.W.Frag) : R2 := fun x y H Q => ∃ l b xs zs, x = .ref l ∧ y = .ref b ∧ SqL K H l xs ∧ SqL K H b zs ∧ xs.length + zs.length ≤ sizeLine ∧ ∀ p, H p = none → Q (.ref p) (upd H p (.lst (xs ++ zs)))
theorem op_catZ {X : Cx} : OpR X (binaryOp .Add) (rCatZ X.K) := by
  intro pins s σ H x y v u Q I rx ry h
  obtain ⟨l, b, xs, zs, rfl, rfl, hH, hB, hz, q⟩ := h
  cases rx
  cases ry
  obtain ⟨its, r, ⟨⟨cls, dd, data, sl⟩, n, ho, hc, hd0, hd⟩, _⟩ := I.list hH
  obtain ⟨its2, r2, ⟨⟨cls2, dd2, data2, sl2⟩, n2, ho2, hc2, hd02, hd2⟩, _⟩ := I.list hB
  simp only at hc hd hc2 hd2
  subst hc hd hc2 hd2
  have e1 := r.length
  have e2 := r2.length
  refine concat_meets ⟨_, ho, rfl⟩ ⟨_, ho2, rfl⟩ noFill_list_add seq_list_add PySem.F.slot_list_add PySem.F.entry_list_add (PySem.F.args_list_add_2 _ _) (list_addW l b its.toArray its2.toArray n n2 dd dd2 sl sl2 (by rw [List.size_toArray, List.size_toArray]; omega)) ⟨ho, ho2, ?_⟩
  have e : its.toArray ++ its2.toArray = (its ++ its2).toArray := by simp
  rw [e]
  exact ⟨.ref _, _, I.lnew (t' := s.toks) (r.append r2) (by rw [List.length_append]; omega), rfl, q _ I.fresh⟩
def rAdd (K : PySem.W.Frag) : R2 := fun x y H Q => (rI0 (fun i j => .int (i + j)) x y H Q) ∨ ((∃ i j, x = .str i ∧ y = .str j ∧ i.length + j.length ≤ sizeLine ∧ Q (.str (i ++ j)) H) ∨ (rCatX K x y H Q ∨ (rCat x y H Q ∨ rCatZ K x y H Q)))
theorem op_addA {X : Cx} : OpR X (binaryOp .Add) (rAdd X.K) := op_add.or (op_add_str.or (op_catX.or (op_cat.or op_catZ)))
theorem add_K {K : PySem.W.Frag} {x y : D} (h : addP Λ x y fun d => P d Λ) : OpK K (rAdd K) x y Γ Λ P := by
  intro F B α σ H vx vy Q S rx ry q
  have keep : ∀ {z : D} {v : V}, P z Λ → Rep K B α z v → Q v H := fun {z v} p r => q z Λ v B α H p S (Ex.refl B) (List.prefix_refl _) r
  have noc : ∀ {z w : D}, vw Λ z = w → (∀ n, w ≠ .loc n) → (∀ ds, w ≠ .lst ds) → (∀ ks ds, w ≠ .dic ks ds) → (∀ c ns ds, w ≠ .ins c ns ds) → z = w := fun {z w} e h1 h2 h3 h4 => by
    cases z with
    | loc n =>
      simp only [vw] at e
      cases hc : Λ[n]? with
      | none => rw [hc] at e; exact absurd e.symm (h1 n)
      | some c =>
        rw [hc] at e
        cases c with
        | lst ds => exact absurd e.symm (h2 ds)
        | dic ks ds => exact absurd e.symm (h3 ks ds)
        | ins c ns ds => exact absurd e.symm (h4 c ns ds)
        | gone => exact absurd e.symm (h1 n)
    | _ => exact e
  unfold addP at h
  split at h
  · rename_i i j hx hy
    have ex := noc hx (by simp) (by simp) (by simp) (by simp)
    have ey := noc hy (by simp) (by simp) (by simp) (by simp)
    subst ex; subst ey
    unfold Rep at rx ry
    exact .inl ⟨i, j, rx, ry, keep h rfl⟩
  · rename_i s t hx hy
    have ex := noc hx (by simp) (by simp) (by simp) (by simp)
    have ey := noc hy (by simp) (by simp) (by simp) (by simp)
    subst ex; subst ey
    unfold Rep at rx ry
    exact .inr (.inl ⟨s, t, rx, ry, h.1, keep h.2 rfl⟩)
  · rename_i xs ys hx hy
    have ex := noc hx (by simp) (by simp) (by simp) (by simp)
    have ey := noc hy (by simp) (by simp) (by simp) (by simp)
    subst ex; subst ey
    unfold Rep at rx ry
    obtain ⟨p1, v1, rfl, q1, r1⟩ := rx
    obtain ⟨p2, v2, rfl, q2, r2⟩ := ry
    refine .inr (.inr (.inl ⟨p1, p2, v1, v2, rfl, rfl, S.bh.sqT q1.1, S.bh.sqT q2.1, by rw [r1.length, r2.length]; exact h.1, fun e => ?_, fun _ e => ?_, fun _ _ t its ht => ?_⟩))
    · have ex : xs = [] := by
        have := r1.length
        rw [e] at this
        exact List.length_eq_zero_iff.mp this.symm
      subst ex
      refine keep h.2 ?_
      rw [List.nil_append]
      unfold Rep
      exact ⟨p2, v2, rfl, q2, r2⟩
    · have ey : ys = [] := by
        have := r2.length
        rw [e] at this
        exact List.length_eq_zero_iff.mp this.symm
      subst ey
      refine keep h.2 ?_
      rw [List.append_nil]
      unfold Rep
      exact ⟨p1, v1, rfl, q1, r1⟩
    · exact q _ Λ _ (upd B t (.frz (tupO its) (.tup (v1 ++ v2)))) α _ h.2 (S.lay ht) (Ex.new (S.bh.back ht)) (List.prefix_refl _) (by
            show Rep K _ α (.tup (xs ++ ys)) (.ref t)
            unfold Rep
            exact ⟨t, v1 ++ v2, rfl, SqX.new upd_same, (r1.append r2).mono (Ex.new (S.bh.back ht)) (List.prefix_refl _)⟩)
  · rename_i xs ys hx hy
    obtain ⟨p1, v1, rfl, q1, r1⟩ := S.lst rx hx
    obtain ⟨p2, v2, rfl, q2, r2⟩ := S.lst ry hy
    refine .inr (.inr (.inr (.inl ⟨p1, p2, v1, v2, rfl, rfl, q1, q2, by rw [r1.length, r2.length]; exact h.1, fun t ht => ?_⟩)))
    exact q _ Λ _ (upd B t (.lst (v1 ++ v2))) α _ h.2 (S.lay ht) (Ex.new (S.bh.back ht)) (List.prefix_refl _) (by
            show Rep K _ α (.lst (xs ++ ys)) (.ref t)
            unfold Rep
            exact ⟨t, v1 ++ v2, rfl, upd_same, (r1.append r2).mono (Ex.new (S.bh.back ht)) (List.prefix_refl _)⟩)
  · rename_i xs ys hx hy
    obtain ⟨p1, v1, rfl, q1, r1⟩ := S.fzl rx hx
    obtain ⟨p2, v2, rfl, q2, r2⟩ := S.fzl ry hy
    refine .inr (.inr (.inr (.inr ⟨p1, p2, v1, v2, rfl, rfl, q1, q2, by rw [r1.length, r2.length]; exact h.1, fun t ht => ?_⟩)))
    exact q _ Λ _ (upd B t (.lst (v1 ++ v2))) α _ h.2 (S.lay ht) (Ex.new (S.bh.back ht)) (List.prefix_refl _) (by
            show Rep K _ α (.lst (xs ++ ys)) (.ref t)
            unfold Rep
            exact ⟨t, v1 ++ v2, rfl, upd_same, (r1.append r2).mono (Ex.new (S.bh.back ht)) (List.prefix_refl _)⟩)
  · rename_i xs ys hx hy
    obtain ⟨p1, v1, rfl, q1, r1⟩ := S.fzl rx hx
    obtain ⟨p2, v2, rfl, q2, r2⟩ := S.lst ry hy
    refine .inr (.inr (.inr (.inr ⟨p1, p2, v1, v2, rfl, rfl, q1, SqL.of q2, by rw [r1.length, r2.length]; exact h.1, fun t ht => ?_⟩)))
    exact q _ Λ _ (upd B t (.lst (v1 ++ v2))) α _ h.2 (S.lay ht) (Ex.new (S.bh.back ht)) (List.prefix_refl _) (by
            show Rep K _ α (.lst (xs ++ ys)) (.ref t)
            unfold Rep
            exact ⟨t, v1 ++ v2, rfl, upd_same, (r1.append r2).mono (Ex.new (S.bh.back ht)) (List.prefix_refl _)⟩)
  · rename_i xs ys hx hy
    obtain ⟨p1, v1, rfl, q1, r1⟩ := S.lst rx hx
    obtain ⟨p2, v2, rfl, q2, r2⟩ := S.fzl ry hy
    refine .inr (.inr (.inr (.inr ⟨p1, p2, v1, v2, rfl, rfl, SqL.of q1, q2, by rw [r1.length, r2.length]; exact h.1, fun t ht => ?_⟩)))
    exact q _ Λ _ (upd B t (.lst (v1 ++ v2))) α _ h.2 (S.lay ht) (Ex.new (S.bh.back ht)) (List.prefix_refl _) (by
            show Rep K _ α (.lst (xs ++ ys)) (.ref t)
            unfold Rep
            exact ⟨t, v1 ++ v2, rfl, upd_same, (r1.append r2).mono (Ex.new (S.bh.back ht)) (List.prefix_refl _)⟩)
  · exact h.elim
theorem we_add (h : WE C E Γ Λ a fun x Λ1 => WE C E Γ Λ1 b fun y Λ2 => addP Λ2 x y fun d => P d Λ2) : WE C E Γ Λ (.BinOp a .Add b pos) P :=
  we_opK (r := rAdd C.K) (fun X is => by rw [← is.K]; exact op_addA) (we_mono h fun x Λ1 p => we_mono p fun y Λ2 q => add_K q)

/-- what an operation on two ints does -/
def intP (g : Int → Int → Prop) (f : Int → Int → D) (x y : D) (P : D → Prop) : Prop := match x, y with
  | .int i, .int j => g i j ∧ P (f i j)
  | _, _ => False
theorem int_K {K : PySem.W.Frag} {g : Int → Int → Prop} {f : Int → Int → V} {f' : Int → Int → D} (hf : ∀ i j B α, Rep K B α (f' i j) (f i j)) {x y : D} (h : intP g f' x y fun d => P d Λ) : OpK K (rI g f) x y Γ Λ P := by
  intro F B α σ H vx vy Q S rx ry q
  unfold intP at h
  split at h
  · rename_i i j
    unfold Rep at rx ry
    exact ⟨i, j, rx, ry, h.1, q _ Λ _ B α H h.2 S (Ex.refl B) (List.prefix_refl _) (hf i j B α)⟩
  · exact h.elim
theorem we_intK {op : Operator} {g : Int → Int → Prop} {f : Int → Int → Int} (ho : ∀ X, C.Is X → OpR X (binaryOp op) (rI g fun i j => .int (f i j))) (h : WE C E Γ Λ a fun x Λ1 => WE C E Γ Λ1 b fun y Λ2 => intP g (fun i j => .int (f i j)) x y fun d => P d Λ2) : WE C E Γ Λ (.BinOp a op b pos) P :=
  we_opK ho (we_mono h fun x Λ1 p => we_mono p fun y Λ2 q => int_K (fun i j B α => by unfold Rep; rfl) q)
theorem we_mul (h : WE C E Γ Λ a fun x Λ1 => WE C E Γ Λ1 b fun y Λ2 => intP CMul (fun i j => .int (i * j)) x y fun d => P d Λ2) : WE C E Γ Λ (.BinOp a .Mult b pos) P :=
  we_intK (fun X is => op_mul) h
theorem we_fdiv (h : WE C E Γ Λ a fun x Λ1 => WE C E Γ Λ1 b fun y Λ2 => intP CDivW (fun i j => .int (i / j)) x y fun d => P d Λ2) : WE C E Γ Λ (.BinOp a .FloorDiv b pos) P :=
  we_intK (fun X is => op_fdivW) h
theorem we_mod (h : WE C E Γ Λ a fun x Λ1 => WE C E Γ Λ1 b fun y Λ2 => intP (fun _ j => 0 < j) (fun i j => .int (i % j)) x y fun d => P d Λ2) : WE C E Γ Λ (.BinOp a .Mod b pos) P :=
  we_intK (fun X is => op_mod) h
end

/-! ### data as the library's -/
mutual
def py : D → PyData
  | .non => .none
  | .bl b => .bool b
  | .int i => .int i
  | .str s => .str s
  | .tup ds => .tuple (pys ds)
  | .lst ds => .list (pys ds)
  | .fzl ds => .list (pys ds)
  | .loc _ => .dict []
  | .raw _ => .dict []
  | .ins _ _ _ => .dict []
  | .dic _ _ => .dict []
  | .exc _ _ _ => .dict []
def pys : List D → List PyData
  | [] => []
  | d :: ds => py d :: pys ds
end
mutual
theorem Rep.dp {K : PySem.W.Frag} {B H : Hp} {α : List Addr} (e : Ex B H) : ∀ (d : D) (v : V), (py d).plain = true → Rep K B α d v → Dp K H v (py d)
  | .non, _, _, h => by unfold Rep at h; subst h; exact .non
  | .bl b, _, _, h => by unfold Rep at h; subst h; exact .bl b
  | .int i, _, _, h => by unfold Rep at h; subst h; exact .int i
  | .str s, _, _, h => by unfold Rep at h; subst h; exact .str s
  | .tup ds, _, p, h => by
    unfold Rep at h
    obtain ⟨a, vs, rfl, h1, h2⟩ := h
    exact .tup (e.sqT h1.1) (Reps.dp e ds vs p h2)
  | .lst ds, _, p, h => by
    unfold Rep at h
    obtain ⟨a, vs, rfl, h1, h2⟩ := h
    exact .lst (SqL.of (e _ _ h1)) (Reps.dp e ds vs p h2)
  | .fzl ds, _, p, h => by
    unfold Rep at h
    obtain ⟨a, vs, rfl, h1, h2⟩ := h
    exact .lst (e.sqL h1.l) (Reps.dp e ds vs p h2)
  | .loc _, _, p, _ => nomatch p
  | .raw _, _, p, _ => nomatch p
  | .ins _ _ _, _, p, _ => nomatch p
  | .dic _ _, _, p, _ => nomatch p
  | .exc _ _ _, _, p, _ => nomatch p
theorem Reps.dp {K : PySem.W.Frag} {B H : Hp} {α : List Addr} (e : Ex B H) : ∀ (ds : List D) (vs : List V), PyData.plainAll (pys ds) = true → Reps K B α ds vs → DpAll K H vs (pys ds)
  | [], _, _, h => by unfold Reps at h; subst h; exact .nil
  | d :: ds, _, p, h => by
    unfold Reps at h
    obtain ⟨v, r, rfl, h1, h2⟩ := h
    have p' : ((py d).plain && PyData.plainAll (pys ds)) = true := p
    rw [Bool.and_eq_true] at p'
    exact .cons (Rep.dp e d v p'.1 h1) (Reps.dp e ds r p'.2 h2)
end
theorem Sat.dp {K : PySem.W.Frag} {F : Fm} {B : Hp} {α : List Addr} {Γ : Env} {Λ : Cells} {σ : L2.St} {H : Hp} (S : Sat K F B α Γ Λ σ H) {x : D} {v : V} (r : Rep K B α x v) (p : (py (vw Λ x)).plain = true) : Dp K H v (py (vw Λ x)) := by
  cases x with
  | loc n =>
    simp only [vw] at p ⊢
    cases hc : Λ[n]? with
    | none => rw [hc] at p; cases p
    | some c =>
      rw [hc] at p
      cases c with
      | lst ds =>
        simp only at p ⊢
        obtain ⟨a, vs, rfl, h1, h2⟩ := S.lst r (ds := ds) (by simp [vw, hc])
        exact .lst (SqL.of h1) (Reps.dp S.bh ds vs p h2)
      | _ => cases p
  | _ => exact Rep.dp S.bh _ v p r

/-! ### comparisons -/
section
variable {C : Ctx} {E : ER} {Γ : Env} {Λ : Cells} {P : D → Cells → Prop} {pos : Pos} {a b : Expr}
/-- what == needs of two data, and what it says -/
def eqP (Λ : Cells) (x y : D) (P : Bool → Prop) : Prop := match x, y with
  | .int i, .int j => P (decide (i = j))
  | .str s, .str t => P (decide (s = t))
  | .bl c, .bl d => P (decide (c = d))
  | x, y => (py (vw Λ x)).plain = true ∧ (py (vw Λ y)).plain = true ∧ min (py (vw Λ x)).depth (py (vw Λ y)).depth ≤ 190 ∧ P (PyData.eqv (py (vw Λ x)) (py (vw Λ y)))
def rEqP (K : PySem.W.Frag) (neg : Bool → Bool) : R2 := fun x y H Q => ∃ d e, Dp K H x d ∧ Dp K H y e ∧ d.plain = true ∧ e.plain = true ∧ min d.depth e.depth ≤ 190 ∧ Q (.bl (neg (PyData.eqv d e))) H
theorem Ctx.Is.u200 {X : Cx} (h : C.Is X) : X.A.units + 200 < cLine := by have := h.roomW.un; omega
theorem op_eqP {X : Cx} (is : C.Is X) : OpR X (compareOp .Eq) (rEqP X.K id) := by
  intro pins s σ H x y v u Q I rx ry h
  obtain ⟨d, e, hd, he, sd, se, hu, q⟩ := h
  obtain ⟨as, r1⟩ := Dp.reads I d x v hd rx
  obtain ⟨bs, r2⟩ := Dp.reads I e y u he ry
  have := is.u200
  refine SeqAt.eq_plain r1 r2 sd se (by omega) ⟨.bl _, H, I, rfl, q⟩
theorem op_neP {X : Cx} (is : C.Is X) : OpR X (compareOp .NotEq) (rEqP X.K not) := by
  intro pins s σ H x y v u Q I rx ry h
  obtain ⟨d, e, hd, he, sd, se, hu, q⟩ := h
  obtain ⟨as, r1⟩ := Dp.reads I d x v hd rx
  obtain ⟨bs, r2⟩ := Dp.reads I e y u he ry
  have := is.u200
  refine SeqAt.ne_plain r1 r2 sd se (by omega) ⟨.bl _, H, I, rfl, q⟩
theorem eq_K {K : PySem.W.Frag} {neg : Bool → Bool} {x y : D} (h : eqP Λ x y fun c => P (.bl (neg c)) Λ) : OpK K (rEqP K neg) x y Γ Λ P := by
  intro F B α σ H vx vy Q S rx ry q
  have fin : ∀ {c : Bool}, P (.bl (neg c)) Λ → Q (.bl (neg c)) H := fun {c} p => q _ Λ _ B α H p S (Ex.refl B) (List.prefix_refl _) (by unfold Rep; rfl)
  have gen : ∀ {x y : D}, Rep K B α x vx → Rep K B α y vy → ((py (vw Λ x)).plain = true ∧ (py (vw Λ y)).plain = true ∧ min (py (vw Λ x)).depth (py (vw Λ y)).depth ≤ 190 ∧ P (.bl (neg (PyData.eqv (py (vw Λ x)) (py (vw Λ y))))) Λ) → rEqP K neg vx vy H Q := fun {x y} rx ry ⟨h1, h2, h3, h4⟩ =>
    ⟨_, _, S.dp rx h1, S.dp ry h2, h1, h2, h3, fin h4⟩
  unfold eqP at h
  split at h
  · refine gen rx ry ⟨rfl, rfl, (by show min 0 0 ≤ 190; decide), ?_⟩
    show P (.bl (neg (PyData.eqv (.int _) (.int _)))) Λ
    rw [PyData.eqv, Bool.beq_eq_decide_eq]; exact h
  · refine gen rx ry ⟨rfl, rfl, (by show min 0 0 ≤ 190; decide), ?_⟩
    show P (.bl (neg (PyData.eqv (.str _) (.str _)))) Λ
    rw [PyData.eqv, Bool.beq_eq_decide_eq]; exact h
  · refine gen rx ry ⟨rfl, rfl, (by show min 0 0 ≤ 190; decide), ?_⟩
    show P (.bl (neg (PyData.eqv (.bool _) (.bool _)))) Λ
    rw [PyData.eqv, Bool.beq_eq_decide_eq]; exact h
  · exact gen rx ry h
theorem we_eq (h : WE C E Γ Λ a fun x Λ1 => WE C E Γ Λ1 b fun y Λ2 => eqP Λ2 x y fun c => P (.bl c) Λ2) : WE C E Γ Λ (.Compare a [.Eq] [b] pos) P :=
  we_cmpK (r := rEqP C.K id) (fun X is => by rw [← is.K]; exact op_eqP is) (we_mono h fun x Λ1 p => we_mono p fun y Λ2 q => eq_K (neg := id) q) (nomark _)
theorem eqP_mono {x y : D} {P P' : Bool → Prop} (h : eqP Λ x y P) (i : ∀ c, P c → P' c) : eqP Λ x y P' := by
  unfold eqP at h ⊢
  split at h
  · exact i _ h
  · exact i _ h
  · exact i _ h
  · exact ⟨h.1, h.2.1, h.2.2.1, i _ h.2.2.2⟩
theorem wt_eq {P : Bool → Cells → Prop} (h : WE C E Γ Λ a fun x Λ1 => WE C E Γ Λ1 b fun y Λ2 => eqP Λ2 x y fun c => P c Λ2) : WT C E Γ Λ (.Compare a [.Eq] [b] pos) P :=
  wt_cmpK (r := rEqP C.K id) (fun X is => by rw [← is.K]; exact op_eqP is) (we_mono h fun x Λ1 p => we_mono p fun y Λ2 q => eq_K (neg := id) (eqP_mono q fun c p => ⟨_, rfl, p⟩)) (nomark _)
theorem wt_ne {P : Bool → Cells → Prop} (h : WE C E Γ Λ a fun x Λ1 => WE C E Γ Λ1 b fun y Λ2 => eqP Λ2 x y fun c => P (!c) Λ2) : WT C E Γ Λ (.Compare a [.NotEq] [b] pos) P :=
  wt_cmpK (r := rEqP C.K not) (fun X is => by rw [← is.K]; exact op_neP is) (we_mono h fun x Λ1 p => we_mono p fun y Λ2 q => eq_K (neg := not) (eqP_mono q fun c p => ⟨_, rfl, p⟩)) (nomark _)

/-- <, <=, >, >= of ints, < of texts -/
def ordP (f : Int → Int → Bool) (g : Str → Str → Bool) (ok : Bool) (x y : D) (P : Bool → Prop) : Prop := match x, y with
  | .int i, .int j => P (f i j)
  | .str s, .str t => ok = true ∧ P (g s t)
  | _, _ => False
def ltP := ordP (fun i j => decide (i < j)) (fun s t => decide (s.cps.toList < t.cps.toList)) true
def gtP := ordP (fun i j => decide (j < i)) (fun _ _ => false) false
def rOrd (f : Int → Int → Bool) (g : Str → Str → Bool) (ok : Bool) : R2 := fun x y H Q => (rI0 (fun i j => .bl (f i j)) x y H Q) ∨ (ok = true ∧ ∃ i j, x = .str i ∧ y = .str j ∧ Q (.bl (g i j)) H)
theorem ord_K {K : PySem.W.Frag} {f : Int → Int → Bool} {g : Str → Str → Bool} {ok : Bool} {x y : D} (h : ordP f g ok x y fun c => P (.bl c) Λ) : OpK K (rOrd f g ok) x y Γ Λ P := by
  intro F B α σ H vx vy Q S rx ry q
  have fin : ∀ {c : Bool}, P (.bl c) Λ → Q (.bl c) H := fun {c} p => q _ Λ _ B α H p S (Ex.refl B) (List.prefix_refl _) (by unfold Rep; rfl)
  unfold ordP at h
  split at h
  · unfold Rep at rx ry
    exact .inl ⟨_, _, rx, ry, fin h⟩
  · unfold Rep at rx ry
    exact .inr ⟨h.1, _, _, rx, ry, fin h.2⟩
  · exact h.elim
theorem OpR.ff {X : Cx} {f : Value → Value → Sem Value} {r : R2} (h : OpR X f r) {g : Str → Str → Bool} : OpR X f (fun x y H Q => r x y H Q ∨ (false = true ∧ ∃ i j, x = .str i ∧ y = .str j ∧ Q (.bl (g i j)) H)) := by
  intro pins s σ H x y v u Q I rx ry q
  rcases q with q | q
  · exact h pins s σ H x y v u Q I rx ry q
  · exact absurd q.1 (by decide)
theorem op_ltA {X : Cx} : OpR X (compareOp .Lt) (rOrd (fun i j => decide (i < j)) (fun s t => decide (s.cps.toList < t.cps.toList)) true) := by
  intro pins s σ H x y v u Q I rx ry q
  rcases q with q | q
  · exact op_lt pins s σ H x y v u Q I rx ry q
  · exact op_lt_str pins s σ H x y v u Q I rx ry q.2
theorem op_gtA {X : Cx} : OpR X (compareOp .Gt) (rOrd (fun i j => decide (j < i)) (fun _ _ => false) false) := OpR.ff op_gt
theorem wt_ltK {op : CmpOp} {f : Int → Int → Bool} {g : Str → Str → Bool} {ok : Bool} {P : Bool → Cells → Prop} (ho : ∀ X, OpR X (compareOp op) (rOrd f g ok)) (hm : ∀ b, behindInMarks op b = false)
    (h : WE C E Γ Λ a fun x Λ1 => WE C E Γ Λ1 b fun y Λ2 => ordP f g ok x y fun c => P c Λ2) : WT C E Γ Λ (.Compare a [op] [b] pos) P :=
  wt_cmpK (fun X is => ho X) (we_mono h fun x Λ1 p => we_mono p fun y Λ2 q => ord_K (by
    unfold ordP at q ⊢
    split at q
    · exact ⟨_, rfl, q⟩
    · exact ⟨q.1, _, rfl, q.2⟩
    · exact q)) (hm b)
theorem wt_lt {P : Bool → Cells → Prop} (h : WE C E Γ Λ a fun x Λ1 => WE C E Γ Λ1 b fun y Λ2 => ltP x y fun c => P c Λ2) : WT C E Γ Λ (.Compare a [.Lt] [b] pos) P := wt_ltK (fun _ => op_ltA) (fun b => nomark b) h
theorem wt_gt {P : Bool → Cells → Prop} (h : WE C E Γ Λ a fun x Λ1 => WE C E Γ Λ1 b fun y Λ2 => gtP x y fun c => P c Λ2) : WT C E Γ Λ (.Compare a [.Gt] [b] pos) P := wt_ltK (fun _ => op_gtA) (fun b => nomark b) h
/-- is None, is not None -/
def isN : D → Option Bool
  | .non => some true
  | .loc _ => some false
  | .raw _ => none
  | _ => some false
theorem isN_rep {K : PySem.W.Frag} {B : Hp} {α : List Addr} {x : D} {v : V} {c : Bool} (r : Rep K B α x v) (e : isN x = some c) : decide (v = .non) = c := by
  cases x <;> simp only [isN] at e <;> (try cases e) <;> unfold Rep at r
  · subst r; rfl
  all_goals first
    | (subst r; rfl)
    | (obtain ⟨_, _, rfl, _⟩ := r; rfl)
    | (obtain ⟨_, rfl, _⟩ := r; rfl)
    | (obtain ⟨_, _, _, rfl, _⟩ := r; rfl)
theorem wt_isK {op : CmpOp} {f : Bool → Bool} {P : Bool → Cells → Prop} (ho : ∀ X, OpR X (compareOp op) (fun x y H Q => y = .non ∧ Q (.bl (f (decide (x = .non)))) H)) (hm : ∀ b, behindInMarks op b = false)
    (h : WE C E Γ Λ a fun x Λ1 => WE C E Γ Λ1 b fun y Λ2 => y = .non ∧ ∃ c, isN x = some c ∧ P (f c) Λ2) : WT C E Γ Λ (.Compare a [op] [b] pos) P :=
  wt_cmpK (fun X is => ho X) (we_mono h fun x Λ1 p => we_mono p fun y Λ2 q => by
    intro F B α σ H vx vy Q S rx ry k
    obtain ⟨rfl, c, hc, p⟩ := q
    unfold Rep at ry
    refine ⟨ry, ?_⟩
    rw [isN_rep rx hc]
    exact k _ Λ2 _ B α H ⟨_, rfl, p⟩ S (Ex.refl B) (List.prefix_refl _) (by unfold Rep; rfl)) (hm b)
theorem wt_isnt {P : Bool → Cells → Prop} (h : WE C E Γ Λ a fun x Λ1 => WE C E Γ Λ1 b fun y Λ2 => y = .non ∧ ∃ c, isN x = some c ∧ P (!c) Λ2) : WT C E Γ Λ (.Compare a [.IsNot] [b] pos) P := wt_isK (f := not) (fun _ => op_notN) (fun b => nomark b) h
end
end Pl

namespace Pl
open PySem L2 PyProof.Rows

/-! ### in, not in -/
section
variable {C : Ctx} {E : ER} {Γ : Env} {Λ : Cells} {P : D → Cells → Prop} {pos : Pos} {a b : Expr}
/-- a text in a text -/
def strIn (x y : Str) : Bool := !(Builtin.Str.occurrences y x 0 y.length 1).isEmpty
def dLook (ks : List Key) (ds : List D) (k : Key) : Option D := ((ks.zip ds).find? fun kv => decide (kv.1 = k)).map (·.2)
def keyD : D → Option Key
  | .int i => some (.inl i)
  | .str s => some (.inr s)
  | _ => none
theorem keyD_rep {K : PySem.W.Frag} {B : Hp} {α : List Addr} {x : D} {v : V} {k : Key} (r : Rep K B α x v) (e : keyD x = some k) : v = kV k := by
  cases x <;> simp only [keyD] at e <;> cases e <;> (unfold Rep at r; subst r; rfl)
theorem dLook_rep {K : PySem.W.Frag} {B : Hp} {α : List Addr} : ∀ {ks : List Key} {ds : List D} {vs : List V} (k : Key), Reps K B α ds vs → 
    (∀ d, dLook ks ds k = some d → ∃ v, valV (ks.zip vs) k = some v ∧ Rep K B α d v) ∧ (dLook ks ds k = none → valV (ks.zip vs) k = none)
  | [], _, _, _, _ => by simp [dLook, valV]
  | _ :: _, [], vs, k, r => by unfold Reps at r; subst r; simp [dLook, valV]
  | q :: ks, d :: ds, vs, k, r => by
    unfold Reps at r
    obtain ⟨v, r', rfl, h1, h2⟩ := r
    have ih := dLook_rep (ks := ks) k h2
    simp only [dLook, valV, List.zip_cons_cons, List.find?_cons] at ih ⊢
    by_cases e : q = k
    · simp only [e, decide_true, Option.map_some]
      exact ⟨fun d' q => by cases q; exact ⟨v, rfl, h1⟩, fun q => by cases q⟩
    · simp only [e, decide_false]
      exact ih
def inP (Λ : Cells) (x y : D) (P : Bool → Prop) : Prop := match vw Λ y with
  | .str t => ∃ s, x = .str s ∧ P (strIn s t)
  | .dic ks ds => ∃ k, keyD x = some k ∧ P (dLook ks ds k).isSome
  | .tup ds => PyData.plainAll (pys ds) = true ∧ (py (vw Λ x)).plain = true ∧ min (PyData.depthAll (pys ds)) (py (vw Λ x)).depth ≤ 190 ∧ P ((pys ds).any fun e => PyData.eqv e (py (vw Λ x)))
  | .lst ds => PyData.plainAll (pys ds) = true ∧ (py (vw Λ x)).plain = true ∧ min (PyData.depthAll (pys ds)) (py (vw Λ x)).depth ≤ 190 ∧ P ((pys ds).any fun e => PyData.eqv e (py (vw Λ x)))
  | .fzl ds => PyData.plainAll (pys ds) = true ∧ (py (vw Λ x)).plain = true ∧ min (PyData.depthAll (pys ds)) (py (vw Λ x)).depth ≤ 190 ∧ P ((pys ds).any fun e => PyData.eqv e (py (vw Λ x)))
  | _ => False
theorem inP_mono {x y : D} {P P' : Bool → Prop} (h : inP Λ x y P) (i : ∀ c, P c → P' c) : inP Λ x y P' := by
  unfold inP at h ⊢
  split at h
  · obtain ⟨s, e, p⟩ := h; exact ⟨s, e, i _ p⟩
  · obtain ⟨s, e, p⟩ := h; exact ⟨s, e, i _ p⟩
  · exact ⟨h.1, h.2.1, h.2.2.1, i _ h.2.2.2⟩
  · exact ⟨h.1, h.2.1, h.2.2.1, i _ h.2.2.2⟩
  · exact ⟨h.1, h.2.1, h.2.2.1, i _ h.2.2.2⟩
  · exact h
def rInP (K : PySem.W.Frag) (f : Bool → Bool) : R2 := fun x y H Q => (∃ s t, x = .str s ∧ y = .str t ∧ Q (.bl (f (strIn s t))) H) ∨ (∃ p o, y = .ref p ∧ DGet H p x o ∧ Q (.bl (f o.isSome)) H) ∨
  (∃ d ds, Dp K H x d ∧ (Dp K H y (.list ds) ∨ Dp K H y (.tuple ds)) ∧ d.plain = true ∧ PyData.plainAll ds = true ∧ min (PyData.depthAll ds) d.depth ≤ 190 ∧ Q (.bl (f (ds.any fun e => PyData.eqv e d))) H)
theorem op_inP {X : Cx} (is : C.Is X) : OpR X (compareOp .In) (rInP X.K id) := by
  intro pins s σ H x y v u Q I rx ry h
  have hu := is.u200
  rcases h with ⟨s', t, rfl, rfl, q⟩ | ⟨p, o, rfl, g, q⟩ | ⟨d, ds, hd, hl, sd, se, hm, q⟩
  · exact op_in_str pins s σ H _ _ v u Q I rx ry ⟨s', t, rfl, rfl, q⟩
  · cases ry
    exact d_in (by omega) I g rx fun s' I' => ⟨.bl _, H, I', rfl, q⟩
  · obtain ⟨as, r1⟩ := Dp.reads I d x v hd rx
    rcases hl with hl | hl
    · obtain ⟨bs, r2⟩ := Dp.reads I _ y u hl ry
      exact SeqAt.in_list_data r2 r1 se sd (by omega) ⟨.bl _, H, I, rfl, q⟩
    · obtain ⟨bs, r2⟩ := Dp.reads I _ y u hl ry
      exact SeqAt.in_tuple_data r2 r1 se sd (by omega) ⟨.bl _, H, I, rfl, q⟩
theorem op_ninP {X : Cx} (is : C.Is X) : OpR X (compareOp .NotIn) (rInP X.K not) := by
  intro pins s σ H x y v u Q I rx ry h
  have hu := is.u200
  rcases h with ⟨s', t, rfl, rfl, q⟩ | ⟨p, o, rfl, g, q⟩ | ⟨d, ds, hd, hl, sd, se, hm, q⟩
  · exact op_notIn_str pins s σ H _ _ v u Q I rx ry ⟨s', t, rfl, rfl, q⟩
  · cases ry
    exact d_notIn (by omega) I g rx fun s' I' => ⟨.bl _, H, I', rfl, q⟩
  · obtain ⟨as, r1⟩ := Dp.reads I d x v hd rx
    rcases hl with hl | hl
    · obtain ⟨bs, r2⟩ := Dp.reads I _ y u hl ry
      exact SeqAt.notIn_list_data r2 r1 se sd (by omega) ⟨.bl _, H, I, rfl, q⟩
    · obtain ⟨bs, r2⟩ := Dp.reads I _ y u hl ry
      exact SeqAt.notIn_tuple_data r2 r1 se sd (by omega) ⟨.bl _, H, I, rfl, q⟩
theorem vw_noc {z w : D} (e : vw Λ z = w) (h1 : ∀ n, w ≠ .loc n) (h2 : ∀ ds, w ≠ .lst ds) (h3 : ∀ ks ds, w ≠ .dic ks ds) (h4 : ∀ c ns ds, w ≠ .ins c ns ds) : z = w := by
  cases z with
  | loc n =>
    simp only [vw] at e
    cases hc : Λ[n]? with
    | none => rw [hc] at e; exact absurd e.symm (h1 n)
    | some c =>
      rw [hc] at e
      cases c with
      | lst ds => exact absurd e.symm (h2 ds)
      | dic ks ds => exact absurd e.symm (h3 ks ds)
      | ins c ns ds => exact absurd e.symm (h4 c ns ds)
      | gone => exact absurd e.symm (h1 n)
  | _ => exact e
/-- a dict, wherever it stands -/
theorem Sat.dic {K : PySem.W.Frag} {F : Fm} {B : Hp} {α : List Addr} {Γ : Env} {Λ : Cells} {σ : L2.St} {H : Hp} (S : Sat K F B α Γ Λ σ H) {x : D} {v : V} {ks : List Key} {ds : List D} (r : Rep K B α x v) (e : vw Λ x = .dic ks ds) : ∃ a vs, v = .ref a ∧ Rd H a (.dK (ks.zip vs)) ∧ Reps K B α ds vs := by
  cases x with
  | dic ks' es =>
    cases e
    unfold Rep at r
    obtain ⟨a, vs, h1, h2, h3, _⟩ := r
    exact ⟨a, vs, h1, S.bh.rd h2, h3⟩
  | loc n =>
    unfold Rep at r
    obtain ⟨a, h1, h2⟩ := r
    simp only [vw] at e
    cases hc : Λ[n]? with
    | none => rw [hc] at e; cases e
    | some c =>
      rw [hc] at e
      cases c <;> simp at e
      obtain ⟨rfl, rfl⟩ := e
      obtain ⟨a', q1, q2, q3, q4⟩ := S.ce n _ hc (by simp)
      rw [h2] at q1; cases q1
      obtain ⟨vs, q5, q6, _⟩ := q4
      exact ⟨a, vs, h1, .inl q5, q6⟩
  | _ => cases e
theorem in_K {K : PySem.W.Frag} {f : Bool → Bool} {x y : D} (h : inP Λ x y fun c => P (.bl (f c)) Λ) : OpK K (rInP K f) x y Γ Λ P := by
  intro F B α σ H vx vy Q S rx ry q
  have fin : ∀ {c : Bool}, P (.bl (f c)) Λ → Q (.bl (f c)) H := fun {c} p => q _ Λ _ B α H p S (Ex.refl B) (List.prefix_refl _) (by unfold Rep; rfl)
  unfold inP at h
  split at h
  · rename_i t hy
    have ey := vw_noc hy (by simp) (by simp) (by simp) (by simp)
    subst ey
    obtain ⟨s, rfl, p⟩ := h
    unfold Rep at rx ry
    exact .inl ⟨s, t, rx, ry, fin p⟩
  · rename_i ks ds hy
    obtain ⟨k, hk, p⟩ := h
    obtain ⟨a, vs, rfl, h1, h2⟩ := S.dic ry hy
    have hl := dLook_rep (ks := ks) k h2
    refine .inr (.inl ⟨a, valV (ks.zip vs) k, rfl, .inl ⟨_, k, h1, keyD_rep rx hk, rfl⟩, ?_⟩)
    have e : (valV (ks.zip vs) k).isSome = (dLook ks ds k).isSome := by
      cases hd : dLook ks ds k with
      | none => rw [hl.2 hd]; rfl
      | some d =>
        obtain ⟨v, e, _⟩ := hl.1 d hd
        rw [e]; rfl
    rw [e]
    exact fin p
  · rename_i ds hy
    have e := S.dp ry (by rw [hy]; exact h.1)
    rw [hy] at e
    exact .inr (.inr ⟨_, _, S.dp rx h.2.1, .inr e, h.2.1, h.1, h.2.2.1, fin h.2.2.2⟩)
  · rename_i ds hy
    have e := S.dp ry (by rw [hy]; exact h.1)
    rw [hy] at e
    exact .inr (.inr ⟨_, _, S.dp rx h.2.1, .inl e, h.2.1, h.1, h.2.2.1, fin h.2.2.2⟩)
  · rename_i ds hy
    have e := S.dp ry (by rw [hy]; exact h.1)
    rw [hy] at e
    exact .inr (.inr ⟨_, _, S.dp rx h.2.1, .inl e, h.2.1, h.1, h.2.2.1, fin h.2.2.2⟩)
  · exact h.elim
theorem wt_in {P : Bool → Cells → Prop} (h : WE C E Γ Λ a fun x Λ1 => WE C E Γ Λ1 b fun y Λ2 => inP Λ2 x y fun c => P c Λ2) (hm : behindInMarks .In b = false := by rfl) : WT C E Γ Λ (.Compare a [.In] [b] pos) P :=
  wt_cmpK (r := rInP C.K id) (fun X is => by rw [← is.K]; exact op_inP is) (we_mono h fun x Λ1 p => we_mono p fun y Λ2 q => in_K (f := id) (inP_mono q fun c p => ⟨_, rfl, p⟩)) hm
theorem wt_nin {P : Bool → Cells → Prop} (h : WE C E Γ Λ a fun x Λ1 => WE C E Γ Λ1 b fun y Λ2 => inP Λ2 x y fun c => P (!c) Λ2) (hm : behindInMarks .NotIn b = false := by rfl) : WT C E Γ Λ (.Compare a [.NotIn] [b] pos) P :=
  wt_cmpK (r := rInP C.K not) (fun X is => by rw [← is.K]; exact op_ninP is) (we_mono h fun x Λ1 p => we_mono p fun y Λ2 q => in_K (f := not) (inP_mono q fun c p => ⟨_, rfl, p⟩)) hm

/-! ### a <= b < c over ints -/
/-! ### and, or, not, if .. else -/
def boolP (x : D) (P : Bool → Prop) : Prop := match x with
  | .bl c => P c
  | _ => False
theorem we_one {op} (h : WE C E Γ Λ a P) : WE C E Γ Λ (.BoolOp op [a] pos) P := fun X F W is tk => pe_one (h X F W is tk)
theorem we_and {rest : List Expr} (h : WE C E Γ Λ a fun x Λ1 => boolP x fun c => if c = true then WE C E Γ Λ1 (.BoolOp .And (b :: rest) pos) P else P (.bl false) Λ1) : WE C E Γ Λ (.BoolOp .And (a :: b :: rest) pos) P := fun X F W is tk => by
  refine pe_imp (pe_and pe_U pe_U) fun σ H Q ⟨B, α, S, q, er⟩ => ?_
  refine WE.use h is tk S er fun x Λ1 vx B1 α1 H1 p1 S1 e1 f1 r1 => ?_
  unfold boolP at p1
  split at p1
  · rename_i c
    unfold Rep at r1
    refine ⟨c, r1, ?_⟩
    cases c with
    | true =>
      rw [if_pos rfl] at p1 ⊢
      exact WE.use p1 is tk S1 (er.mono e1) fun y Λ2 vy B2 α2 H2 p2 S2 e2 f2 r2 => q _ _ _ _ _ _ p2 S2 (e1.trans e2) (f1.trans f2) r2
    | false =>
      rw [if_neg (by simp)] at p1 ⊢
      exact q _ _ _ _ _ _ p1 S1 e1 f1 (by unfold Rep; rfl)
  · exact p1.elim
theorem we_neg (h : WE C E Γ Λ a fun x Λ1 => ∃ i, x = .int i ∧ P (.int (-i)) Λ1) : WE C E Γ Λ (.UnaryOp .USub a pos) P := fun X F W is tk => by
  refine pe_imp (pe_un un_neg pe_U) fun σ H Q ⟨B, α, S, q, er⟩ => ?_
  refine WE.use h is tk S er fun x Λ1 vx B1 α1 H1 p1 S1 e1 f1 r1 => ?_
  obtain ⟨i, rfl, p⟩ := p1
  unfold Rep at r1
  exact ⟨i, r1, q _ _ _ _ _ _ p S1 e1 f1 (by unfold Rep; rfl)⟩
/-! tests -/
theorem wt_val {P : Bool → Cells → Prop} (h : WE C E Γ Λ a fun x Λ1 => boolP x fun c => P c Λ1) (he : ∀ (env : PySem.Env) whole, isTrue a env whole = (do let v ← whole; standAt a.pos; holding [v] (truthy v)) := by intro _ _; rfl) : WT C E Γ Λ a P := fun X F W is tk => by
  refine pt_imp (pt_val pe_U (he X.env)) fun σ H Q ⟨B, α, S, q, er⟩ => ?_
  refine WE.use h is tk S er fun x Λ1 vx B1 α1 H1 p1 S1 e1 f1 r1 => ?_
  unfold boolP at p1
  split at p1
  · rename_i c
    unfold Rep at r1
    exact ⟨c, r1, q _ _ _ _ _ p1 S1 e1 f1⟩
  · exact p1.elim
theorem wt_not {P : Bool → Cells → Prop} (h : WT C E Γ Λ a fun c Λ1 => P (!c) Λ1) : WT C E Γ Λ (.UnaryOp .Not a pos) P := fun X F W is tk => by
  refine pt_imp (pt_not pt_U) fun σ H Q ⟨B, α, S, q, er⟩ => ?_
  exact WT.use h is tk S er fun c Λ1 B1 α1 H1 p1 S1 e1 f1 => q _ _ _ _ _ p1 S1 e1 f1
/-- a chain of and, or as a test -/
def WW (C : Ctx) (E : ER) (Γ : Env) (Λ : Cells) (e : Expr) (P : Bool → Cells → Prop) : Prop := ∀ X F W, C.Is X → Takes X W → PW X e (rdT C.K F W E Γ Λ P)
theorem wt_ww {P : Bool → Cells → Prop} (h : WW C E Γ Λ a P) : WT C E Γ Λ a P := fun X F W is tk => (h X F W is tk).pt
theorem WW.use {X : Cx} {F : Fm} {W : WX} {B : Hp} {α : List Addr} {σ : L2.St} {H : Hp} {e : Expr} {P : Bool → Cells → Prop} {Q : Bool → Hp → Prop} (h : WW C E Γ Λ e P) (is : C.Is X) (tk : Takes X W) (S : Sat C.K F B α Γ Λ σ H) (er : ErOk C.K F W B σ Γ E)
    (q : ∀ b Λ' B' α' H', P b Λ' → Sat C.K F B' α' Γ Λ' σ H' → Ex B B' → α <+: α' → Q b H') : UW X e σ H Q := ⟨_, h X F W is tk, B, α, S, q, er⟩
theorem ww_and1 {P : Bool → Cells → Prop} (h : WT C E Γ Λ a P) : WW C E Γ Λ (.BoolOp .And [a] pos) P := fun X F W is tk => pw_and1 (h X F W is tk)
theorem ww_or1 {P : Bool → Cells → Prop} (h : WT C E Γ Λ a P) : WW C E Γ Λ (.BoolOp .Or [a] pos) P := fun X F W is tk => pw_or1 (h X F W is tk)
theorem ww_and {P : Bool → Cells → Prop} {rest : List Expr} (h : WT C E Γ Λ a fun c Λ1 => if c = true then WW C E Γ Λ1 (.BoolOp .And (b :: rest) pos) P else P false Λ1) : WW C E Γ Λ (.BoolOp .And (a :: b :: rest) pos) P := fun X F W is tk => by
  refine pw_imp (pw_and pt_U pw_U) fun σ H Q ⟨B, α, S, q, er⟩ => ?_
  refine WT.use h is tk S er fun c Λ1 B1 α1 H1 p1 S1 e1 f1 => ?_
  cases c with
  | true =>
    rw [if_pos rfl] at p1 ⊢
    exact WW.use p1 is tk S1 (er.mono e1) fun y Λ2 B2 α2 H2 p2 S2 e2 f2 => q _ _ _ _ _ p2 S2 (e1.trans e2) (f1.trans f2)
  | false =>
    rw [if_neg (by simp)] at p1 ⊢
    exact q _ _ _ _ _ p1 S1 e1 f1
theorem ww_or {P : Bool → Cells → Prop} {rest : List Expr} (h : WT C E Γ Λ a fun c Λ1 => if c = true then P true Λ1 else WW C E Γ Λ1 (.BoolOp .Or (b :: rest) pos) P) : WW C E Γ Λ (.BoolOp .Or (a :: b :: rest) pos) P := fun X F W is tk => by
  refine pw_imp (pw_or pt_U pw_U) fun σ H Q ⟨B, α, S, q, er⟩ => ?_
  refine WT.use h is tk S er fun c Λ1 B1 α1 H1 p1 S1 e1 f1 => ?_
  cases c with
  | false =>
    rw [if_neg (by simp)] at p1 ⊢
    exact WW.use p1 is tk S1 (er.mono e1) fun y Λ2 B2 α2 H2 p2 S2 e2 f2 => q _ _ _ _ _ p2 S2 (e1.trans e2) (f1.trans f2)
  | true =>
    rw [if_pos rfl] at p1 ⊢
    exact q _ _ _ _ _ p1 S1 e1 f1
/-! ### subscripts, slices -/
def ixP (Λ : Cells) (x y : D) (P : D → Prop) : Prop := match y with
  | .int i => match x with
    | .str s => s.length ≤ sizeLine ∧ ∃ c, atI s.cps.toList i = some c ∧ P (.str ⟨#[c]⟩)
    | x => ∃ ds, seqD Λ x = some ds ∧ ∃ d, atI ds i = some d ∧ P d
  | _ => False
theorem Reps.atI {K : PySem.W.Frag} {B : Hp} {α : List Addr} {ds : List D} {vs : List V} {i : Int} {d : D} (r : Reps K B α ds vs) (h : atI ds i = some d) : ∃ v, L2.atI vs i = some v ∧ Rep K B α d v := by
  unfold L2.atI at h ⊢
  rw [r.length]
  cases e : ixN ds.length i with
  | none => rw [e] at h; cases h
  | some j =>
    rw [e] at h
    exact r.get h
theorem ix_K {K : PySem.W.Frag} {x y : D} (h : ixP Λ x y fun d => P d Λ) : OpK K (rIx K) x y Γ Λ P := by
  intro F B α σ H vx vy Q S rx ry q
  unfold ixP at h
  split at h
  · rename_i i
    unfold Rep at ry
    split at h
    · rename_i s
      unfold Rep at rx
      obtain ⟨hl, c, hc, p⟩ := h
      exact .inr (.inr ⟨s, i, c, rx, ry, hl, hc, q _ _ _ _ _ _ p S (Ex.refl B) (List.prefix_refl _) (by unfold Rep; rfl)⟩)
    · obtain ⟨ds, hs, d, hd, p⟩ := h
      obtain ⟨a, vs, rfl, h1, h2⟩ := S.seq rx hs
      obtain ⟨v, hv, rv⟩ := h2.atI hd
      have fin := q _ _ _ _ _ _ p S (Ex.refl B) (List.prefix_refl _) rv
      rcases h1 with h1 | h1
      · exact .inl ⟨a, vs, i, v, rfl, ry, h1, hv, fin⟩
      · exact .inr (.inl ⟨a, vs, i, v, rfl, ry, h1, hv, fin⟩)
  · exact h.elim
theorem we_ix (h : WE C E Γ Λ a fun x Λ1 => WE C E Γ Λ1 b fun y Λ2 => ixP Λ2 x y fun d => P d Λ2) (hs : PlainIx b := by intro _ _; rfl) : WE C E Γ Λ (.Subscript a b pos) P := fun X F W is tk => by
  refine pe_imp (pe_ix ix_seq pe_U pe_U hs) fun σ H Q ⟨B, α, S, q, er⟩ => ?_
  refine WE.use h is tk S er fun x Λ1 vx B1 α1 H1 p1 S1 e1 f1 r1 => ?_
  refine WE.use p1 is tk S1 (er.mono e1) fun y Λ2 vy B2 α2 H2 p2 S2 e2 f2 r2 => ?_
  rw [is.K]
  exact ix_K (K := C.K) p2 F B2 α2 σ H2 vx vy Q S2 (r1.mono e2 f2) r2 fun d Λ' v B' α' H' p' S' e' f' r' => q d Λ' v B' α' H' p' S' ((e1.trans e2).trans e') ((f1.trans f2).trans f') r'
/-- what stands at a slice's end -/
def WO (C : Ctx) (E : ER) (Γ : Env) (Λ : Cells) : Option Expr → (Option Int → Cells → Prop) → Prop
  | none, P => P none Λ
  | some e, P => WE C E Γ Λ e fun d Λ' => ∃ i, d = .int i ∧ P (some i) Λ'
def cutD (xs : List D) (lo hi : Option Int) : List D := (xs.drop (HT.sIx xs.length 0 lo)).take (HT.sIx xs.length xs.length hi - HT.sIx xs.length 0 lo)
theorem Reps.cut {K : PySem.W.Frag} {B : Hp} {α : List Addr} {ds : List D} {vs : List V} (r : Reps K B α ds vs) (lo hi : Option Int) : Reps K B α (cutD ds lo hi) (cutV vs lo hi) := by
  unfold cutD cutV
  rw [r.length]
  exact (r.drop _).take _
def UO (X : Cx) (o : Option Expr) : TO := match o with
  | none => tNoPart
  | some e => tPart (UE X e)
theorem po_U {X : Cx} {o : Option Expr} : PO X o (UO X o) := by
  cases o with
  | none => exact po_none
  | some e => exact po_some pe_U
theorem WO.use {X : Cx} {F : Fm} {W : WX} {B : Hp} {α : List Addr} {σ : L2.St} {H : Hp} {o : Option Expr} {P : Option Int → Cells → Prop} {Q : Option Int → Hp → Prop} (h : WO C E Γ Λ o P) (is : C.Is X) (tk : Takes X W) (S : Sat C.K F B α Γ Λ σ H) (er : ErOk C.K F W B σ Γ E)
    (q : ∀ i Λ' B' α' H', P i Λ' → Sat C.K F B' α' Γ Λ' σ H' → Ex B B' → α <+: α' → Q i H') : UO X o σ H Q := by
  cases o with
  | none => exact q none Λ B α H h S (Ex.refl B) (List.prefix_refl _)
  | some e =>
    refine WE.use (C := C) (E := E) (Γ := Γ) (Λ := Λ) h is tk S er fun d Λ' v B' α' H' p S' e f r => ?_
    obtain ⟨i, rfl, p⟩ := p
    unfold Rep at r
    exact ⟨i, r, q _ _ _ _ _ p S' e f⟩
end
end Pl

namespace Pl
open PySem L2 PyProof.Rows

/-! ### data without cells -/
mutual
def nl : D → Bool
  | .tup ds => nls ds
  | .lst ds => nls ds
  | .fzl ds => nls ds
  | .loc _ => false
  | .ins _ _ ds => nls ds
  | .dic _ ds => nls ds
  | .exc _ _ ds => nls ds
  | _ => true
def nls : List D → Bool
  | [] => true
  | d :: ds => nl d && nls ds
end
section
variable {K : PySem.W.Frag} {B : Hp} {α α' : List Addr}
mutual
theorem Rep.nl : ∀ (d : D) (v : V), Pl.nl d = true → Rep K B α d v → Rep K B α' d v
  | .non, _, _, h => h
  | .bl _, _, _, h => h
  | .int _, _, _, h => h
  | .str _, _, _, h => h
  | .tup ds, v, n, h => by
    unfold Rep at h ⊢
    obtain ⟨a, vs, rfl, h1, h2⟩ := h
    exact ⟨a, vs, rfl, h1, Reps.nl ds vs n h2⟩
  | .lst ds, v, n, h => by
    unfold Rep at h ⊢
    obtain ⟨a, vs, rfl, h1, h2⟩ := h
    exact ⟨a, vs, rfl, h1, Reps.nl ds vs n h2⟩
  | .fzl ds, v, n, h => by
    unfold Rep at h ⊢
    obtain ⟨a, vs, rfl, h1, h2⟩ := h
    exact ⟨a, vs, rfl, h1, Reps.nl ds vs n h2⟩
  | .loc _, _, n, _ => nomatch n
  | .raw _, _, _, h => h
  | .ins C ns ds, v, n, h => by
    unfold Rep at h ⊢
    obtain ⟨a, dx, vs, rfl, h1, h2, h3⟩ := h
    exact ⟨a, dx, vs, rfl, h1, Reps.nl ds vs n h2, h3⟩
  | .dic ks ds, v, n, h => by
    unfold Rep at h ⊢
    obtain ⟨a, vs, rfl, h1, h2, h3⟩ := h
    exact ⟨a, vs, rfl, h1, Reps.nl ds vs n h2, h3⟩
  | .exc C ns ds, v, n, h => by
    unfold Rep at h ⊢
    obtain ⟨a, d, vs, rfl, h1, h2, h3, h4⟩ := h
    exact ⟨a, d, vs, rfl, h1, Reps.nl ds vs n h2, h3, h4⟩
theorem Reps.nl : ∀ (ds : List D) (vs : List V), nls ds = true → Reps K B α ds vs → Reps K B α' ds vs
  | [], _, _, h => h
  | d :: ds, vs, n, h => by
    have n' : (Pl.nl d && nls ds) = true := n
    rw [Bool.and_eq_true] at n'
    unfold Reps at h ⊢
    obtain ⟨v, r, rfl, h1, h2⟩ := h
    exact ⟨v, r, rfl, Rep.nl d v n'.1 h1, Reps.nl ds r n'.2 h2⟩
end
end

/-! ### what a def promises -/
abbrev Spec := List D → Cells → (Res → Cells → Prop) → (Err → Cells → Prop) → Prop
def spOf (K : PySem.W.Frag) (n : Nat) (S : Spec) : Sp := fun vs H Q E => ∃ F ds Λ, vs.length = n ∧ F.H0 = H ∧ Sat K F F.B0 F.α0 [] Λ [] H ∧ Reps K F.B0 F.α0 ds vs ∧
  S ds Λ (fun r Λ' => ∀ v H' B' α', Sat K F B' α' [] Λ' [] H' → ResAt K F B' α' H' v r → Q v H')
    (fun err Λ' => ∀ B' α' H' c dx, Sat K F B' α' [] Λ' [] H' → ErrAt K F B' α' H' err c dx → E c dx H')

/-- a def of the module, by its name: n arguments, at most level k -/
structure Fn (P : Program) (w : World) (K : PySem.W.Frag) (mg : Str → Option Value) (base : Heap) (k : Nat) (x : Str) (n : Nat) (S : Spec) : Prop where
  ex : ∃ f fd ps, FnG P w K mg base (L2.CX P w) k f fd ps (spOf K n S) ∧ mg x = some (.ref f) ∧ PySem.W.keepIn K (.ref f) = true ∧ Binds K fd ps [] ∧ ps.length = n
theorem Fn.mono {P : Program} {w : World} {K : PySem.W.Frag} {mg : Str → Option Value} {base : Heap} {k k' : Nat} {x : Str} {n : Nat} {S : Spec} (h : Fn P w K mg base k x n S) (hk : k ≤ k') : Fn P w K mg base k' x n S := by
  obtain ⟨f, fd, ps, h1, h2⟩ := h.ex
  exact ⟨f, fd, ps, h1.mono hk, h2⟩
theorem Fn.imp {P : Program} {w : World} {K : PySem.W.Frag} {mg : Str → Option Value} {base : Heap} {k : Nat} {x : Str} {n : Nat} {S S' : Spec} (h : Fn P w K mg base k x n S) (i : ∀ ds Λ Q E, S' ds Λ Q E → S ds Λ Q E) : Fn P w K mg base k x n S' := by
  obtain ⟨f, fd, ps, h1, h2⟩ := h.ex
  exact ⟨f, fd, ps, h1.imp fun vs H Q E ⟨F, ds, Λ, a, b, c, d, e⟩ => ⟨F, ds, Λ, a, b, c, d, i _ _ _ _ e⟩, h2⟩
abbrev Ctx.fn (C : Ctx) (k : Nat) (x : Str) (n : Nat) (S : Spec) : Prop := Fn C.P C.w C.K C.mg C.base k x n S

/-! ### a call: the callee's state behind it, told for the caller -/
section
variable {K : PySem.W.Frag} {F : Fm} {B B' : Hp} {α : List Addr} {Γ : Env} {Λ : Cells} {σ : L2.St} {H H' : Hp}
/-- the callee's entry -/
theorem Sat.enter (S : Sat K F B α Γ Λ σ H) : Sat K ⟨H, B, []⟩ B [] [] [] [] H :=
  ⟨Ex.refl B, S.bh, fun a o h => .inl h, fun a o h _ _ => h, fun a h => h, List.prefix_refl _, List.nodup_nil, rfl, fun n c h => by simp at h, fun a h => by simp at h, fun i d h => by simp at h, rfl, S.tb.start fun a h => by simp at h⟩
/-- behind a call that leaves no cells -/
theorem Sat.back (S : Sat K F B α Γ Λ σ H) (T : Sat K ⟨H, B, []⟩ B' [] [] [] [] H') : Sat K F B' α Γ Λ σ H' := by
  have hB : ∀ a, H a ≠ none → B a = none → B' a = none := fun a h1 h2 => by
    cases q : B' a with
    | none => rfl
    | some o =>
      rcases T.fr a o q with z | z
      · have : B a = some o := z
        rw [h2] at this; cases this
      · exact absurd z h1
  refine ⟨S.bb.trans T.bb, T.bh, fun a o h => ?_, fun a o h ha n => T.kp a o (S.kp a o h ha n) (by simp) n, fun a h => S.dm a (T.dm a h), S.pf, S.nd, S.al, fun n c h hg => ?_, fun a ha => ⟨fun z => (S.ah a ha).1 (T.dm a z), (S.ah a ha).2⟩, fun i d h => ?_, S.ln, S.tb.back T.tb T.kp (fun a h => by simp at h) fun a h => .inl h⟩
  · rcases T.fr a o h with z | z
    · exact S.fr a o z
    · exact .inr (S.dm a z)
  · obtain ⟨a, h1, h2, h3, h4⟩ := S.ce n c h hg
    exact ⟨a, h1, hB a (S.ah a (List.mem_of_getElem? h1)).1 h2, h3, h4.mono T.bb (List.prefix_refl _) fun o q n => T.kp a o q (by simp) n⟩
  · obtain ⟨v, h1, h2⟩ := S.sl i d h
    exact ⟨v, h1, h2.mono T.bb (List.prefix_refl _)⟩
theorem Sat.nil_al (S : Sat K F B α Γ [] σ H) : α = [] := List.length_eq_zero_iff.mp S.al
end

section
variable {C : Ctx} {E : ER} {Γ : Env} {Λ : Cells} {pos p : Pos}
theorem back_plain : ∀ {es : List Expr} {env : PySem.Env}, es.all plainE = true → (backTo pos (starEach es env)).any (·.1) = false
  | [], _, _ => rfl
  | e :: es, env, h => by
    rw [List.all_cons, Bool.and_eq_true] at h
    rw [star_plain h.1]
    show (false || (backTo pos (starEach es env)).any (·.1)) = false
    rw [back_plain h.2]; rfl
/-- what the callee wants of the caller -/
theorem call_sp {F : Fm} {W : WX} {B : Hp} {α : List Addr} {σ : L2.St} {H : Hp} {ds : List D} {vs : List V} {n : Nat} {S : Spec} {Q : VK} {Pr : Res → Prop} {E' : ER} (T : Sat C.K F B α Γ Λ σ H) (r : Reps C.K B α ds vs) (hn : nls ds = true) (hl : ds.length = n)
    (h : S ds [] (fun r Λ' => Λ' = [] ∧ Pr r) fun err Λ' => Λ' = [] ∧ E' err Γ Λ)
    (mono : ∀ Q Q' E E', S ds [] Q E → (∀ r Λ', Q r Λ' → Q' r Λ') → (∀ e Λ', E e Λ' → E' e Λ') → S ds [] Q' E')
    (er : ErOk C.K F W B σ Γ E')
    (q : ∀ r v B' H', Pr r → Sat C.K F B' α Γ Λ σ H' → Ex B B' → ResAt C.K ⟨H, B, []⟩ B' [] H' v r → Q v H') : spOf C.K n S (vs ++ []) H Q fun c dx H' => W c dx σ H' := by
  refine ⟨⟨H, B, []⟩, ds, [], by rw [List.append_nil, r.length, hl], rfl, T.enter, by rw [List.append_nil]; exact Reps.nl ds vs hn r, mono _ _ _ _ h (fun r Λ' p v H' B' α' T' ra => ?_) fun err Λ' p B' α' H' c dx T' ea => ?_⟩
  · obtain ⟨rfl, p⟩ := p
    have e := T'.nil_al
    subst e
    exact q r v B' H' p (T.back T') T'.bb ra
  · obtain ⟨rfl, p⟩ := p
    have e := T'.nil_al
    subst e
    refine er err Λ B' α H' c dx p (T.back T') T'.bb ?_
    obtain ⟨e1, e2⟩ := ea
    refine ⟨e1, ?_⟩
    cases hf : err.fs with
    | none => rw [hf] at e2; exact e2
    | some z =>
      rw [hf] at e2
      obtain ⟨a, vs, q1, q2, q3, q4, q5⟩ := e2
      exact ⟨a, vs, q1, q2, q3.mono (Ex.refl _) List.nil_prefix, q4, fun z => have h : H a = none := (q5 z).1; ⟨T.dm a h, fun hm => (T.ah a hm).1 h⟩⟩
/-- a promise that asks less where less is wished -/
def Mono (S : Spec) : Prop := ∀ ds Λ Q Q' E E', S ds Λ Q E → (∀ r Λ', Q r Λ' → Q' r Λ') → (∀ e Λ', E e Λ' → E' e Λ') → S ds Λ Q' E'

/-- f(e, ..) of a def of the module that takes and leaves no cells: a value -/
theorem we_call [Cool C] {k n : Nat} {x : Str} {S : Spec} {e : Expr} {es : List Expr} {P : D → Cells → Prop} (G : C.fn k x n S) (hk : k ≤ C.k) (hj : GlAt C x) (m : Mono S)
    (h : WA C E Γ Λ (e :: es) fun ds Λ1 => nls ds = true ∧ ds.length = n ∧ S ds [] (fun r Λ' => Λ' = [] ∧ ∃ d, r = .val d ∧ P d Λ1) fun err Λ' => Λ' = [] ∧ E err Γ Λ1)
    (he : plainE e = true := by rfl) (hes : es.all plainE = true := by rfl) (hdb : (x == ("__debug__" : Str)) = false := by decide) : WE C E Γ Λ (.Call (.Name x p) (e :: es) [] pos) P := fun X F W is tk => by
  obtain ⟨f, fd, ps, h1, h2, h3, h4, h5⟩ := G.ex
  have e1 := is.prog; have e2 := is.w; have e3 := is.K; have e4 := is.mg; have e5 := is.base
  refine pe_imp (pe_callSDG (E := fun σ c dx H' => W c dx σ H') (dvs := []) (ds := []) (by rw [e1, e2, e3, e4, e5]; exact h1) (is.room.mono hk) (is.gl hj) (by rw [e4]; exact h2) (by rw [e3]; exact h3) (by rw [e3]; exact h4) .nil
    (fun σ => by rw [← e1, ← e2]; exact passAt tk σ) pa_U hdb (star_plain he) (back_plain hes)) fun σ H Q ⟨B, α, T, q, er⟩ => ?_
  refine WA.use h is tk T er fun ds Λ1 vs B1 α1 H1 p1 T1 x1 f1 r1 => ?_
  obtain ⟨n1, n2, s1⟩ := p1
  refine call_sp T1 r1 n1 n2 s1 (m ds []) (er.mono x1) fun r v B' H' p' T' x' ra => ?_
  obtain ⟨d, rfl, p'⟩ := p'
  exact q d Λ1 v B' α1 H' p' T' (x1.trans x') f1 (Rep.mono (Ex.refl _) List.nil_prefix d v ra)
/-- .. a new list -/
theorem wn_call [Cool C] {k n : Nat} {x : Str} {S : Spec} {e : Expr} {es : List Expr} {P : List D → Cells → Prop} (G : C.fn k x n S) (hk : k ≤ C.k) (hj : GlAt C x) (m : Mono S)
    (h : WA C E Γ Λ (e :: es) fun ds Λ1 => nls ds = true ∧ ds.length = n ∧ S ds [] (fun r Λ' => Λ' = [] ∧ ∃ ds', r = .new ds' ∧ P ds' Λ1) fun err Λ' => Λ' = [] ∧ E err Γ Λ1)
    (he : plainE e = true := by rfl) (hes : es.all plainE = true := by rfl) (hdb : (x == ("__debug__" : Str)) = false := by decide) : WN C E Γ Λ (.Call (.Name x p) (e :: es) [] pos) P := fun X F W is tk => by
  obtain ⟨f, fd, ps, h1, h2, h3, h4, h5⟩ := G.ex
  have e1 := is.prog; have e2 := is.w; have e3 := is.K; have e4 := is.mg; have e5 := is.base
  refine pe_imp (pe_callSDG (E := fun σ c dx H' => W c dx σ H') (dvs := []) (ds := []) (by rw [e1, e2, e3, e4, e5]; exact h1) (is.room.mono hk) (is.gl hj) (by rw [e4]; exact h2) (by rw [e3]; exact h3) (by rw [e3]; exact h4) .nil
    (fun σ => by rw [← e1, ← e2]; exact passAt tk σ) pa_U hdb (star_plain he) (back_plain hes)) fun σ H Q ⟨B, α, T, q, er⟩ => ?_
  refine WA.use h is tk T er fun ds Λ1 vs B1 α1 H1 p1 T1 x1 f1 r1 => ?_
  obtain ⟨n1, n2, s1⟩ := p1
  refine call_sp T1 r1 n1 n2 s1 (m ds []) (er.mono x1) fun r v B' H' p' T' x' ra => ?_
  obtain ⟨ds', rfl, p'⟩ := p'
  obtain ⟨pa, ws, rfl, q1, q2, q3, q4, q5⟩ := ra
  have q3 : H1 pa = none := q3
  exact q ds' Λ1 pa ws B' α1 H' p' T' (x1.trans x') f1 q1 q2 (T1.dm pa q3) (fun hm => (T1.ah pa hm).1 q3) (q5.mono (Ex.refl _) List.nil_prefix)
end

/-! ### statements -/
section
variable {C : Ctx} {Γ : Env} {Λ : Cells} {R : Rs} {pos : Pos}
theorem wss_nil (h : R.nx Γ Λ) : WSs C Γ Λ [] R := fun X F W is hm tk => pss_imp pss_nil fun D σ H ⟨B, α, S, q⟩ => q.nx Γ Λ B α σ H h S (Ex.refl B)
theorem wss_cons {s : Stmt} {rest : List Stmt} (h : WS C Γ Λ s { R with nx := fun Γ' Λ' => WSs C Γ' Λ' rest R }) : WSs C Γ Λ (s :: rest) R := fun X F W is hm tk => by
  refine pss_imp (pss_cons ps_U pss_U) fun D σ H ⟨B, α, S, q⟩ => ?_
  refine WS.use h is hm tk S ⟨fun Γ' Λ' B' α' σ' H' r S' e => ?_, q.rt, q.bk, q.ct, q.er⟩
  exact WSs.use r is hm tk S' (q.mono e)
theorem ws_if {c : Expr} {a b : List Stmt} (h : WT C R.er Γ Λ c fun k Λ1 => if k = true then WSs C Γ Λ1 a R else WSs C Γ Λ1 b R) : WS C Γ Λ (.If c a b pos) R := fun X F W is hm tk => by
  refine ps_imp (ps_if pt_U pss_U pss_U) fun D σ H ⟨B, α, S, q⟩ => ?_
  refine WT.use h is tk S q.er.at fun k Λ1 B1 α1 H1 p1 S1 e1 f1 => ?_
  cases k with
  | true =>
    rw [if_pos rfl] at p1 ⊢
    exact WSs.use p1 is hm tk S1 (q.mono e1)
  | false =>
    rw [if_neg (by simp)] at p1 ⊢
    exact WSs.use p1 is hm tk S1 (q.mono e1)
/-- no comprehension stands there -/
def noComp : Expr → Bool
  | .ListComp _ _ _ _ => false
  | .SetComp _ _ _ _ => false
  | .DictComp _ _ _ _ _ => false
  | _ => true
theorem noSwap {e : Expr} {t : Option Expr} {l : Nat} {env : PySem.Env} (h : noComp e = true) : swapsWith e t l env = pure false := by
  cases e <;> first | rfl | cases h
theorem ws_expr {e : Expr} (h : WE C R.er Γ Λ e fun _ Λ' => R.nx Γ Λ') (hc : noComp e = true := by rfl) : WS C Γ Λ (.Expr e pos) R := fun X F W is hm tk => by
  refine ps_imp (ps_expr pe_U (noSwap hc)) fun D σ H ⟨B, α, S, q⟩ => ?_
  exact WE.use h is tk S q.er.at fun d Λ' v B' α' H' p S' e f r => q.nx Γ Λ' B' α' σ H' p S' e
theorem ws_set {i : Nat} {x : Str} {e : Expr} {pos' : Pos} (hi : C.N[i]? = some x) (hl : C.ls[i]? = some true) (h : WE C R.er Γ Λ e fun d Λ' => R.nx (Γ.set i (some d)) Λ') (hc : noComp e = true := by rfl) : WS C Γ Λ (.Assign [.Name x pos'] e pos) R := fun X F W is hm tk => by
  refine ps_imp (ps_set is.nd (is.ni hi) (is.loc hi hl) pe_U (noSwap hc) (is.fn i x hi hl)) fun D σ H ⟨B, α, S, q⟩ => ?_
  exact WE.use h is tk S q.er.at fun d Λ' v B' α' H' p S' e f r => q.nx _ Λ' B' α' _ H' p (S'.set r) e
theorem ws_ret {e : Expr} (h : WE C R.er Γ Λ e fun d Λ' => R.rt (.val d) Λ') : WS C Γ Λ (.Return (some e) pos) R := fun X F W is hm tk => by
  refine ps_imp (ps_ret pe_U) fun D σ H ⟨B, α, S, q⟩ => ?_
  exact WE.use h is tk S q.er.at fun d Λ' v B' α' H' p S' e f r => q.rt _ Λ' v Γ B' α' σ H' p S' e r
theorem ws_retn {e : Expr} (h : WN C R.er Γ Λ e fun ds Λ' => R.rt (.new ds) Λ') : WS C Γ Λ (.Return (some e) pos) R := fun X F W is hm tk => by
  refine ps_imp (ps_ret pe_U) fun D σ H ⟨B, α, S, q⟩ => ?_
  exact WN.use h is tk S q.er.at fun ds Λ' p vs B' α' H' hp S' e f h1 h2 h3 h4 h5 => q.rt _ Λ' _ Γ B' α' σ H' hp S' e ⟨p, vs, rfl, h1, h2, h3, h4, h5⟩
end

/-! ### cells thrown away -/
/-- the last cells are dropped, the slots that told them forgotten -/
theorem Sat.cut {K : PySem.W.Frag} {F : Fm} {B : Hp} {α : List Addr} {Γ Γ' : Env} {Λ : Cells} {σ σ' : L2.St} {H : Hp} {m : Nat} (S : Sat K F B α Γ Λ σ H) (hm : F.α0.length ≤ m) 
    (hc : ∀ c ∈ Λ.take m, match c with | .lst ds => nls ds = true | .dic _ ds => nls ds = true | .ins _ _ ds => nls ds = true | .gone => True) (hl : Γ'.length = σ'.length)
    (hs : ∀ (i : Nat) (d : D), Γ'[i]? = some (some d) → ∃ v, σ'[i]? = some (some v) ∧ Rep K B (α.take m) d v) : Sat K F B (α.take m) Γ' (Λ.take m) σ' H := by
  refine { S with pf := ?_, nd := S.nd.sublist (List.take_sublist _ _), al := by simp [S.al], ce := fun n c h hg => ?_, ah := fun a ha => S.ah a (List.mem_of_mem_take ha), sl := hs, ln := hl, tb := S.tb.sub fun a ha => List.mem_of_mem_take ha }
  · obtain ⟨t, ht⟩ := S.pf
    rw [← ht, List.take_append]
    rw [List.take_of_length_le hm]
    exact List.prefix_append _ _
  · have hn : n < m := by
      by_cases z : n < m
      · exact z
      · have := (List.getElem?_eq_some_iff.mp h).1
        rw [List.length_take] at this; omega
    rw [List.getElem?_take_of_lt hn] at h
    obtain ⟨a, h1, h2, h3, h4⟩ := S.ce n c h hg
    refine ⟨a, by rw [List.getElem?_take_of_lt hn]; exact h1, h2, h3, ?_⟩
    have hm' := hc c (by rw [← List.getElem?_take_of_lt hn] at h; exact List.mem_of_getElem? h)
    cases c with
    | lst ds => obtain ⟨vs, q1, q2⟩ := h4; exact ⟨vs, q1, Reps.nl ds vs hm' q2⟩
    | dic ks ds => obtain ⟨vs, q1, q2, q3⟩ := h4; exact ⟨vs, q1, Reps.nl ds vs hm' q2, q3⟩
    | ins C ns ds => obtain ⟨dx, vs, q1, q2, q3⟩ := h4; exact ⟨dx, vs, q1, Reps.nl ds vs hm' q2, q3⟩
    | gone => trivial

def nlC : Cell → Bool
  | .lst ds => nls ds
  | .dic _ ds => nls ds
  | .ins _ _ ds => nls ds
  | .gone => true
def nlR : Res → Bool
  | .val d => nl d
  | .new ds => nls ds
def nlE (e : Err) : Bool := match e.fs with
  | none => true
  | some (_, ds) => nls ds
/-- what a def's body is to reach: the wish at the cells that it was handed -/
def rtX (Λ0 : Cells) (Q : Res → Cells → Prop) (r : Res) (Λ' : Cells) : Prop := nlR r = true ∧ (Λ'.take Λ0.length).all nlC = true ∧ Q r (Λ'.take Λ0.length)
def erX (Λ0 : Cells) (Q : Err → Cells → Prop) (e : Err) (_ : Env) (Λ' : Cells) : Prop := nlE e = true ∧ (Λ'.take Λ0.length).all nlC = true ∧ Q e (Λ'.take Λ0.length)
theorem all_nlC {Λ : Cells} (h : Λ.all nlC = true) : ∀ c ∈ Λ, match c with | .lst ds => nls ds = true | .dic _ ds => nls ds = true | .ins _ _ ds => nls ds = true | .gone => True := fun c hc => by
  have := List.all_eq_true.mp h c hc
  cases c <;> first | exact this | trivial
/-- a def's slots at its entry -/
def Γ0 (N : List Str) (ds : List D) : Env := ds.map some ++ List.replicate (N.length - ds.length) none

/-- THE RULE: a def of the module keeps its promise, by its body -/
theorem fn_ok {P : Program} {w : World} {K : PySem.W.Frag} {mg : Str → Option Value} {base : Heap} {x qual : Str} {st : Stmt} {f : Addr} {fd : FuncData} {N ps : List Str} {k : Nat} {S : Spec} (F : Fun K x qual st f fd) (sc : FnScope N ps (defScope st)) (C : Ctx)
    (hC : C.P = P ∧ C.w = w ∧ C.K = K ∧ C.mg = mg ∧ C.base = base ∧ C.N = N ∧ C.sc = defScope st ∧ C.k = k) (good : C.Good) (hm : ∀ ds Λ Q E, S ds Λ Q E → Λ.length ≤ C.m)
    (hb : ∀ ds Λ Q E, ds.length = ps.length → S ds Λ Q E → WSs C (Γ0 N ds) Λ (defBody st) ⟨fun _ Λ' => rtX Λ Q (.val .non) Λ', rtX Λ Q, fun _ _ => False, fun _ _ => False, erX Λ E⟩)
    (hcd : ∀ q c, C.cd = some (q, c) → qual ++ ".<locals>." = q ∧ fd.code = .ref c := by intro _ _ h; cases h) : FnG P w K mg base (L2.CX P w) (k + 1) f fd ps (spOf K ps.length S) := by
  obtain ⟨rfl, rfl, rfl, rfl, rfl, rfl, hsc, rfl⟩ := hC
  refine F.okXG sc (fun vs H Q E h => by obtain ⟨_, _, _, h, _⟩ := h; exact h) fun cdv A outer s H vs Q E ecd hr h => ?_
  obtain ⟨Fm', ds, Λ, hl, hH, T, r, sp⟩ := h
  have hds : ds.length = ps.length := by rw [← r.length]; exact hl
  have hN : ps.length ≤ C.N.length := by have := congrArg List.length sc.pre; rw [List.length_take] at this; omega
  let X := cxOf (L2.CX C.P C.w) C.P C.w C.K C.mg C.base C.N qual (defScope st) f cdv A outer s H E
  have is : C.Is X := ⟨rfl, rfl, rfl, rfl, rfl, rfl, hsc.symm, fun _ => rfl, fun _ => hr.hd, hr.w, fun _ _ _ _ => .inl rfl, good, passes_of rfl, fun _ => ⟨rfl, rfl, rfl⟩, fun q c e => ⟨(hcd q c e).1, ecd.symm.trans (hcd q c e).2⟩⟩
  have tk : Takes X (fun c d _ H => E c d H) := takes_of rfl rfl rfl rfl
  have T' : Sat C.K Fm' Fm'.B0 Fm'.α0 (Γ0 C.N ds) Λ (L2.start C.N vs) H := by
    refine T.env ?_ fun i d hi => ?_
    · unfold Γ0 L2.start
      simp only [List.length_append, List.length_map, List.length_replicate]
      omega
    · unfold Γ0 at hi
      by_cases hlt : i < ds.length
      · rw [List.getElem?_append_left (by simpa using hlt), List.getElem?_map] at hi
        cases q : ds[i]? with
        | none => rw [q] at hi; cases hi
        | some e =>
          rw [q] at hi
          cases hi
          obtain ⟨v, h1, h2⟩ := r.get q
          refine ⟨v, ?_, h2⟩
          unfold L2.start
          rw [List.getElem?_append_left (by have := (List.getElem?_eq_some_iff.mp h1).1; simpa using this), List.getElem?_map, h1]
          rfl
      · rw [List.getElem?_append_right (by simpa using hlt), List.getElem?_replicate] at hi
        split at hi <;> cases hi
  have hlen : Fm'.α0.length = Λ.length := T.al
  have cut : ∀ {Γ' : Env} {Λ' : Cells} {B' : Hp} {α' : List Addr} {σ' : L2.St} {H' : Hp}, Sat C.K Fm' B' α' Γ' Λ' σ' H' → (Λ'.take Λ.length).all nlC = true → Sat C.K Fm' B' (α'.take Λ.length) [] (Λ'.take Λ.length) [] H' := fun S' h =>
    S'.cut (by omega) (all_nlC h) rfl fun i d h => by simp at h
  refine ⟨_, hb ds Λ _ _ hds sp X Fm' _ is (by rw [T.al]; exact hm _ _ _ _ sp) tk, Fm'.B0, Fm'.α0, T', ⟨fun Γ' Λ' B' α' σ' H' h S' e => ?_, fun r Λ' v Γ' B' α' σ' H' h S' e ra => ?_, fun Γ' Λ' B' α' σ' H' h => h.elim, fun Γ' Λ' B' α' σ' H' h => h.elim, fun err Γ' Λ' B' α' σ' H' c dx h S' e ea => ?_⟩⟩
  · obtain ⟨h1, h2, h3⟩ := h
    exact h3 .non H' B' _ (cut S' h2) (by unfold ResAt Rep; rfl)
  · obtain ⟨h1, h2, h3⟩ := h
    refine h3 v H' B' _ (cut S' h2) ?_
    cases r with
    | val d => exact Rep.nl d v h1 ra
    | new ds =>
      obtain ⟨p, vs, q1, q2, q3, q4, q5, q6⟩ := ra
      exact ⟨p, vs, q1, q2, q3, q4, fun hm => q5 (List.mem_of_mem_take hm), Reps.nl ds vs h1 q6⟩
  · obtain ⟨h1, h2, h3⟩ := h
    refine h3 B' _ H' c dx (cut S' h2) ?_
    obtain ⟨e1, e2⟩ := ea
    refine ⟨e1, ?_⟩
    unfold nlE at h1
    cases hf : err.fs with
    | none => rw [hf] at e2; exact e2
    | some z =>
      obtain ⟨ns, ds⟩ := z
      rw [hf] at e2 h1
      obtain ⟨a, vs, q1, q2, q3, q4, q5⟩ := e2
      exact ⟨a, vs, q1, q2, Reps.nl ds vs h1 q3, q4, fun z => ⟨(q5 z).1, fun hm => (q5 z).2 (List.mem_of_mem_take hm)⟩⟩
theorem fn_mk {P : Program} {w : World} {K : PySem.W.Frag} {mg : Str → Option Value} {base : Heap} {k : Nat} {x : Str} {f : Addr} {fd : FuncData} {ps : List Str} {S : Spec} (h : FnG P w K mg base (L2.CX P w) k f fd ps (spOf K ps.length S)) (hm : mg x = some (.ref f)) (hk : PySem.W.keepIn K (.ref f) = true) (hb : Binds K fd ps []) :
    Fn P w K mg base k x ps.length S := ⟨f, fd, ps, h, hm, hk, hb, rfl⟩
end Pl

namespace Pl
open PySem L2 PyProof.Rows

/-! ### the frame told anew -/
section
variable {K : PySem.W.Frag} {F : Fm} {B B' : Hp} {α α' : List Addr} {Γ Γ' : Env} {Λ Λ' : Cells} {σ σ' : L2.St} {H H' : Hp}
theorem pre_mem {l l' : List Addr} {a : Addr} (h : l <+: l') (m : a ∈ l) : a ∈ l' := by
  obtain ⟨t, rfl⟩ := h
  exact List.mem_append_left _ m
theorem Sat.rebase (S : Sat K F B α Γ Λ σ H) : Sat K ⟨H, B, α⟩ B α Γ Λ σ H :=
  ⟨Ex.refl B, S.bh, fun a o h => .inl h, fun a o h _ _ => h, fun a h => h, List.prefix_refl _, S.nd, S.al, fun n c h hg => by
    obtain ⟨a, h1, h2, _, h4⟩ := S.ce n c h hg
    exact ⟨a, h1, h2, .inr (List.mem_of_getElem? h1), h4⟩, fun a ha => ⟨(S.ah a ha).1, .inr ha⟩, S.sl, S.ln, S.tb.start fun a h => h⟩
theorem Sat.unbase (S : Sat K F B α Γ Λ σ H) (T : Sat K ⟨H, B, α⟩ B' α' Γ' Λ' σ' H') : Sat K F B' α' Γ' Λ' σ' H' := by
  have al : ∀ a ∈ α, F.H0 a = none ∨ a ∈ F.α0 := fun a ha => (S.ah a ha).2
  have al' : ∀ a ∈ α', F.H0 a = none ∨ a ∈ F.α0 := fun a ha => by
    rcases (T.ah a ha).2 with z | z
    · exact .inl (S.dm a z)
    · exact al a z
  refine ⟨S.bb.trans T.bb, T.bh, fun a o h => ?_, fun a o h ha n => ?_, fun a h => S.dm a (T.dm a h), S.pf.trans T.pf, T.nd, T.al, fun n c h hg => ?_, fun a ha => ⟨(T.ah a ha).1, al' a ha⟩, T.sl, T.ln, S.tb.back T.tb T.kp (fun a h => pre_mem T.pf h) fun a h => .inr h⟩
  · rcases T.fr a o h with z | z
    · exact S.fr a o z
    · exact .inr (S.dm a z)
  · refine T.kp a o (S.kp a o h ha n) (fun z => ?_) n
    rcases al a z with q | q
    · rw [h] at q; cases q
    · exact ha q
  · obtain ⟨a, h1, h2, h3, h4⟩ := T.ce n c h hg
    exact ⟨a, h1, h2, al' a (List.mem_of_getElem? h1), h4⟩
end

/-! ### targets -/
/-- all slots but those told are as they were -/
def Agree (vs : List Nat) (σ σ' : L2.St) : Prop := σ'.length = σ.length ∧ ∀ j : Nat, j ∉ vs → σ'[j]? = σ[j]?
theorem Agree.refl (vs : List Nat) (σ : L2.St) : Agree vs σ σ := ⟨rfl, fun _ _ => rfl⟩
theorem Agree.trans {vs ws : List Nat} {σ σ' σ'' : L2.St} (h : Agree vs σ σ') (k : Agree ws σ' σ'') : Agree (vs ++ ws) σ σ'' := ⟨k.1.trans h.1, fun j hj => by
  rw [k.2 j (fun z => hj (List.mem_append_right _ z)), h.2 j (fun z => hj (List.mem_append_left _ z))]⟩
def WG (C : Ctx) (Γ : Env) (Λ : Cells) (tg : Expr) (d : D) (vs : List Nat) (P : Env → Prop) : Prop := ∀ X F, C.Is X → PG X tg fun v σ H Q => ∃ B α, Sat C.K F B α Γ Λ σ H ∧ Rep C.K B α d v ∧
  ∀ Γ' σ', P Γ' → Sat C.K F B α Γ' Λ σ' H → Agree vs σ σ' → Q σ' H
def WGs (C : Ctx) (Γ : Env) (Λ : Cells) (tg : List Expr) (ds : List D) (vs : List Nat) (P : Env → Prop) : Prop := ∀ X F, C.Is X → PGs X tg fun us σ H Q => ∃ B α, Sat C.K F B α Γ Λ σ H ∧ Reps C.K B α ds us ∧
  ∀ Γ' σ', P Γ' → Sat C.K F B α Γ' Λ σ' H → Agree vs σ σ' → Q σ' H
def UG (X : Cx) (e : Expr) : TG := fun v σ H Q => ∃ t, PG X e t ∧ t v σ H Q
def UGs (X : Cx) (e : List Expr) : TGs := fun v σ H Q => ∃ t, PGs X e t ∧ t v σ H Q
theorem pg_U {X : Cx} {e : Expr} : PG X e (UG X e) := ⟨fun pins s σ H v u Q I r ⟨_, h, q⟩ => h.run pins s σ H v u Q I r q⟩
theorem pgs_U {X : Cx} {e : List Expr} : PGs X e (UGs X e) := ⟨fun pins s σ H v u Q I r ⟨_, h, q⟩ => h.run pins s σ H v u Q I r q⟩
theorem pg_imp {X : Cx} {e : Expr} {t t' : TG} (h : PG X e t) (i : ∀ v σ H Q, t' v σ H Q → t v σ H Q) : PG X e t' := ⟨fun pins s σ H v u Q I r q => h.run pins s σ H v u Q I r (i v σ H Q q)⟩
theorem pgs_imp {X : Cx} {e : List Expr} {t t' : TGs} (h : PGs X e t) (i : ∀ v σ H Q, t' v σ H Q → t v σ H Q) : PGs X e t' := ⟨fun pins s σ H v u Q I r q => h.run pins s σ H v u Q I r (i v σ H Q q)⟩
section
variable {C : Ctx} {Γ : Env} {Λ : Cells} {P : Env → Prop} {pos : Pos}
theorem wg_name {i : Nat} {x : Str} {d : D} (hi : C.N[i]? = some x) (hl : C.ls[i]? = some true) (p : P (Γ.set i (some d))) : WG C Γ Λ (.Name x pos) d [i] P := fun X F is =>
  pg_imp (pg_name is.nd (is.ni hi) (is.loc hi hl) (is.fn i x hi hl)) fun v σ H Q ⟨B, α, S, r, q⟩ => q _ _ p (S.set r) ⟨by simp, fun j hj => by rw [List.getElem?_set_ne (fun e => hj (by simp [e]))]⟩
theorem wgs_nil (p : P Γ) : WGs C Γ Λ [] [] [] P := fun X F is => pgs_imp pgs_nil fun v σ H Q ⟨B, α, S, r, q⟩ => ⟨by unfold Reps at r; exact r, q _ _ p S (Agree.refl _ _)⟩
/-- no star, no attribute .. : stored by itself -/
def plainT : Expr → Bool
  | .Starred _ _ => false
  | _ => true
theorem each_plain {e : Expr} {es : List Expr} {env : PySem.Env} (h : plainT e = true) : (assignEach (e :: es) env).map (·.2) = assign e env :: (assignEach es env).map (·.2) := by
  cases e <;> first | rfl | cases h
theorem wgs_cons {e : Expr} {es : List Expr} {d : D} {ds : List D} {vs ws : List Nat} (h : WG C Γ Λ e d vs fun Γ' => WGs C Γ' Λ es ds ws P) (he : plainT e = true := by rfl) : WGs C Γ Λ (e :: es) (d :: ds) (vs ++ ws) P := fun X F is => by
  refine pgs_imp (pgs_cons pg_U pgs_U (each_plain he)) fun us σ H Q ⟨B, α, S, r, q⟩ => ?_
  unfold Reps at r
  obtain ⟨v, r', rfl, h1, h2⟩ := r
  refine ⟨v, r', rfl, _, h X F is, B, α, S, h1, fun Γ' σ' p S' ag => ?_⟩
  exact ⟨_, p X F is, B, α, S', h2, fun Γ'' σ'' p' S'' ag' => q Γ'' σ'' p' S'' (ag.trans ag')⟩
theorem each_len {es : List Expr} {env : PySem.Env} : (assignEach es env).length = es.length := by
  induction es with
  | nil => rfl
  | cons e es ih => cases e <;> (show (assignEach es env).length + 1 = es.length + 1; rw [ih])
theorem each_star {es : List Expr} {env : PySem.Env} (h : es.all plainT = true) : (assignEach es env).findIdx? (·.1) = none := by
  induction es with
  | nil => rfl
  | cons e es ih =>
    rw [List.all_cons, Bool.and_eq_true] at h
    have q := ih h.2
    cases e <;> first
      | (cases h.1; done)
      | (rw [List.findIdx?_eq_none_iff] at q ⊢
         intro y hy
         rcases List.mem_cons.mp hy with z | z
         · rw [z]
         · exact q y z)
/-- (a, b, ..): a tuple's items -/
theorem wg_tup [Cool C] {es : List Expr} {k : Nat} {ds : List D} {vs : List Nat} (h : WGs C Γ Λ es ds vs P) (hl : es.length = ds.length) (hp : es.all plainT = true := by rfl) : WG C Γ Λ (.Tuple es k pos) (.tup ds) vs P := fun X F is => by
  refine pg_imp (pg_tup is.calm pgs_U (n := ds.length) (by rw [each_len, hl]) (each_star hp)) fun v σ H Q ⟨B, α, S, r, q⟩ => ?_
  unfold Rep at r
  obtain ⟨a, us, rfl, h1, h2⟩ := r
  exact ⟨a, us, rfl, by rw [is.K]; exact S.bh.sqT h1.1, h2.length, _, h X F is, B, α, S, h2, q⟩
end

/-! ### what is walked -/
/-- a tuple made anew: known to its object, or one not of truths alone -/
def TupHO (o : HO) (vs : List V) (es : List D) : Prop := (o = .tup vs ∧ allBl es = false) ∨ ∃ its, o = .frz (tupO its) (.tup vs)
theorem TupHO.nt {o : HO} {vs : List V} {es : List D} (h : TupHO o vs es) : NoTbl o := fun ps q => by
  rcases h with ⟨rfl, _⟩ | ⟨its, rfl⟩ <;> cases q
theorem TupHO.sq {K : PySem.W.Frag} {B : Hp} {a : Addr} {o : HO} {vs : List V} {es : List D} (h : TupHO o vs es) (e : B a = some o) : SqX K B a vs es := by
  rcases h with ⟨rfl, q⟩ | ⟨its, rfl⟩
  · exact .odd (SqT.of e) q
  · exact .new e
structure ItsOk (K : PySem.W.Frag) (B : Hp) (J : It) (ds : List D) : Prop where
  go : ∀ (i : Nat) (H : Hp), i < ds.length → Ex B H → J.go i H
  stop : ∀ H : Hp, Ex B H → J.stop ds.length H
  yld : ∀ (i : Nat) (H : Hp) (x : V) (H' : Hp) (d : D), ds[i]? = some d → Ex B H → J.yld i H x H' →
    (H' = H ∧ Rep K B [] d x) ∨ (∃ p o vs es, x = .ref p ∧ H p = none ∧ H' = upd H p o ∧ TupHO o vs es ∧ d = .tup es ∧ Reps K B [] es vs)
def WI (C : Ctx) (E : ER) (Γ : Env) (Λ : Cells) (tg iter : Expr) (P : List D → Cells → Prop) : Prop := ∀ X F W, C.Is X → Takes X W → PI X tg iter fun σ H R => ∃ B α, Sat C.K F B α Γ Λ σ H ∧
  (∀ ds Λ' J B' α' H', P ds Λ' → Sat C.K F B' α' Γ Λ' σ H' → Ex B B' → α <+: α' → ItsOk C.K B' J ds → R J H') ∧ ErOk C.K F W B σ Γ E
def UI (X : Cx) (tg e : Expr) : TI := fun σ H R => ∃ t, PI X tg e t ∧ t σ H R
theorem pi_U {X : Cx} {tg e : Expr} : PI X tg e (UI X tg e) := ⟨fun pins s σ H R I ⟨_, h, q⟩ => h.run pins s σ H R I q⟩
theorem pi_imp {X : Cx} {tg e : Expr} {t t' : TI} (h : PI X tg e t) (i : ∀ σ H R, t' σ H R → t σ H R) : PI X tg e t' := ⟨fun pins s σ H R I q => h.run pins s σ H R I (i σ H R q)⟩
/-- what a turn's item is, for the body -/
theorem ItsOk.take {K : PySem.W.Frag} {F : Fm} {B B0 : Hp} {α : List Addr} {Γ : Env} {Λ : Cells} {σ : L2.St} {H H' : Hp} {J : It} {ds : List D} {i : Nat} {d : D} {x : V} (I : ItsOk K B0 J ds) (S : Sat K F B α Γ Λ σ H) (e : Ex B0 B) (hd : ds[i]? = some d) (y : J.yld i H x H') :
    ∃ B', Sat K F B' α Γ Λ σ H' ∧ Ex B B' ∧ Rep K B' α d x := by
  rcases I.yld i H x H' d hd (e.trans S.bh) y with ⟨rfl, r⟩ | ⟨p, o, vs, es, rfl, hp, rfl, ho, rfl, r⟩
  · exact ⟨B, S, Ex.refl B, r.mono e List.nil_prefix⟩
  · have hB := S.bh.back hp
    refine ⟨upd B p o, S.lay hp ho.nt, Ex.new hB, ?_⟩
    unfold Rep
    exact ⟨p, vs, rfl, ho.sq upd_same, r.mono (e.trans (Ex.new hB)) List.nil_prefix⟩
section
variable {C : Ctx} {E : ER} {Γ : Env} {Λ : Cells} {tg : Expr} {P : List D → Cells → Prop} {pos p : Pos}
theorem itl_ok' {K : PySem.W.Frag} {B : Hp} {a : Addr} {vs : List V} {ds : List D} (h : SqL K B a vs) (r : Reps K B [] ds vs) : ItsOk K B (Itl K a) ds where
  go := fun i H hi e => by
    obtain ⟨v, hv, _⟩ := r.get (List.getElem?_eq_getElem hi)
    exact ⟨vs, v, e.sqL h, hv⟩
  stop := fun H e => ⟨vs, e.sqL h, by rw [r.length]; exact Nat.le_refl _⟩
  yld := fun i H x H' d hd e y => by
    obtain ⟨rfl, y⟩ := y
    obtain ⟨v, hv, rv⟩ := r.get hd
    have q := y vs (e.sqL h)
    rw [hv] at q; cases q
    exact .inl ⟨rfl, rv⟩
/-- over a list's value -/
theorem wi_list {e : Expr} (h : WE C E Γ Λ e fun d Λ' => ∃ ds, (d = .lst ds ∨ d = .fzl ds) ∧ nls ds = true ∧ P ds Λ') : WI C E Γ Λ tg e P := fun X F W is tk => by
  refine pi_imp (pi_list pe_U) fun σ H R ⟨B, α, S, q, er⟩ => ?_
  refine WE.use h is tk S er fun d Λ' v B' α' H' p S' e f r => ?_
  obtain ⟨ds, hd, hn, p⟩ := p
  have key : ∃ a vs, v = .ref a ∧ SqL C.K B' a vs ∧ Reps C.K B' α' ds vs := by
    rcases hd with rfl | rfl
    · unfold Rep at r
      obtain ⟨a, vs, h1, h2, h3⟩ := r
      exact ⟨a, vs, h1, SqL.of h2, h3⟩
    · unfold Rep at r
      obtain ⟨a, vs, h1, h2, h3⟩ := r
      exact ⟨a, vs, h1, h2.l, h3⟩
  obtain ⟨a, vs, rfl, h1, h2⟩ := key
  refine ⟨a, rfl, ⟨vs, by rw [is.K]; exact S'.bh.sqL h1⟩, ?_⟩
  rw [is.K]
  exact q ds Λ' _ B' α' H' p S' e f (itl_ok' h1 (Reps.nl ds vs hn h2))
/-- lo, lo + 1, .. n of them -/
def rangeD (lo : Int) (n : Nat) : List D := (List.range n).map fun i => .int (lo + (i : Nat))
theorem itr_ok {K : PySem.W.Frag} {B : Hp} {lo : Int} {n : Nat} : ItsOk K B (Itr lo n) (rangeD lo n) where
  go := fun i H hi _ => by show i < n; unfold rangeD at hi; simpa using hi
  stop := fun H _ => by show n ≤ _; unfold rangeD; simp
  yld := fun i H x H' d hd _ y => by
    obtain ⟨rfl, rfl⟩ := y
    unfold rangeD at hd
    rw [List.getElem?_map] at hd
    have hi : i < n := by
      by_cases z : i < n
      · exact z
      · rw [List.getElem?_eq_none (by simpa using z)] at hd; cases hd
    rw [List.getElem?_range hi] at hd
    cases hd
    exact .inl ⟨rfl, by unfold Rep; rfl⟩
theorem wi_range1 {a : Expr} (hj : GlAt C "range") (hm : C.mg "range" = none) (h : WE C E Γ Λ a fun d Λ' => ∃ n : Int, d = .int n ∧ -(2 ^ 62) ≤ n ∧ n < 2 ^ 62 ∧ P (rangeD 0 n.toNat) Λ') (ha : plainE a = true := by rfl) : WI C E Γ Λ tg (.Call (.Name "range" p) [a] [] pos) P := fun X F W is tk => by
  refine pi_imp (pi_range1 (is.gl hj) (by rw [is.mg]; exact hm) (pa_cons pe_U pa_nil (star_plain ha)) (star_plain ha)) fun σ H R ⟨B, α, S, q, er⟩ => ?_
  refine WE.use h is tk S er fun d Λ' v B' α' H' p S' e f r => ?_
  obtain ⟨n, rfl, h1, h2, p⟩ := p
  unfold Rep at r
  subst r
  exact ⟨n, rfl, h1, h2, q _ Λ' _ B' α' H' p S' e f itr_ok⟩
end

/-! ### for -/
section
variable {C : Ctx} {Γ : Env} {Λ : Cells} {R : Rs} {pos : Pos}
/-- what a loop's body has to do at each item that is left -/
def LoopP (C : Ctx) (tg : Expr) (vs : List Nat) (body : List Stmt) (R : Rs) : List D → Env → Cells → Prop
  | [], Γ, Λ => R.nx Γ Λ
  | d :: ds, Γ, Λ => WG C Γ Λ tg d vs fun Γ' => WSs C Γ' Λ body { R with nx := LoopP C tg vs body R ds, ct := LoopP C tg vs body R ds, bk := R.nx }
theorem ws_for [Cool C] {tg iter : Expr} {body : List Stmt} (vs : List Nat) (h : WI C R.er Γ Λ tg iter fun ds Λ' => LoopP C tg vs body R ds Γ Λ') (hs : ∀ (env : PySem.Env) x, foldedSetIterable iter env x = pure x := by intro _ _; rfl) : WS C Γ Λ (.For tg iter body [] pos) R := fun X F W is hm tk => by
  refine ps_imp (ps_for is.po is.calm pi_U pg_U pss_U (hs X.env)) fun Dn σ H ⟨B, α, S, q⟩ => ?_
  refine ⟨_, h X F W is tk, B, α, S, fun ds Λ' J B' α' H' p S' e f it => ?_, q.er.at⟩
  refine ⟨fun i m σ1 H1 => m = ds.length - i ∧ i ≤ ds.length ∧ ∃ B1 α1 Γ1 Λ1, Sat C.K F B1 α1 Γ1 Λ1 σ1 H1 ∧ Ex B' B1 ∧ LoopP C tg vs body R (ds.drop i) Γ1 Λ1, ⟨_, rfl, Nat.zero_le _, B', α', Γ, Λ', S', Ex.refl _, p⟩, ?_⟩
  rintro i m σ1 H1 ⟨rfl, hi, B1, α1, Γ1, Λ1, S1, e1, lp⟩
  by_cases hlt : i < ds.length
  · refine .inr ⟨it.go i H1 hlt (e1.trans S1.bh), fun σ2 H2 => i + 1 ≤ ds.length ∧ ∃ B2 α2 Γ2 Λ2, Sat C.K F B2 α2 Γ2 Λ2 σ2 H2 ∧ Ex B' B2 ∧ LoopP C tg vs body R (ds.drop (i + 1)) Γ2 Λ2, fun σ2 H2 ⟨h1, h2⟩ => ⟨ds.length - (i + 1), by omega, rfl, h1, h2⟩, fun x H2 y => ?_⟩
    obtain ⟨B2, S2, e2, r2⟩ := it.take S1 e1 (List.getElem?_eq_getElem hlt) y
    rw [List.drop_eq_getElem_cons hlt] at lp
    refine ⟨_, lp X F is, B2, α1, S2, r2, fun Γ3 σ3 p3 S3 ag => ?_⟩
    refine WSs.use p3 is hm tk S3 ⟨fun Γ' Λ' B4 α4 σ4 H4 hr S4 e4 => ?_, (q.rt.mono e).mono (e1.trans e2), fun Γ' Λ' B4 α4 σ4 H4 hr S4 e4 => q.nx Γ' Λ' B4 α4 σ4 H4 hr S4 (((e.trans e1).trans e2).trans e4), fun Γ' Λ' B4 α4 σ4 H4 hr S4 e4 => ?_, (q.er.mono e).mono (e1.trans e2)⟩
    · exact ⟨hlt, B4, α4, Γ', Λ', S4, (e1.trans e2).trans e4, hr⟩
    · exact ⟨hlt, B4, α4, Γ', Λ', S4, (e1.trans e2).trans e4, hr⟩
  · have e' : i = ds.length := by omega
    subst e'
    rw [List.drop_length] at lp
    exact .inl ⟨it.stop H1 (e1.trans S1.bh), q.nx Γ1 Λ1 B1 α1 σ1 H1 lp S1 (e.trans e1)⟩
/-- while, by a word that falls -/
theorem ws_while {c : Expr} {body : List Stmt} (V : Nat → Env → Cells → Prop) (h0 : ∃ m, V m Γ Λ)
    (hs : ∀ m Γ Λ, V m Γ Λ → WT C R.er Γ Λ c fun b Λ' => if b = true then WSs C Γ Λ' body { R with nx := fun Γ' Λ'' => ∃ m', m' < m ∧ V m' Γ' Λ'', ct := fun Γ' Λ'' => ∃ m', m' < m ∧ V m' Γ' Λ'', bk := R.nx } else R.nx Γ Λ') : WS C Γ Λ (.While c body [] pos) R := fun X F W is hm tk => by
  refine ps_imp (ps_while is.po pt_U pss_U) fun Dn σ H ⟨B, α, S, q⟩ => ?_
  obtain ⟨m0, h0⟩ := h0
  refine ⟨fun m σ1 H1 => ∃ B1 α1 Γ1 Λ1, Sat C.K F B1 α1 Γ1 Λ1 σ1 H1 ∧ Ex B B1 ∧ V m Γ1 Λ1, ⟨m0, B, α, Γ, Λ, S, Ex.refl _, h0⟩, ?_⟩
  rintro m σ1 H1 ⟨B1, α1, Γ1, Λ1, S1, e1, v1⟩
  refine WT.use (hs m Γ1 Λ1 v1) is tk S1 (q.er.mono e1).at fun b Λ2 B2 α2 H2 p2 S2 e2 f2 => ?_
  cases b with
  | true =>
    rw [if_pos rfl] at p2 ⊢
    refine ⟨fun σ3 H3 => ∃ m', m' < m ∧ ∃ B3 α3 Γ3 Λ3, Sat C.K F B3 α3 Γ3 Λ3 σ3 H3 ∧ Ex B B3 ∧ V m' Γ3 Λ3, fun σ3 H3 h => h, ?_⟩
    refine WSs.use p2 is hm tk S2 ⟨fun Γ' Λ' B4 α4 σ4 H4 hr S4 e4 => ?_, q.rt.mono (e1.trans e2), fun Γ' Λ' B4 α4 σ4 H4 hr S4 e4 => q.nx Γ' Λ' B4 α4 σ4 H4 hr S4 ((e1.trans e2).trans e4), fun Γ' Λ' B4 α4 σ4 H4 hr S4 e4 => ?_, q.er.mono (e1.trans e2)⟩
    · obtain ⟨m', h1, h2⟩ := hr
      exact ⟨m', h1, B4, α4, Γ', Λ', S4, (e1.trans e2).trans e4, h2⟩
    · obtain ⟨m', h1, h2⟩ := hr
      exact ⟨m', h1, B4, α4, Γ', Λ', S4, (e1.trans e2).trans e4, h2⟩
  | false =>
    rw [if_neg (by simp)] at p2 ⊢
    exact q.nx Γ1 Λ2 B2 α2 σ1 H2 p2 S2 (e1.trans e2)
end

/-! ### list comprehensions -/
def wipeΓ (Γ : Env) : List Nat → Env
  | [] => Γ
  | v :: vs => (wipeΓ Γ vs).set v none
theorem wipeΓ_len (Γ : Env) : ∀ vs : List Nat, (wipeΓ Γ vs).length = Γ.length
  | [] => rfl
  | v :: vs => by unfold wipeΓ; rw [List.length_set, wipeΓ_len Γ vs]
theorem wipeΓ_some {Γ : Env} {i : Nat} {x : D} : ∀ {vs : List Nat}, (wipeΓ Γ vs)[i]? = some (some x) → Γ[i]? = some (some x) ∧ i ∉ vs
  | [], h => ⟨h, by simp⟩
  | v :: vs, h => by
    unfold wipeΓ at h
    by_cases hi : v = i
    · subst hi
      by_cases hv : v < (wipeΓ Γ vs).length
      · rw [List.getElem?_set_self hv] at h; cases h
      · rw [List.getElem?_eq_none (by simpa using hv)] at h; cases h
    · rw [List.getElem?_set_ne hi] at h
      obtain ⟨h1, h2⟩ := wipeΓ_some h
      exact ⟨h1, by simp only [List.mem_cons, not_or]; exact ⟨fun e => hi e.symm, h2⟩⟩
theorem wipe_at {σ : L2.St} {i : Nat} : ∀ {vs : List Nat}, i ∉ vs → (wipe σ vs)[i]? = σ[i]?
  | [], _ => rfl
  | v :: vs, h => by
    unfold wipe
    simp only [List.mem_cons, not_or] at h
    rw [List.getElem?_set_ne (fun e => h.1 e.symm), wipe_at h.2]
theorem wipe_in {σ : L2.St} {i : Nat} : ∀ {vs : List Nat}, i ∈ vs → i < σ.length → (wipe σ vs)[i]? = some none
  | v :: vs, h, hl => by
    unfold wipe
    by_cases e : v = i
    · subst e; rw [List.getElem?_set_self (by rw [wipe_length]; exact hl)]
    · rw [List.getElem?_set_ne e]
      rcases List.mem_cons.mp h with q | q
      · exact absurd q.symm e
      · exact wipe_in q hl
theorem wipe_agree {σ σ' : L2.St} {vs ws : List Nat} (hs : ∀ v ∈ ws, v ∈ vs) (h : Agree ws (wipe σ vs) σ') : wipe σ' vs = wipe σ vs := by
  apply List.ext_getElem?
  intro i
  have hl : σ'.length = σ.length := by rw [h.1, wipe_length]
  by_cases hi : i ∈ vs
  · by_cases hlt : i < σ.length
    · rw [wipe_in hi hlt, wipe_in hi (by omega)]
    · rw [List.getElem?_eq_none (by rw [wipe_length]; omega), List.getElem?_eq_none (by rw [wipe_length]; omega)]
  · rw [wipe_at hi, h.2 i (fun z => hi (hs i z)), wipe_at hi]
theorem Sat.wipe {K : PySem.W.Frag} {F : Fm} {B : Hp} {α : List Addr} {Γ : Env} {Λ : Cells} {σ : L2.St} {H : Hp} (S : Sat K F B α Γ Λ σ H) (vs : List Nat) : Sat K F B α (wipeΓ Γ vs) Λ (wipe σ vs) H :=
  S.env (by rw [wipeΓ_len, wipe_length, S.ln]) fun i d h => by
    obtain ⟨h1, h2⟩ := wipeΓ_some h
    obtain ⟨v, q1, q2⟩ := S.sl i d h1
    exact ⟨v, by rw [wipe_at h2]; exact q1, q2⟩

/-- the context of a comprehension's block -/
@[reducible] def Ctx.blk (C : Ctx) (scope : Scope) (vs ls : List Bool) (gl : List Str) : Ctx := { C with sc := relS scope C.sc, vs := vs, ls := ls, gl := gl, tp := false, cd := none }
instance {C : Ctx} {scope : Scope} {vs ls : List Bool} {gl : List Str} [c : Cool C] : Cool (C.blk scope vs ls gl) := ⟨c.h⟩
/-- what a comprehension has to do at each item that is left; acc: what is made so far -/
def CompP (C : Ctx) (Γ : Env) (Λ : Cells) (tg : Expr) (ws : List Nat) (ifs : List Expr) (elt : Expr) (P : List D → Prop) : List D → List D → Prop
  | [], acc => P acc
  | d :: ds, acc => acc.length < 10000000 ∧ WG C Γ Λ tg d ws fun Γ' => match ifs with
    | [] => WE C ER.none Γ' Λ elt fun y Λ' => Λ' = Λ ∧ CompP C Γ Λ tg ws ifs elt P ds (acc ++ [y])
    | [c] => WT C ER.none Γ' Λ c fun b Λ' => Λ' = Λ ∧ if b = true then WE C ER.none Γ' Λ elt fun y Λ' => Λ' = Λ ∧ CompP C Γ Λ tg ws ifs elt P ds (acc ++ [y]) else CompP C Γ Λ tg ws ifs elt P ds acc
    | _ => False
/-- a thing of the heap that nobody tells is written -/
theorem Sat.poke {K : PySem.W.Frag} {F : Fm} {B : Hp} {α : List Addr} {Γ : Env} {Λ : Cells} {σ : L2.St} {H : Hp} {p : Addr} {o : HO} (S : Sat K F B α Γ Λ σ H) (hB : B p = none) (h0 : F.H0 p = none) (hα : p ∉ α) (hC : Celly (H p)) : Sat K F B α Γ Λ σ (upd H p o) := by
  refine { S with bh := S.bh.mut hB, tb := S.tb.put hC fun z => absurd z hα, kp := fun a u h ha n => ?_, dm := fun a h => ?_, ce := fun n c h hg => ?_, ah := fun a ha => ?_ }
  · rw [upd_ne (fun e => by subst e; rw [h0] at h; cases h)]; exact S.kp a u h ha n
  · by_cases e : a = p
    · subst e; exact h0
    · rw [upd_ne e] at h; exact S.dm a h
  · obtain ⟨a, h1, h2, h3, h4⟩ := S.ce n c h hg
    have hap : a ≠ p := fun e => hα (e ▸ List.mem_of_getElem? h1)
    exact ⟨a, h1, h2, h3, h4.mono (Ex.refl B) (List.prefix_refl _) fun u q _ => by rw [upd_ne hap]; exact q⟩
  · have hap : a ≠ p := fun e => hα (e ▸ ha)
    rw [upd_ne hap]; exact S.ah a ha
theorem pre_len {α α' : List Addr} (h : α <+: α') (e : α'.length = α.length) : α' = α := by
  obtain ⟨t, rfl⟩ := h
  have : t = [] := by
    rw [List.length_append] at e
    exact List.length_eq_zero_iff.mp (by omega)
  rw [this, List.append_nil]
section
variable {C : Ctx} {E : ER} {Γ : Env} {Λ : Cells}
theorem blk_is {X : Cx} {scope : Scope} {vs ls : List Bool} {gl : List Str} (is : C.Is X) (good : (C.blk scope vs ls gl).Good) (hst : ∀ (i : Nat) (x : Str), C.N[i]? = some x → ls[i]? = some true → scope.names.lookup x = some .local ∨ scope.names.lookup x = some .cell)
    (s : Shared) (H : Hp) (c : Addr) (cl : List (Str × Addr)) (fp : List Addr) : (C.blk scope vs ls gl).Is (X.blk s H scope (compEnvC scope cl c X.env) fp) where
  prog := is.prog
  w := is.w
  K := is.K
  mg := is.mg
  base := is.base
  N := is.N
  sc := by
    show relS scope X.env.scope = relS scope C.sc
    rw [is.sc]
  calmW := is.calmW
  hdW := is.hdW
  tp := fun h => Bool.noConfusion (h : false = true)
  cdv := fun q c h => nomatch h
  roomW := is.roomW
  fn := fun i x hi hl => by
    rcases hst i x hi hl with h | h
    · exact .inr (lookup_relS_keep (by simp) h)
    · refine .inl ?_
      show (scope.names.lookup x == some .cell) = true
      rw [h]; rfl
  good := good
  po := PassesOwn.never
def UEb (X : Cx) (scope : Scope) (e : Expr) : TE := fun σ H Q => ∃ t, (∀ s H c cl fp, PE (X.blk s H scope (compEnvC scope cl c X.env) fp) e t) ∧ t σ H Q
def UGb (X : Cx) (scope : Scope) (e : Expr) : TG := fun v σ H Q => ∃ t, (∀ s H c cl fp, PG (X.blk s H scope (compEnvC scope cl c X.env) fp) e t) ∧ t v σ H Q
def UTb (X : Cx) (scope : Scope) (e : List Expr) : TT := fun σ H Q => ∃ t, (∀ s H c cl fp, PTs (X.blk s H scope (compEnvC scope cl c X.env) fp) e t) ∧ t σ H Q
theorem pgb {X : Cx} {scope : Scope} {e : Expr} (s : Shared) (H : Hp) (c : Addr) (cl : List (Str × Addr)) (fp : List Addr) : PG (X.blk s H scope (compEnvC scope cl c X.env) fp) e (UGb X scope e) := ⟨fun pins s' σ' H' v u Q I r ⟨t, ht, q⟩ => (ht s H c cl fp).run pins s' σ' H' v u Q I r q⟩
theorem ptb {X : Cx} {scope : Scope} {e : List Expr} (s : Shared) (H : Hp) (c : Addr) (cl : List (Str × Addr)) (fp : List Addr) : PTs (X.blk s H scope (compEnvC scope cl c X.env) fp) e (UTb X scope e) := ⟨fun pins s' σ' H' Q I ⟨t, ht, q⟩ => (ht s H c cl fp).run pins s' σ' H' Q I q⟩
theorem peb {X : Cx} {scope : Scope} {e : Expr} (s : Shared) (H : Hp) (c : Addr) (cl : List (Str × Addr)) (fp : List Addr) : PE (X.blk s H scope (compEnvC scope cl c X.env) fp) e (UEb X scope e) := ⟨fun pins s' σ' H' Q I ⟨t, ht, q⟩ => (ht s H c cl fp).run pins s' σ' H' Q I q⟩
/-- [elt for tg in iter if ..] -/
theorem lc_core' {X : Cx} {F : Fm} {W : WX} {Q : VK} {σ : L2.St} {H : Hp} {elt tg iter : Expr} {ifs : List Expr} {scope : Scope} {own : List (Str × Nat)} {vs ls : List Bool} {gl : List Str} {ws : List Nat} {P : List D → Cells → Prop} {B : Hp} {α : List Addr}
    (good : (C.blk scope vs ls gl).Good) (hst : ∀ (i : Nat) (x : Str), C.N[i]? = some x → ls[i]? = some true → scope.names.lookup x = some .local ∨ scope.names.lookup x = some .cell) (hws : ∀ v ∈ ws, v ∈ own.map (·.2))
    (is : C.Is X) (tk : Takes X W) (S : Sat C.K F B α Γ Λ σ H) (er : ErOk C.K F W B σ Γ E)
    (h : WI C E Γ Λ tg iter fun ds Λ' => CompP (C.blk scope vs ls gl) (wipeΓ Γ (own.map (·.2))) Λ' tg ws ifs elt (fun ys => P ys Λ') ds [])
    (q : ∀ ds Λ' p vs B' α' H', P ds Λ' → Sat C.K F B' α' Γ Λ' σ H' → Ex B B' → α <+: α' → H' p = some (.lst vs) → B' p = none → F.H0 p = none → p ∉ α' → Reps C.K B' α' ds vs → Q (.ref p) H') :
    tLc (UI X tg iter) (UGb X scope tg) (UTb X scope ifs) (UEb X scope elt) (own.map (·.2)) σ H Q := by
  refine ⟨_, h X F W is tk, B, α, S, fun ds Λ' J B' α' H1 p S' e f it D hD => ?_, er⟩
  have h0 : F.H0 D = none := S'.dm D hD
  have hα : D ∉ α' := fun ha => (S'.ah D ha).1 hD
  have S0 := (S'.grow (Ex.new hD (o := .lst []))).wipe (own.map (·.2))
  refine ⟨fun i m H2 => m = ds.length - i ∧ i ≤ ds.length ∧ ∃ B2 acc av, Sat C.K F B2 α' (wipeΓ Γ (own.map (·.2))) Λ' (wipe σ (own.map (·.2))) H2 ∧ Ex B' B2 ∧ H2 D = some (.lst av) ∧ B2 D = none ∧ Reps C.K B2 α' acc av ∧
      CompP (C.blk scope vs ls gl) (wipeΓ Γ (own.map (·.2))) Λ' tg ws ifs elt (fun ys => P ys Λ') (ds.drop i) acc,
    ⟨_, rfl, Nat.zero_le _, B', [], [], S0, Ex.refl _, upd_same, S'.bh.back hD, .nil, p⟩, ?_⟩
  rintro i m H2 ⟨rfl, hi, B2, acc, av, S2, e2, hD2, hB2, ra, cp⟩
  by_cases hlt : i < ds.length
  · refine .inr ⟨it.go i H2 hlt (e2.trans S2.bh), fun H3 => i + 1 ≤ ds.length ∧ ∃ B3 acc av, Sat C.K F B3 α' (wipeΓ Γ (own.map (·.2))) Λ' (wipe σ (own.map (·.2))) H3 ∧ Ex B' B3 ∧ H3 D = some (.lst av) ∧ B3 D = none ∧ Reps C.K B3 α' acc av ∧
      CompP (C.blk scope vs ls gl) (wipeΓ Γ (own.map (·.2))) Λ' tg ws ifs elt (fun ys => P ys Λ') (ds.drop (i + 1)) acc, fun H3 ⟨k1, k2⟩ => ⟨ds.length - (i + 1), by omega, rfl, k1, k2⟩, fun x H3 y => ?_⟩
    have tk3 : ∃ B3, Sat C.K F B3 α' (wipeΓ Γ (own.map (·.2))) Λ' (wipe σ (own.map (·.2))) H3 ∧ Ex B2 B3 ∧ Rep C.K B3 α' ds[i] x ∧ H3 D = some (.lst av) ∧ B3 D = none := by
      rcases it.yld i H2 x H3 ds[i] (List.getElem?_eq_getElem hlt) (e2.trans S2.bh) y with ⟨rfl, r⟩ | ⟨p', o', vs', es, rfl, hp, rfl, ho, he, r⟩
      · exact ⟨B2, S2, Ex.refl _, r.mono e2 List.nil_prefix, hD2, hB2⟩
      · have hb := S2.bh.back hp
        have hne : D ≠ p' := fun z => by rw [← z, hD2] at hp; cases hp
        refine ⟨upd B2 p' o', S2.lay hp ho.nt, Ex.new hb, ?_, by rw [upd_ne hne]; exact hD2, by rw [upd_ne hne]; exact hB2⟩
        rw [he]
        unfold Rep
        exact ⟨p', vs', rfl, ho.sq upd_same, r.mono (e2.trans (Ex.new hb)) List.nil_prefix⟩
    obtain ⟨B3, S3, e3, r3, hD3, hB3⟩ := tk3
    rw [List.drop_eq_getElem_cons hlt] at cp
    obtain ⟨hl, cp⟩ := cp
    have T3 := S3.rebase
    refine ⟨_, fun s H c cl fp => cp _ ⟨H3, B3, α'⟩ (blk_is is good hst s H c cl fp), B3, α', T3, r3, fun Γ4 σ4 p4 T4 ag => ?_⟩
    refine ⟨wipe_agree hws ag, ?_⟩
    -- behind the element
    have fin : ∀ (y : Pl.D) (B5 : Hp) (α5 : List Addr) (H5 : Hp) (v : V), CompP (C.blk scope vs ls gl) (wipeΓ Γ (own.map (·.2))) Λ' tg ws ifs elt (fun ys => P ys Λ') (ds.drop (i + 1)) (acc ++ [y]) → Sat C.K ⟨H3, B3, α'⟩ B5 α5 Γ4 Λ' σ4 H5 → Ex B3 B5 → Rep C.K B5 α5 y v →
        ∃ acc', H5 D = some (.lst acc') ∧ acc'.length < sizeLine ∧ i + 1 ≤ ds.length ∧ ∃ B3 acc av, Sat C.K F B3 α' (wipeΓ Γ (own.map (·.2))) Λ' (wipe σ (own.map (·.2))) (upd H5 D (.lst (acc' ++ [v]))) ∧ Ex B' B3 ∧ (upd H5 D (.lst (acc' ++ [v]))) D = some (.lst av) ∧ B3 D = none ∧ Reps C.K B3 α' acc av ∧
          CompP (C.blk scope vs ls gl) (wipeΓ Γ (own.map (·.2))) Λ' tg ws ifs elt (fun ys => P ys Λ') (ds.drop (i + 1)) acc := fun y B5 α5 H5 v cp5 T5 e5 r5 => by
      have hα5 : α5 = α' := pre_len T5.pf (by rw [T5.al, S3.al])
      subst hα5
      have hD5 : H5 D = some (.lst av) := T5.kp D _ hD3 hα (fun _ q => nomatch q)
      have hB5 : B5 D = none := by
        cases z : B5 D with
        | none => rfl
        | some o =>
          rcases T5.fr D o z with k | k
          · have : B3 D = some o := k
            rw [hB3] at this; cases this
          · have : H3 D = none := k
            rw [hD3] at this; cases this
      have S5 := S3.unbase T5
      have S5' : Sat C.K F B5 α5 (wipeΓ Γ (own.map (·.2))) Λ' (wipe σ (own.map (·.2))) H5 := S5.env S3.ln fun j d hj => by
        obtain ⟨u, q1, q2⟩ := S3.sl j d hj
        exact ⟨u, q1, q2.mono e5 (List.prefix_refl _)⟩
      refine ⟨av, hD5, by rw [ra.length]; exact Nat.lt_of_lt_of_le hl (by rw [sizeLine_eq]; decide), hlt, B5, acc ++ [y], av ++ [v], S5'.poke hB5 h0 hα (by rw [hD5]; trivial), (e2.trans e3).trans e5, upd_same, hB5, (ra.mono (e3.trans e5) (List.prefix_refl _)).append (.one r5), cp5⟩
    cases ifs with
    | nil =>
      refine ⟨tYes, fun _ _ _ _ _ => pts_nil, ?_⟩
      dsimp only [tYes]
      rw [if_pos rfl]
      refine ⟨_, fun s H c cl fp => p4 _ ⟨H3, B3, α'⟩ _ (blk_is is good hst s H c cl fp) takes0, B3, α', T4, fun y Λ5 v B5 α5 H5 p5 T5 e5 f5 r5 => ?_, fun _ _ _ _ _ _ _ z => z.elim⟩
      obtain ⟨rfl, cp5⟩ := p5
      exact fin y B5 α5 H5 v cp5 T5 e5 r5
    | cons c r =>
      cases r with
      | nil =>
        refine ⟨_, fun s H c' cl fp => pts_one (p4 _ ⟨H3, B3, α'⟩ _ (blk_is is good hst s H c' cl fp) takes0), B3, α', T4, fun b Λ5 B5 α5 H5 p5 T5 e5 f5 => ?_, fun _ _ _ _ _ _ _ z => z.elim⟩
        obtain ⟨rfl, p5⟩ := p5
        cases b with
        | true =>
          rw [if_pos rfl] at p5 ⊢
          refine ⟨_, fun s H c cl fp => p5 _ ⟨H3, B3, α'⟩ _ (blk_is is good hst s H c cl fp) takes0, B5, α5, T5, fun y Λ6 v B6 α6 H6 p6 T6 e6 f6 r6 => ?_, fun _ _ _ _ _ _ _ z => z.elim⟩
          obtain ⟨rfl, cp6⟩ := p6
          exact fin y B6 α6 H6 v cp6 T6 (e5.trans e6) r6
        | false =>
          rw [if_neg (by simp)] at p5 ⊢
          have hα5 : α5 = α' := pre_len T5.pf (by rw [T5.al, S3.al])
          subst hα5
          have hD5 : H5 D = some (.lst av) := T5.kp D _ hD3 hα (fun _ q => nomatch q)
          have hB5 : B5 D = none := by
            cases z : B5 D with
            | none => rfl
            | some o =>
              rcases T5.fr D o z with k | k
              · have : B3 D = some o := k
                rw [hB3] at this; cases this
              · have : H3 D = none := k
                rw [hD3] at this; cases this
          have S5 := S3.unbase T5
          refine ⟨hlt, B5, acc, av, S5.env S3.ln fun j d hj => ?_, (e2.trans e3).trans e5, hD5, hB5, ra.mono (e3.trans e5) (List.prefix_refl _), p5⟩
          obtain ⟨u, q1, q2⟩ := S3.sl j d hj
          exact ⟨u, q1, q2.mono e5 (List.prefix_refl _)⟩
      | cons _ _ => exact p4.elim
  · have e' : i = ds.length := by omega
    subst e'
    rw [List.drop_length] at cp
    refine .inl ⟨it.stop H2 (e2.trans S2.bh), ?_⟩
    exact q acc Λ' D av B2 α' H2 cp (S2.env S'.ln fun j d hj => by
      obtain ⟨u, q1, q2⟩ := S'.sl j d hj
      exact ⟨u, q1, q2.mono e2 (List.prefix_refl _)⟩) (e.trans e2) f hD2 hB2 h0 hα ra
theorem wn_lc [Cool C] {elt tg iter : Expr} {ifs : List Expr} {scope : Scope} {pos : Pos} {P : List D → Cells → Prop} (own : List (Str × Nat)) (vs ls : List Bool) (gl : List Str) (ws : List Nat)
    (ok : BlkOk C.N C.sc scope own) (good : (C.blk scope vs ls gl).Good) (hst : ∀ (i : Nat) (x : Str), C.N[i]? = some x → ls[i]? = some true → scope.names.lookup x = some .local ∨ scope.names.lookup x = some .cell) (hws : ∀ v ∈ ws, v ∈ own.map (·.2))
    (h : WI C E Γ Λ tg iter fun ds Λ' => CompP (C.blk scope vs ls gl) (wipeΓ Γ (own.map (·.2))) Λ' tg ws ifs elt (fun ys => P ys Λ') ds [])
    (hs : ∀ (env : PySem.Env) x, foldedSetIterable iter env x = pure x := by intro _ _; rfl) : WN C E Γ Λ (.ListComp elt [⟨tg, iter, ifs, 0⟩] scope pos) P := fun X F W is tk =>
  pe_imp (pe_lc (own := own) is.calm is.nd pi_U (by rw [is.N, is.sc]; exact ok) pgb ptb peb (hs X.env))
    fun σ H Q ⟨B, α, S, q, er⟩ => lc_core' good hst hws is tk S er h q
/-- y = [elt for ..], y a local, on one line -/
theorem ws_setlc [Cool C] {R : Rs} {i : Nat} {y : Str} {py : Pos} {elt tg iter : Expr} {ifs : List Expr} {scope : Scope} {pos spos : Pos} (own : List (Str × Nat)) (vs ls : List Bool) (gl : List Str) (ws : List Nat)
    (hi : C.N[i]? = some y) (hy : C.sc.names.lookup y = some .local) (hk : C.sc.kind = .function) (hline : (py.line == pos.line) = true) (hown : (scope.names.any fun (n, k) => n == y && (k == .local || k == .cell)) = false)
    (ok : BlkOk C.N C.sc scope own) (good : (C.blk scope vs ls gl).Good) (hst : ∀ (i : Nat) (x : Str), C.N[i]? = some x → ls[i]? = some true → scope.names.lookup x = some .local ∨ scope.names.lookup x = some .cell) (hws : ∀ v ∈ ws, v ∈ own.map (·.2))
    (h : WI C R.er Γ Λ tg iter fun ds Λ' => CompP (C.blk scope vs ls gl) (wipeΓ Γ (own.map (·.2))) Λ' tg ws ifs elt (fun ys => R.nx (Γ.set i (some (.lst ys))) Λ') ds [])
    (hs : ∀ (env : PySem.Env) x, foldedSetIterable iter env x = pure x := by intro _ _; rfl) : WS C Γ Λ (.Assign [.Name y py] (.ListComp elt [⟨tg, iter, ifs, 0⟩] scope pos) spos) R := fun X F W is hm tk =>
  ps_imp (ps_setLc (own := own) is.calm is.nd (is.ni hi) (by rw [is.sc]; exact hy) (sw_true (by rw [is.sc]; exact hk) (by rw [is.sc]; exact hy) hline hown) pi_U (by rw [is.N, is.sc]; exact ok) pgb ptb peb (hs X.env))
    fun Dn σ H ⟨B, α, S, q⟩ => by
      refine lc_core' (P := fun ys Λ' => R.nx (Γ.set i (some (.lst ys))) Λ') good hst hws is tk S q.er.at h fun ds Λ' p vs B' α' H' hp S' e f h1 h2 h3 h4 h5 => ?_
      have hx : Ex B' (upd B' p (.lst vs)) := Ex.new h2
      refine q.nx _ Λ' (upd B' p (.lst vs)) α' _ H' hp ((S'.see h1 h2 h3 h4).set ?_) (e.trans hx)
      unfold Rep
      exact ⟨p, vs, rfl, upd_same, h5.mono hx (List.prefix_refl _)⟩
end
end Pl

namespace Pl
open PySem L2 PyProof.Rows

/-! ### calls of built-ins -/
/-- what a call by values does to data -/
def CK (K : PySem.W.Frag) (r : List V → Hp → VK → Prop) (ds : List D) (Γ : Env) (Λ : Cells) (P : D → Cells → Prop) : Prop := ∀ F B α σ H vs (Q : VK), Sat K F B α Γ Λ σ H → Reps K B α ds vs →
  (∀ d Λ' v B' α' H', P d Λ' → Sat K F B' α' Γ Λ' σ H' → Ex B B' → α <+: α' → Rep K B' α' d v → Q v H') → r vs H Q
def CKn (K : PySem.W.Frag) (r : List V → Hp → VK → Prop) (ds : List D) (Γ : Env) (Λ : Cells) (P : List D → Cells → Prop) : Prop := ∀ F B α σ H vs (Q : VK), Sat K F B α Γ Λ σ H → Reps K B α ds vs →
  (∀ ds Λ' p ws B' α' H', P ds Λ' → Sat K F B' α' Γ Λ' σ H' → Ex B B' → α <+: α' → H' p = some (.lst ws) → B' p = none → F.H0 p = none → p ∉ α' → Reps K B' α' ds ws → Q (.ref p) H') → r vs H Q
section
variable {C : Ctx} {E : ER} {Γ : Env} {Λ : Cells} {P : D → Cells → Prop} {pos p : Pos} {e : Expr} {es : List Expr} {x : Str} {id T : String} {r : List V → Hp → VK → Prop}
theorem we_callB (hc : ∀ X, C.Is X → CallR X (.builtin id) r) (hj : GlAt C x) (hm : C.mg x = none) (hv : bootBuiltins x = some (.builtin id)) (h : WA C E Γ Λ (e :: es) fun ds Λ1 => CK C.K r ds Γ Λ1 P)
    (hn : x ≠ "__name__" := by decide) (hdb : (x == ("__debug__" : Str)) = false := by decide) (he : plainE e = true := by rfl) (hes : es.all plainE = true := by rfl) : WE C E Γ Λ (.Call (.Name x p) (e :: es) [] pos) P := fun X F W is tk => by
  refine pe_imp (pe_callB (hc X is) (is.gl hj) (by rw [is.mg]; exact hm) hv pa_U hn hdb (star_plain he) (back_plain hes)) fun σ H Q ⟨B, α, S, q, er⟩ => ?_
  refine WA.use h is tk S er fun ds Λ1 vs B1 α1 H1 p1 S1 e1 f1 r1 => ?_
  exact p1 F B1 α1 σ H1 vs Q S1 r1 fun d Λ' v B' α' H' p' S' e' f' r' => q d Λ' v B' α' H' p' S' (e1.trans e') (f1.trans f') r'
theorem we_callTy (hc : ∀ X, C.Is X → CallR X (.type T) r) (hj : GlAt C x) (hm : C.mg x = none) (hv : bootBuiltins x = some (.type T)) (h : WA C E Γ Λ (e :: es) fun ds Λ1 => CK C.K r ds Γ Λ1 P)
    (hn : x ≠ "__name__" := by decide) (hdb : (x == ("__debug__" : Str)) = false := by decide) (he : plainE e = true := by rfl) (hes : es.all plainE = true := by rfl) : WE C E Γ Λ (.Call (.Name x p) (e :: es) [] pos) P := fun X F W is tk => by
  refine pe_imp (pe_callTy (hc X is) (is.gl hj) (by rw [is.mg]; exact hm) hv pa_U hn hdb (star_plain he) (back_plain hes)) fun σ H Q ⟨B, α, S, q, er⟩ => ?_
  refine WA.use h is tk S er fun ds Λ1 vs B1 α1 H1 p1 S1 e1 f1 r1 => ?_
  exact p1 F B1 α1 σ H1 vs Q S1 r1 fun d Λ' v B' α' H' p' S' e' f' r' => q d Λ' v B' α' H' p' S' (e1.trans e') (f1.trans f') r'
theorem wn_callB {P : List D → Cells → Prop} (hc : ∀ X, C.Is X → CallR X (.builtin id) r) (hj : GlAt C x) (hm : C.mg x = none) (hv : bootBuiltins x = some (.builtin id)) (h : WA C E Γ Λ (e :: es) fun ds Λ1 => CKn C.K r ds Γ Λ1 P)
    (hn : x ≠ "__name__" := by decide) (hdb : (x == ("__debug__" : Str)) = false := by decide) (he : plainE e = true := by rfl) (hes : es.all plainE = true := by rfl) : WN C E Γ Λ (.Call (.Name x p) (e :: es) [] pos) P := fun X F W is tk => by
  refine pe_imp (pe_callB (hc X is) (is.gl hj) (by rw [is.mg]; exact hm) hv pa_U hn hdb (star_plain he) (back_plain hes)) fun σ H Q ⟨B, α, S, q, er⟩ => ?_
  refine WA.use h is tk S er fun ds Λ1 vs B1 α1 H1 p1 S1 e1 f1 r1 => ?_
  exact p1 F B1 α1 σ H1 vs Q S1 r1 fun ds Λ' p ws B' α' H' p' S' e' f' => q ds Λ' p ws B' α' H' p' S' (e1.trans e') (f1.trans f')
theorem wn_callTy {P : List D → Cells → Prop} (hc : ∀ X, C.Is X → CallR X (.type T) r) (hj : GlAt C x) (hm : C.mg x = none) (hv : bootBuiltins x = some (.type T)) (h : WA C E Γ Λ (e :: es) fun ds Λ1 => CKn C.K r ds Γ Λ1 P)
    (hn : x ≠ "__name__" := by decide) (hdb : (x == ("__debug__" : Str)) = false := by decide) (he : plainE e = true := by rfl) (hes : es.all plainE = true := by rfl) : WN C E Γ Λ (.Call (.Name x p) (e :: es) [] pos) P := fun X F W is tk => by
  refine pe_imp (pe_callTy (hc X is) (is.gl hj) (by rw [is.mg]; exact hm) hv pa_U hn hdb (star_plain he) (back_plain hes)) fun σ H Q ⟨B, α, S, q, er⟩ => ?_
  refine WA.use h is tk S er fun ds Λ1 vs B1 α1 H1 p1 S1 e1 f1 r1 => ?_
  exact p1 F B1 α1 σ H1 vs Q S1 r1 fun ds Λ' p ws B' α' H' p' S' e' f' => q ds Λ' p ws B' α' H' p' S' (e1.trans e') (f1.trans f')
/-- .. to a value, the heap as it is -/
theorem ck_val {K : PySem.W.Frag} {ds : List D} {z : D} (p : P z Λ) (h : ∀ F B α σ H vs (Q : VK), Sat K F B α Γ Λ σ H → Reps K B α ds vs → (∀ v, Rep K B α z v → Q v H) → r vs H Q) : CK K r ds Γ Λ P :=
  fun F B α σ H vs Q S rs q => h F B α σ H vs Q S rs fun v rv => q z Λ v B α H p S (Ex.refl B) (List.prefix_refl _) rv
theorem reps1 {K : PySem.W.Frag} {B : Hp} {α : List Addr} {d : D} {vs : List V} (h : Reps K B α [d] vs) : ∃ v, vs = [v] ∧ Rep K B α d v := by
  unfold Reps Reps at h
  obtain ⟨v, r, rfl, h1, rfl⟩ := h
  exact ⟨v, rfl, h1⟩
theorem reps2 {K : PySem.W.Frag} {B : Hp} {α : List Addr} {d e : D} {vs : List V} (h : Reps K B α [d, e] vs) : ∃ v w, vs = [v, w] ∧ Rep K B α d v ∧ Rep K B α e w := by
  unfold Reps at h
  obtain ⟨v, r, rfl, h1, h2⟩ := h
  obtain ⟨w, rfl, h3⟩ := reps1 h2
  exact ⟨v, w, rfl, h1, h3⟩

/-! #### len -/
def lenP (Λ : Cells) (x : D) (P : Int → Prop) : Prop := match x with
  | .str s => s.length ≤ sizeLine ∧ P s.length
  | x => ∃ ds, seqD Λ x = some ds ∧ P ds.length
theorem len_K {K : PySem.W.Frag} {ds : List D} (h : ∃ x, ds = [x] ∧ lenP Λ x fun n => P (.int n) Λ) : CK K (fun xs H Q => (∃ p ys, xs = [.ref p] ∧ (SqL K H p ys ∨ SqT K H p ys) ∧ Q (.int ys.length) H) ∨ (∃ z, xs = [.str z] ∧ z.length ≤ sizeLine ∧ Q (.int z.length) H)) ds Γ Λ P := by
  intro F B α σ H vs Q S rs q
  obtain ⟨x, rfl, h⟩ := h
  obtain ⟨v, rfl, rv⟩ := reps1 rs
  have keep : ∀ {i : Int}, P (.int i) Λ → Q (.int i) H := fun {i} p => q _ Λ _ B α H p S (Ex.refl B) (List.prefix_refl _) (by unfold Rep; rfl)
  unfold lenP at h
  split at h
  · rename_i s
    unfold Rep at rv
    subst rv
    exact .inr ⟨s, rfl, h.1, keep h.2⟩
  · obtain ⟨ds, hs, p⟩ := h
    obtain ⟨a, vs, rfl, h1, h2⟩ := S.seq rv hs
    refine .inl ⟨a, vs, rfl, h1, ?_⟩
    rw [h2.length]
    exact keep p
theorem crK {X : Cx} {f : Value} (r : PySem.W.Frag → List V → Hp → VK → Prop) (is : C.Is X) (h : CallR X f (r X.K)) : CallR X f (r C.K) := by rw [← is.K]; exact h
theorem we_len (hj : GlAt C "len") (hm : C.mg "len" = none) (h : WE C E Γ Λ e fun x Λ1 => lenP Λ1 x fun n => P (.int n) Λ1) (he : plainE e = true := by rfl) : WE C E Γ Λ (.Call (.Name "len" p) [e] [] pos) P :=
  we_callB (r := fun xs H Q => (∃ p ys, xs = [.ref p] ∧ (SqL C.K H p ys ∨ SqT C.K H p ys) ∧ Q (.int ys.length) H) ∨ (∃ z, xs = [.str z] ∧ z.length ≤ sizeLine ∧ Q (.int z.length) H))
    (fun X is => crK (fun K xs H Q => (∃ p ys, xs = [.ref p] ∧ (SqL K H p ys ∨ SqT K H p ys) ∧ Q (.int ys.length) H) ∨ (∃ z, xs = [.str z] ∧ z.length ≤ sizeLine ∧ Q (.int z.length) H)) is (call_len_seq.or call_len_str)) hj hm PySem.boot_len
    (wa_cons (we_mono h fun x Λ1 q => wa_nil (len_K ⟨x, rfl, q⟩)) he) (he := he)

/-! #### list(x), tuple(x) -/
theorem boot_list' : bootBuiltins "list" = some (.type "list") := by decide +kernel
theorem boot_tuple' : bootBuiltins "tuple" = some (.type "tuple") := by decide +kernel
theorem boot_int' : bootBuiltins "int" = some (.type "int") := by decide +kernel
theorem boot_all' : bootBuiltins "all" = some (.builtin "all") := by decide +kernel
theorem boot_isi' : bootBuiltins "isinstance" = some (.builtin "isinstance") := by decide +kernel
theorem list_K {K : PySem.W.Frag} {ds : List D} {P : List D → Cells → Prop} (h : ∃ x zs, ds = [x] ∧ seqD Λ x = some zs ∧ P zs Λ) : CKn K (fun xs H Q => ∃ p ys, xs = [.ref p] ∧ (SqL K H p ys ∨ SqT K H p ys) ∧ ∀ l, H l = none → Q (.ref l) (upd H l (.lst ys))) ds Γ Λ P := by
  intro F B α σ H vs Q S rs q
  obtain ⟨x, zs, rfl, hz, p⟩ := h
  obtain ⟨v, rfl, rv⟩ := reps1 rs
  obtain ⟨a, ws, rfl, h1, h2⟩ := S.seq rv hz
  refine ⟨a, ws, rfl, h1, fun l hl => ?_⟩
  exact q zs Λ l ws B α _ p (S.grow (Ex.new hl)) (Ex.refl B) (List.prefix_refl _) upd_same (S.bh.back hl) (S.dm l hl) (fun ha => (S.ah l ha).1 hl) h2
theorem wn_list {P : List D → Cells → Prop} (hj : GlAt C "list") (hm : C.mg "list" = none) (h : WE C E Γ Λ e fun x Λ1 => ∃ zs, seqD Λ1 x = some zs ∧ P zs Λ1) (he : plainE e = true := by rfl) : WN C E Γ Λ (.Call (.Name "list" p) [e] [] pos) P :=
  wn_callTy (fun X is => crK (fun K xs H Q => ∃ p ys, xs = [.ref p] ∧ (SqL K H p ys ∨ SqT K H p ys) ∧ ∀ l, H l = none → Q (.ref l) (upd H l (.lst ys))) is call_list_of) hj hm boot_list'
    (wa_cons (we_mono h fun x Λ1 ⟨zs, h1, h2⟩ => wa_nil (list_K ⟨x, zs, rfl, h1, h2⟩)) he) (he := he)
/-! #### sum, max, min, all, any -/
theorem reps_bl {K : PySem.W.Frag} {B : Hp} {α : List Addr} : ∀ {ns : List Bool} {vs : List V}, Reps K B α (ns.map D.bl) vs → vs = ns.map V.bl
  | [], _, h => by unfold List.map Reps at h; exact h
  | n :: ns, _, h => by
    rw [List.map_cons] at h
    unfold Reps at h
    obtain ⟨v, r, rfl, h1, h2⟩ := h
    unfold Rep at h1
    rw [h1, reps_bl h2, List.map_cons]
theorem we_all [Cool C] (hj : GlAt C "all") (hm : C.mg "all" = none) (h : WE C E Γ Λ e fun x Λ1 => ∃ ns : List Bool, lstD Λ1 x = some (ns.map .bl) ∧ P (.bl (ns.all _root_.id)) Λ1) (he : plainE e = true := by rfl) : WE C E Γ Λ (.Call (.Name "all" p) [e] [] pos) P :=
  we_callB (fun X is => crK rAll is (cr_all is.calm)) hj hm boot_all' (wa_cons (we_mono h fun x Λ1 ⟨ns, h1, h2⟩ => wa_nil (ck_val h2 fun F B α σ H vs Q S rs q => by
    obtain ⟨v, rfl, rv⟩ := reps1 rs
    obtain ⟨a, ws, rfl, g1, g2⟩ := S.seqL rv h1
    have e := reps_bl g2
    subst e
    exact ⟨a, ns, rfl, g1, q _ (by unfold Rep; rfl)⟩)) he) (he := he)
variable {e2 : Expr}
/-! #### int(x), isinstance -/
def intOf (x : D) (P : Int → Prop) : Prop := match x with
  | .int i => P i
  | .bl b => P (if b then 1 else 0)
  | _ => False
theorem we_toInt (hj : GlAt C "int") (hm : C.mg "int" = none) (h : WE C E Γ Λ e fun x Λ1 => intOf x fun i => P (.int i) Λ1) (he : plainE e = true := by rfl) : WE C E Γ Λ (.Call (.Name "int" p) [e] [] pos) P :=
  we_callTy (fun X is => call_int1) hj hm boot_int' (wa_cons (we_mono h fun x Λ1 h => wa_nil (by
    intro F B α σ H vs Q S rs q
    obtain ⟨v, rfl, rv⟩ := reps1 rs
    unfold intOf at h
    split at h
    · unfold Rep at rv
      exact .inl ⟨_, by rw [rv], q _ Λ1 _ B α H h S (Ex.refl B) (List.prefix_refl _) (by unfold Rep; rfl)⟩
    · unfold Rep at rv
      exact .inr ⟨_, by rw [rv], q _ Λ1 _ B α H h S (Ex.refl B) (List.prefix_refl _) (by unfold Rep; rfl)⟩
    · exact h.elim)) he) (he := he)
/-- a datum's type, by name -/
def tyD (Λ : Cells) (x : D) : Option String := match vw Λ x with
  | .non => some "NoneType"
  | .bl _ => some "bool"
  | .int _ => some "int"
  | .str _ => some "str"
  | .tup _ => some "tuple"
  | .lst _ => some "list"
  | .fzl _ => some "list"
  | .dic _ _ => some "dict"
  | _ => none
theorem tyx_of {K : PySem.W.Frag} {H : Hp} {F : Fm} {B : Hp} {α : List Addr} {σ : L2.St} (S : Sat K F B α Γ Λ σ H) {x : D} {v : V} {t : String} (r : Rep K B α x v) (h : tyD Λ x = some t) : TyX K H v (.type t) := by
  unfold tyD at h
  split at h
  all_goals first | (cases h; done) | skip
  all_goals rename_i hx
  · have ex := vw_noc hx (by simp) (by simp) (by simp) (by simp); subst ex; cases h; unfold Rep at r; subst r; exact .base .non
  · have ex := vw_noc hx (by simp) (by simp) (by simp) (by simp); subst ex; cases h; unfold Rep at r; subst r; exact .base (.bl _)
  · have ex := vw_noc hx (by simp) (by simp) (by simp) (by simp); subst ex; cases h; unfold Rep at r; subst r; exact .base (.int _)
  · have ex := vw_noc hx (by simp) (by simp) (by simp) (by simp); subst ex; cases h; unfold Rep at r; subst r; exact .base (.str _)
  · have ex := vw_noc hx (by simp) (by simp) (by simp) (by simp); subst ex; cases h; unfold Rep at r
    obtain ⟨a, vs, rfl, h1, _⟩ := r
    rcases S.bh.sqT h1.1 with (h2 | ⟨o, h2⟩) | ⟨o, its, n, h2, h3, _⟩
    · exact .base (.tup h2)
    · exact .fTuple h2
    · exact .kTuple h2 h3
  · cases h
    obtain ⟨a, vs, rfl, h1, _⟩ := S.lst r hx
    exact .base (.lst h1)
  · have ex := vw_noc hx (by simp) (by simp) (by simp) (by simp); subst ex; cases h; unfold Rep at r
    obtain ⟨a, vs, rfl, h1, _⟩ := r
    rcases S.bh.sqL h1.l with (h2 | ⟨o, h2⟩) | ⟨o, its, n, h2, h3, _⟩
    · exact .base (.lst h2)
    · exact .base (.frz h2)
    · exact .kList h2 h3
  · cases h
    obtain ⟨a, vs, rfl, h1, _⟩ := S.dic r hx
    rcases h1 with h2 | ⟨o, h2⟩
    · exact .base (.dK h2)
    · exact .fDict h2
def isiB (a b : String) : Option Bool :=
  if b = "int" then some (a == "int" || a == "bool") else if b = "bool" then some (a == "bool") else if b = "str" then some (a == "str") else if b = "list" then some (a == "list") else if b = "tuple" then some (a == "tuple") else none
theorem isi_ok {Λ : Cells} {x : D} {a b : String} {r : Bool} (ha : tyD Λ x = some a) (h : isiB a b = some r) : kitB a b = some r := by
  have fa : a = "NoneType" ∨ a = "bool" ∨ a = "int" ∨ a = "str" ∨ a = "tuple" ∨ a = "list" ∨ a = "dict" := by
    unfold tyD at ha
    split at ha <;> cases ha <;> simp
  unfold isiB at h
  have fb : b = "int" ∨ b = "bool" ∨ b = "str" ∨ b = "list" ∨ b = "tuple" := by
    by_cases h1 : b = "int"; · exact .inl h1
    by_cases h2 : b = "bool"; · exact .inr (.inl h2)
    by_cases h3 : b = "str"; · exact .inr (.inr (.inl h3))
    by_cases h4 : b = "list"; · exact .inr (.inr (.inr (.inl h4)))
    by_cases h5 : b = "tuple"; · exact .inr (.inr (.inr (.inr h5)))
    rw [if_neg h1, if_neg h2, if_neg h3, if_neg h4, if_neg h5] at h; cases h
  rcases fb with rfl | rfl | rfl | rfl | rfl <;> rcases fa with rfl | rfl | rfl | rfl | rfl | rfl | rfl <;> (cases h; decide +kernel)
theorem we_isi (hj : GlAt C "isinstance") (hm : C.mg "isinstance" = none) (h : WE C E Γ Λ e fun x Λ1 => WE C E Γ Λ1 e2 fun y Λ2 => ∃ t T b, y = .raw (.ty T) ∧ tyD Λ2 x = some t ∧ isiB t T = some b ∧ P (.bl b) Λ2) (he : plainE e = true := by rfl) (he2 : plainE e2 = true := by rfl) : WE C E Γ Λ (.Call (.Name "isinstance" p) [e, e2] [] pos) P :=
  we_callB (fun X is => crK rIsi is call_isi) hj hm boot_isi' (wa_cons (we_mono h fun x Λ1 h => wa_cons (we_mono h fun y Λ2 ⟨t, T, b, hy, ht, hb, h2⟩ => wa_nil (ck_val h2 fun F B α σ H vs Q S rs q => by
    subst hy
    obtain ⟨v, w, rfl, r1, r2⟩ := reps2 rs
    have r2' := r2
    unfold Rep at r2'
    exact ⟨v, w, .type t, .type T, b, rfl, by rw [r2']; exact .ty T, tyx_of S r1 ht, kit_ty (isi_ok ht hb), q _ (by unfold Rep; rfl)⟩)) he2) he) (he := he) (hes := by simp [he2])
end

/-! ### methods of lists -/
/-- no call of a bare name stands there -/
def plainO : Expr → Bool
  | .Call (.Name _ _) [] [] _ => false
  | _ => true
theorem base_plain {o : Expr} {x : Str} {env : PySem.Env} (h : plainO o = true) : attributeBase o x env (eval o env) = eval o env := by
  unfold attributeBase
  split
  · cases h
  · rfl
theorem few1 {e : Expr} {env : PySem.Env} {cpos : Pos} (h : plainE e = true) : ((backTo cpos (starEach [e] env)).all (fun x => !x.1) && (backToKw cpos (keywordEach [] env)).all (fun x => x.1.isSome)
      && decide ([e].length + ([] : List Keyword).length + (if ([] : List Keyword).isEmpty then 0 else 1) < 30)) = true := by
  rw [star_plain h]; rfl
section
variable {C : Ctx} {E : ER} {Γ : Env} {Λ : Cells} {P : D → Cells → Prop} {apos cpos : Pos} {o e : Expr}
theorem Sat.cellL {K : PySem.W.Frag} {F : Fm} {B : Hp} {α : List Addr} {σ : L2.St} {H : Hp} (S : Sat K F B α Γ Λ σ H) {n : Nat} {v : V} {ds : List D} (r : Rep K B α (.loc n) v) (h : Λ[n]? = some (.lst ds)) : ∃ a vs, v = .ref a ∧ α[n]? = some a ∧ B a = none ∧ H a = some (.lst vs) ∧ Reps K B α ds vs := by
  unfold Rep at r
  obtain ⟨a, rfl, h1⟩ := r
  obtain ⟨a', q1, q2, q3, vs, q4, q5⟩ := S.ce n _ h (by simp)
  rw [h1] at q1; cases q1
  exact ⟨a, vs, rfl, h1, q2, q4, q5⟩
/-- o.append(e) -/
theorem we_append (h : WE C E Γ Λ o fun x Λ1 => ∃ n ds0, x = .loc n ∧ Λ1[n]? = some (.lst ds0) ∧ WE C E Γ Λ1 e fun y Λ2 => ∃ ds, Λ2[n]? = some (.lst ds) ∧ ds.length < sizeLine ∧ P .non (Λ2.set n (.lst (ds ++ [y]))))
    (ho : plainO o = true := by rfl) (he : plainE e = true := by rfl) (hl : (apos.endLine == cpos.line) = true := by rfl) : WE C E Γ Λ (.Call (.Attribute o "append" apos) [e] [] cpos) P := fun X F W is tk => by
  refine pe_imp (pe_bm PySem.F.plainAttrs_list PySem.F.slot_list_append PySem.F.type_list_append mt_append pe_U (pa_cons pe_U pa_nil (star_plain he)) (base_plain ho) (few1 he) hl (star_plain he) rfl) fun σ H Q ⟨B, α, S, q, er⟩ => ?_
  refine WE.use h is tk S er fun x Λ1 vx B1 α1 H1 p1 S1 e1 f1 r1 => ?_
  obtain ⟨n, ds0, rfl, hn, p1⟩ := p1
  obtain ⟨a, vs, rfl, g1, g2, g3, g4⟩ := S1.cellL r1 hn
  refine ⟨.inl ⟨rfl, _, by exact SqL.of g3⟩, ?_⟩
  refine WE.use p1 is tk S1 (er.mono e1) fun y Λ2 vy B2 α2 H2 p2 S2 e2 f2 r2 => ?_
  obtain ⟨ds, hn2, hz, p⟩ := p2
  obtain ⟨a', vs2, ea, k1, k2, k3, k4⟩ := S2.cellL (Rep.mono e2 f2 _ _ r1) hn2
  cases ea
  refine ⟨a, vs2, vy, rfl, rfl, k3, by rw [k4.length]; exact hz, ?_⟩
  exact q _ _ _ B2 α2 _ p (S2.put k1 k2 ⟨vs2 ++ [vy], upd_same, k4.append (.one r2)⟩) (e1.trans e2) (f1.trans f2) (by unfold Rep; rfl)
/-- o.pop() -/
theorem we_pop (h : WE C E Γ Λ o fun x Λ1 => ∃ n ds d, x = .loc n ∧ Λ1[n]? = some (.lst ds) ∧ ds.getLast? = some d ∧ P d (Λ1.set n (.lst ds.dropLast)))
    (ho : plainO o = true := by rfl) (hl : (apos.endLine == cpos.line) = true := by rfl) : WE C E Γ Λ (.Call (.Attribute o "pop" apos) [] [] cpos) P := fun X F W is tk => by
  refine pe_imp (pe_bm0 PySem.F.plainAttrs_list PySem.F.slot_list_pop PySem.F.type_list_pop mt_pop pe_U (base_plain ho) hl) fun σ H Q ⟨B, α, S, q, er⟩ => ?_
  refine WE.use h is tk S er fun x Λ1 vx B1 α1 H1 p1 S1 e1 f1 r1 => ?_
  obtain ⟨n, ds, d, rfl, hn, hd, p⟩ := p1
  obtain ⟨a, vs, rfl, g1, g2, g3, g4⟩ := S1.cellL r1 hn
  rw [List.getLast?_eq_getElem?] at hd
  obtain ⟨v, hv, rv⟩ := g4.get hd
  refine ⟨.inl ⟨rfl, _, by exact SqL.of g3⟩, a, vs, v, rfl, rfl, g3, by rw [g4.length]; exact hv, ?_⟩
  refine q d _ v B1 α1 _ p (S1.put g1 g2 ⟨vs.dropLast, upd_same, ?_⟩) e1 f1 rv
  rw [List.dropLast_eq_take, List.dropLast_eq_take, g4.length]
  exact g4.take _
/-- o.extend(e), e a list that is seen -/
theorem we_extend (h : WE C E Γ Λ o fun x Λ1 => ∃ n ds0, x = .loc n ∧ Λ1[n]? = some (.lst ds0) ∧ WE C E Γ Λ1 e fun y Λ2 => ∃ ds zs, Λ2[n]? = some (.lst ds) ∧ vw Λ2 y = .lst zs ∧ ds.length + zs.length ≤ sizeLine ∧ P .non (Λ2.set n (.lst (ds ++ zs))))
    (ho : plainO o = true := by rfl) (he : plainE e = true := by rfl) (hl : (apos.endLine == cpos.line) = true := by rfl) : WE C E Γ Λ (.Call (.Attribute o "extend" apos) [e] [] cpos) P := fun X F W is tk => by
  refine pe_imp (pe_bm PySem.F.plainAttrs_list PySem.F.slot_list_extend PySem.F.type_list_extend mt_extend pe_U (pa_cons pe_U pa_nil (star_plain he)) (base_plain ho) (few1 he) hl (star_plain he) rfl) fun σ H Q ⟨B, α, S, q, er⟩ => ?_
  refine WE.use h is tk S er fun x Λ1 vx B1 α1 H1 p1 S1 e1 f1 r1 => ?_
  obtain ⟨n, ds0, rfl, hn, p1⟩ := p1
  obtain ⟨a, vs, rfl, g1, g2, g3, g4⟩ := S1.cellL r1 hn
  refine ⟨.inl ⟨rfl, _, by exact SqL.of g3⟩, ?_⟩
  refine WE.use p1 is tk S1 (er.mono e1) fun y Λ2 vy B2 α2 H2 p2 S2 e2 f2 r2 => ?_
  obtain ⟨ds, zs, hn2, hy, hz, p⟩ := p2
  obtain ⟨a', vs2, ea, k1, k2, k3, k4⟩ := S2.cellL (Rep.mono e2 f2 _ _ r1) hn2
  cases ea
  obtain ⟨b, ws, rfl, m1, m2⟩ := S2.lst r2 hy
  refine ⟨a, b, vs2, ws, rfl, rfl, k3, m1, by rw [k4.length, m2.length]; exact hz, ?_⟩
  exact q _ _ _ B2 α2 _ p (S2.put k1 k2 ⟨vs2 ++ ws, upd_same, k4.append m2⟩) (e1.trans e2) (f1.trans f2) (by unfold Rep; rfl)
end

/-! ### stores -/
section
variable {C : Ctx} {Γ : Env} {Λ : Cells} {R : Rs} {pos pos' : Pos} {o i e : Expr}
/-- no tuple display stands there -/
def noTup : Expr → Bool
  | .Tuple _ _ _ => false
  | _ => true
theorem swapped_none {t e : Expr} {env : PySem.Env} (h : noTup e = true) : swappedStores [t] e env = pure none := by
  cases t <;> cases e <;> first | rfl | cases h
/-- a, b = e -/
theorem ws_sett {tgs : List Expr} {k : Nat} (vs : List Nat) (h : WE C R.er Γ Λ e fun d Λ' => WG C Γ Λ' (.Tuple tgs k pos') d vs fun Γ' => R.nx Γ' Λ') (hc : noComp e = true := by rfl) (ht : noTup e = true := by rfl) : WS C Γ Λ (.Assign [.Tuple tgs k pos'] e pos) R := fun X F W is hm tk => by
  refine ps_imp (ps_asg pe_U pg_U (by unfold swapsWithSole; exact noSwap hc) (swapped_none ht) rfl) fun Dn σ H ⟨B, α, S, q⟩ => ?_
  refine WE.use h is tk S q.er.at fun d Λ1 vd B1 α1 H1 p1 S1 e1 f1 r1 => ?_
  exact ⟨_, p1 X F is, B1, α1, S1, r1, fun Γ' σ' p' S' ag => q.nx Γ' Λ1 B1 α1 σ' H1 p' S' e1⟩
/-- a list that was owned is seen from now on -/
theorem wss_freeze {st : List Stmt} (n : Nat) (ds : List D) (hm0 : C.m ≤ n) (hn : Λ[n]? = some (.lst ds)) (Γ' : Env) (hl : Γ'.length = Γ.length) (hΓ : ∀ (i : Nat) (d : D), Γ'[i]? = some (some d) → Γ[i]? = some (some d) ∨ (Γ[i]? = some (some (.loc n)) ∧ d = .lst ds)) (h : WSs C Γ' (Λ.set n .gone) st R) : WSs C Γ Λ st R := fun X F W is hm tk => by
  refine pss_imp pss_U fun Dn σ H ⟨B, α, S, q⟩ => ?_
  obtain ⟨a, q1, q2, q3, vs, q4, q5⟩ := S.ce n _ hn (by simp)
  have h0 : F.H0 a = none := by
    rcases q3 with z | z
    · exact z
    · exfalso
      obtain ⟨i, hi⟩ := List.getElem?_of_mem z
      have hi' := pre_get S.pf hi
      have : i = n := (List.getElem?_inj (List.getElem?_eq_some_iff.mp hi').1 S.nd).mp (hi'.trans q1.symm)
      have := (List.getElem?_eq_some_iff.mp hi).1
      omega
  have hx : Ex B (upd B a (.lst vs)) := Ex.new q2
  have nl : n < Λ.length := (List.getElem?_eq_some_iff.mp hn).1
  refine WSs.use h is hm tk (B := upd B a (.lst vs)) (α := α) ⟨S.bb.trans hx, fun b u hb => ?_, fun b u hb => ?_, S.kp, S.dm, S.pf, S.nd, by simp [S.al], fun m c hc hg => ?_, S.ah, fun i d hi => ?_, by rw [hl]; exact S.ln, S.tb.see fun _ q => nomatch q⟩ (q.mono hx)
  · by_cases e : b = a
    · subst e; rw [upd_same] at hb; rw [← hb]; exact q4
    · rw [upd_ne e] at hb; exact S.bh b u hb
  · by_cases e : b = a
    · subst e; exact .inr h0
    · rw [upd_ne e] at hb; exact S.fr b u hb
  · by_cases e : n = m
    · subst e
      rw [List.getElem?_set_self nl] at hc
      cases hc
      exact absurd rfl hg
    · rw [List.getElem?_set_ne e] at hc
      obtain ⟨b, k1, k2, k3, k4⟩ := S.ce m c hc hg
      have hba : b ≠ a := fun z => by
        subst z
        exact e ((List.getElem?_inj (by rw [S.al]; exact nl) S.nd).mp (q1.trans k1.symm))
      exact ⟨b, k1, by rw [upd_ne hba]; exact k2, k3, k4.mono hx (List.prefix_refl _) fun u z _ => z⟩
  · rcases hΓ i d hi with z | ⟨z, rfl⟩
    · obtain ⟨v, k1, k2⟩ := S.sl i d z
      exact ⟨v, k1, k2.mono hx (List.prefix_refl _)⟩
    · obtain ⟨v, k1, k2⟩ := S.sl i _ z
      unfold Rep at k2
      obtain ⟨a', rfl, k3⟩ := k2
      rw [q1] at k3; cases k3
      exact ⟨_, k1, by unfold Rep; exact ⟨a, vs, rfl, upd_same, q5.mono hx (List.prefix_refl _)⟩⟩
end
end Pl

namespace Pl
open PySem L2 PyProof.Rows

/-! ### the program's top -/
/-- a def of the module stands where its name says -/
structure DefAt (K : PySem.W.Frag) (mg : Str → Option Value) (x : Str) (st : Stmt) (ps : List Str) (q : Str := x) : Prop where
  ex : ∃ f fd, Fun K q q st f fd ∧ mg x = some (.ref f) ∧ ∀ us : List Value, us.length = ps.length → bindArgs fd ⟨us, []⟩ = pure (ps.zip us)
theorem defAt_mk {K : PySem.W.Frag} {mg : Str → Option Value} {h : Heap} {x : Str} {st : Stmt} {ps : List Str} {f : Addr} {oc : Value} {od an : Option Addr} {osl : Array (Option Value)} {kV doc pm cdv ct : Value} (X : K.In h) (G : h.Ns mainGlobals mg)
    (hb : ∀ (kV doc pm : Value) (an : Option Addr) (cdv ct : Value) (us : List Value), us.length = ps.length → bindArgs (PySem.W.fnOf x x (defArgs st) (defBody st) (defScope st) .none kV doc pm an cdv ct) ⟨us, []⟩ = pure (ps.zip us))
    (a : PySem.W.nsIn K mainGlobals x = some (some (.ref f))) (l : K.lookup f = some ⟨oc, od, .func (PySem.W.fnOf x x (defArgs st) (defBody st) (defScope st) .none kV doc pm an cdv ct), osl⟩) (c : PySem.W.codeIn K cdv x = true) (k : PySem.W.keepIn K (.ref f) = true) :
    DefAt K mg x st ps := ⟨f, _, fun_mk l c k, PySem.W.mg_of X G a, fun us hl => hb kV doc pm an cdv ct us hl⟩
/-- a def of the module, by its body: the rule for a place of the text -/
theorem DefAt.fn {P : Program} {w : World} {K : PySem.W.Frag} {mg : Str → Option Value} {base : Heap} {x q : Str} {st : Stmt} {ps : List Str} (h : DefAt K mg x st ps q) {k : Nat} {S : Spec}
    (H : ∀ (f : Addr) (fd : FuncData), Fun K q q st f fd → FnG P w K mg base (L2.CX P w) k f fd ps (spOf K ps.length S)) : Fn P w K mg base k x ps.length S := by
  obtain ⟨f, fd, h1, h2, h3⟩ := h.ex
  exact fn_mk (H f fd h1) h2 h1.kp (.all h3)

/-- what a law asks: True for every script -/
def lawSpec (n : Nat) : Spec := fun ds Λ Q _ => ∃ ns : List Int, ns.length ≤ n ∧ ds = [.fzl (ns.map .int)] ∧ Λ = [] ∧ Q (.val (.bl true)) []
theorem reps_ints {K : PySem.W.Frag} {B : Hp} {α : List Addr} : ∀ ns : List Int, Reps K B α (ns.map D.int) (ns.map V.int)
  | [] => .nil
  | n :: ns => .cons (by unfold Rep; rfl) (reps_ints ns)
/-- the heap without the tables -/
def noT (H : Hp) : Hp := fun a => match H a with
  | some (.tbl _) => none
  | x => x
theorem noT_ne {H : Hp} {a : Addr} {o : HO} (h : H a = some o) (n : NoTbl o) : noT H a = some o := by
  unfold noT
  rw [h]
  cases o <;> first | rfl | exact absurd rfl (n _)
theorem noT_ex {H : Hp} : Ex (noT H) H := fun a o h => by
  unfold noT at h
  cases e : H a with
  | none => rw [e] at h; cases h
  | some u => rw [e] at h; cases u <;> first | exact h | (cases h; done)
theorem noT_tbl {H : Hp} (a : Addr) (ps : Array Value) : noT H a ≠ some (.tbl ps) := fun h => by
  unfold noT at h
  cases e : H a with
  | none => rw [e] at h; cases h
  | some u => rw [e] at h; cases u <;> cases h
theorem noT_sqZ {K : PySem.W.Frag} {H : Hp} {a : Addr} {xs : List V} (h : SqZ K H a xs) : SqZ K (noT H) a xs := by
  rcases h with ⟨o, h⟩ | h
  · exact .inl ⟨o, noT_ne h fun _ q => nomatch q⟩
  · exact .inr h
theorem law_sp {K : PySem.W.Frag} {H : Hp} {a : Addr} {ns : List Int} {n : Nat} (h : ns.length ≤ n) (hS : SqZ K H a (ns.map V.int)) (hT : LamX.Tabs Tbl.T H) : spOf K 1 (lawSpec n) [.ref a] H (fun v _ => v = V.bl true) fun _ _ _ => False := by
  refine ⟨⟨H, noT H, []⟩, [.fzl (ns.map .int)], [], rfl, rfl, ?_, ?_, ns, h, rfl, rfl, fun v H' B' α' S r => ?_⟩
  · exact ⟨Ex.refl _, noT_ex, fun a o h => .inl h, fun a o h _ _ => h, fun a h => h, List.prefix_refl _, List.nodup_nil, rfl, fun n c h => by simp at h, fun a h => by simp at h, fun i d h => by simp at h, rfl, hT, fun p hp => by
      obtain ⟨ps, e, _⟩ := hT p hp
      show H p.1 ≠ none
      rw [e]; simp, noT_tbl, fun a h => by simp at h⟩
  · refine .one ?_
    unfold Rep
    exact ⟨a, _, rfl, noT_sqZ hS, reps_ints ns⟩
  · unfold ResAt Rep at r
    exact r
theorem law_end {l : PySem.W.OpenLaw} {n k : Nat} {q : Program} {loose : List Str} {XP : (Str → Option Value) → Heap → Prop} {YP : World → Heap → Prop} {d : DefRec} {K : Params → PySem.W.Frag} {st : Stmt} {x : Str}
    (hn : l.most = some n) (hn2 : n ≤ sizeLine) (hdf : d.params.defaults = []) (hr : RoomG k callerA) (hT0 : Tbl.T = [])
    (hY : ∀ (w : World) (h : Heap), YP w h → (K w.params).In h)
    (F : ∀ (w : World) (mg : Str → Option Value) (h : Heap), (K w.params).In h → h.Ns mainGlobals mg → DefAt (K w.params) mg d.name st [x] ∧ ∀ base : Heap, (K w.params).In base → base.Ns mainGlobals mg →
      ∀ (f : Addr) (fd : FuncData), Fun (K w.params) d.name d.name st f fd → FnG l.prog w (K w.params) mg base (L2.CX l.prog w) k f fd [x] (spOf (K w.params) 1 (lawSpec n))) :
    PySem.W.WalkO q loose XP YP l.row.toRowW d [] (fun f vs => PySem.call f vs) := by
  refine L2.walk_ofG (n := n) (k := k) (x := x) (CX := fun w => L2.CX l.prog w) (sp := fun w => spOf (K w.params) 1 (lawSpec n)) hn hn2 hdf hr hY (fun w mg fa h KX G hfa => ?_) (fun w H a ns hl hO hS => law_sp hl (SqZ.of hS fun xs z => by
    rcases hO a with q | ⟨o, ys, q⟩
    · rw [z] at q; cases q
    · rw [z] at q; cases q) fun p hp => by rw [hT0] at hp; cases hp) fun w H s e s' z => ?_
  · obtain ⟨D, B⟩ := F w mg h KX G
    obtain ⟨f, fd, h1, h2, h3⟩ := D.ex
    rw [hfa] at h2
    cases h2
    exact ⟨fd, fun s u => .of_eq (h3 [u] rfl), fun base KB GB => B base KB GB _ fd h1⟩
  · obtain ⟨_, _, _, _, _, _, _, _, _, _, _, _, z⟩ := z
    exact z.elim

/-! ### deciders of a context's lists -/
def goodC (N : List Str) (sc : Scope) (vs ls : List Bool) (gl : List Str) : Bool :=
  decide N.Nodup && ((List.range N.length).all fun i => match N[i]? with
    | none => true
    | some x => (vs[i]? != some true || (sc.names.lookup x == some .local || sc.names.lookup x == some .cell || sc.names.lookup x == some .free)) && (ls[i]? != some true || (sc.names.lookup x == some .local || sc.names.lookup x == some .cell)))
  && gl.all fun x => sc.names.lookup x == some .globalImplicit
theorem good_by {C : Ctx} (h : goodC C.N C.sc C.vs C.ls C.gl = true) : C.Good := by
  unfold goodC at h
  simp only [Bool.and_eq_true, List.all_eq_true, decide_eq_true_eq] at h
  obtain ⟨⟨h1, h2⟩, h3⟩ := h
  have at_ : ∀ (i : Nat) (x : Str), C.N[i]? = some x → ((C.vs[i]? != some true || (C.sc.names.lookup x == some .local || C.sc.names.lookup x == some .cell || C.sc.names.lookup x == some .free)) && (C.ls[i]? != some true || (C.sc.names.lookup x == some .local || C.sc.names.lookup x == some .cell))) = true := fun i x hi => by
    have := h2 i (List.mem_range.mpr (List.getElem?_eq_some_iff.mp hi).1)
    rw [hi] at this
    simpa using this
  refine ⟨h1, fun i x hi hv => ?_, fun i x hi hv => ?_, fun j x hj => ?_⟩
  · have := at_ i x hi
    rw [hv] at this
    simp only [Bool.and_eq_true, Bool.or_eq_true, bne_self_eq_false, Bool.false_eq_true, false_or, beq_iff_eq] at this
    rcases this.1 with (z | z) | z
    · exact .inl z
    · exact .inr (.inl z)
    · exact .inr (.inr z)
  · have := at_ i x hi
    rw [hv] at this
    simp only [Bool.and_eq_true, Bool.or_eq_true, bne_self_eq_false, Bool.false_eq_true, false_or, beq_iff_eq] at this
    rcases this.2 with z | z
    · exact .inl z
    · exact .inr z
  · have := h3 x (List.mem_of_getElem? hj)
    exact beq_iff_eq.mp this
def stoC (N : List Str) (scope : Scope) (ls : List Bool) : Bool :=
  (List.range N.length).all fun i => match N[i]? with
    | none => true
    | some x => ls[i]? != some true || (scope.names.lookup x == some .local || scope.names.lookup x == some .cell)
theorem sto_by {N : List Str} {scope : Scope} {ls : List Bool} (h : stoC N scope ls = true) (i : Nat) (x : Str) (hi : N[i]? = some x) (hl : ls[i]? = some true) : scope.names.lookup x = some .local ∨ scope.names.lookup x = some .cell := by
  unfold stoC at h
  rw [List.all_eq_true] at h
  have := h i (List.mem_range.mpr (List.getElem?_eq_some_iff.mp hi).1)
  rw [hi] at this
  simp only [hl] at this
  simp only [Bool.or_eq_true, bne_self_eq_false, Bool.false_eq_true, false_or, beq_iff_eq] at this
  exact this
/-- what stands fast while a law is walked -/
structure Gl where
  P : Program
  w : World
  K : PySem.W.Frag
  mg : Str → Option Value
  base : Heap
@[reducible] def Gl.cx (G : Gl) (N : List Str) (sc : Scope) (vs ls : List Bool) (gl : List Str) (k : Nat) (m : Nat := 0) (cd : Option (Str × Addr) := none) : Ctx := ⟨G.P, G.w, G.K, G.mg, G.base, N, sc, vs, ls, gl, k, m, true, cd, false⟩
instance {G : Gl} {N : List Str} {sc : Scope} {vs ls : List Bool} {gl : List Str} {k m : Nat} {cd : Option (Str × Addr)} : Cool (G.cx N sc vs ls gl k m cd) := ⟨rfl⟩
abbrev Gl.fn (G : Gl) (k : Nat) (x : Str) (n : Nat) (S : Spec) : Prop := Fn G.P G.w G.K G.mg G.base k x n S
end Pl

/-! Pl8t: the end of a law whose defs make lambdas. -/
namespace L2
open PySem PySem.Spec PyProof.Rows LamX
end L2
namespace Pl
open PySem L2 PyProof.Rows
end Pl

namespace Pl
open PySem L2 PyProof.Rows

/-! ### steps over data, for the driver -/
section
variable {Λ : Cells} {P : D → Prop} {Pb : Bool → Prop} {i j : Int} {s t : Str} {c d : Bool}
theorem ixP_seq {x : D} {ds : List D} {e : D} (hs : seqD Λ x = some ds) (he : atI ds i = some e) (h : P e) : ixP Λ x (.int i) P := by
  unfold ixP
  split
  · rename_i i' heq
    cases heq
    split
    · simp only [seqD, vw] at hs; cases hs
    · exact ⟨ds, hs, e, he, h⟩
  · rename_i hne; exact absurd rfl (hne i)
theorem ixP_str {k : Nat} (hl : s.length ≤ sizeLine) (he : atI s.cps.toList i = some k) (h : P (.str ⟨#[k]⟩)) : ixP Λ (.str s) (.int i) P := ⟨hl, k, he, h⟩
theorem lenP_seq {x : D} {ds : List D} {Pi : Int → Prop} (hs : seqD Λ x = some ds) (h : Pi ds.length) : lenP Λ x Pi := by
  unfold lenP
  split
  · simp only [seqD, vw] at hs; cases hs
  · exact ⟨ds, hs, h⟩
theorem lenP_str {Pi : Int → Prop} (hl : s.length ≤ sizeLine) (h : Pi s.length) : lenP Λ (.str s) Pi := ⟨hl, h⟩
theorem inP_seq {x y : D} {ds : List D} (hs : seqD Λ y = some ds) (hp : PyData.plainAll (pys ds) = true) (hx : (py (vw Λ x)).plain = true) (hd : min (PyData.depthAll (pys ds)) (py (vw Λ x)).depth ≤ 190) (h : Pb ((pys ds).any fun e => PyData.eqv e (py (vw Λ x)))) : inP Λ x y Pb := by
  unfold seqD at hs
  unfold inP
  split at hs
  · rename_i e; cases hs; rw [e]; exact ⟨hp, hx, hd, h⟩
  · rename_i e; cases hs; rw [e]; exact ⟨hp, hx, hd, h⟩
  · rename_i e; cases hs; rw [e]; exact ⟨hp, hx, hd, h⟩
  · cases hs
end

/-! ### comprehensions and loops over mapped items -/
section
variable {C : Ctx} {Γ : Env} {Λ : Cells} {tg elt : Expr} {ws : List Nat} {P : List D → Prop} {β : Type}
theorem wg_mono {d : D} {P P' : Env → Prop} (h : WG C Γ Λ tg d ws P) (i : ∀ Γ', P Γ' → P' Γ') : WG C Γ Λ tg d ws P' := fun X F is =>
  pg_imp (h X F is) fun v σ H Q ⟨B, α, S, r, q⟩ => ⟨B, α, S, r, fun Γ' σ' p' S' ag => q Γ' σ' (i Γ' p') S' ag⟩
end
/-- no call can be asked for -/
theorem DefAt.none {G : Gl} {x : Str} {st : Stmt} {ps : List Str} {qn : Str} (h : DefAt G.K G.mg x st ps qn) {k : Nat} {S : Spec} (hS : ∀ ds Λ Q E, ¬ S ds Λ Q E) : G.fn k x ps.length S :=
  h.fn fun f fd F => ⟨fun vs H Q E ⟨_, _, _, _, _, _, _, z⟩ => absurd z (hS _ _ _ _), fun A outer s H args us vs Q E _ _ _ _ ⟨_, _, _, _, _, _, _, z⟩ => absurd z (hS _ _ _ _)⟩
end Pl

/-! max(xs, default=d) -/
namespace Mxd
open PySem PyProof.Rows
section
variable {prog : Program} {w : World} {A : Around} {R : Result → Shared → Prop} {it : Addr} {fp wr : List Addr} {n : Nat} {P : Nat → Value → Prop} {St : Nat → Heap → Prop} {dk : List (Str × Value)}
theorem hnm : (toString "max" ++ toString ".loop" : String) = "max.loop" := by decide
theorem turns (W : Walks prog w A.in1 it fp wr n P St) (bt : Nat → Nat → Bool) (cmp : CmpOf prog w A.in1 .Gt P bt) (b : Addr) (nb : b ∉ fp) : ∀ (k j : Nat) (s : Shared) (u : Value) (c : Nat), n - (j + 1) = k → j + 1 ≤ n → St (j + 1) s.heap → P (argBest bt j) u →
    s.heap.get? b = some { cls := .type "list", dict := none, data := .seq #[u, u] c, slots := #[] } →
    (∀ v h' tk, P (argBest bt (n - 1)) v → (∀ a o, a ∉ wr → a ≠ b → s.heap.get? a = some o → h'.get? a = some o) → R (.ok (.ret v)) { s with heap := h', toks := tk }) → codeAny (model prog w) A (.builtin "max.loop" ⟨[.ref it, .none, .ref b], dk⟩) R s := by
  have nbw : b ∉ wr := fun h => nb (W.sub _ h)
  intro k
  induction k with
  | zero =>
    intro j s u c e hj st pu hb q
    have ej : j + 1 = n := by omega
    refine codeAny_builtin F.entry_max_loop ?_
    rw [Around.under_plainId F.plain_max_loop _]
    show wpAny _ A.in1 (seqItems? (.ref b) >>= fun _ => _) _ _ s
    refine wpAny_bind (wpAny_seqItems hb rfl ?_)
    show wpAny _ A.in1 (tryCatch (pyNext (.ref it)) _ >>= fun _ => _) _ _ s
    refine wpAny_bind (wpAny_tryCatch (W.done s _ _ (ej ▸ st) fun h1 tk k1 => ?_))
    have hb1 := k1 b _ nbw hb
    show wpAny _ A.in1 (updateSeq b (fun _ => #[]) >>= fun _ => _) _ _ _
    refine wpAny_bind ?_
    refine wpAny_updateSeq hb1 rfl (wpAny_bind (wpAny_letGo (wpAny_pure ?_)))
    exact q u _ tk (by rw [← ej]; exact pu) fun a o ha hab e => (Heap.get?_update_other _ _ (Ne.symm hab)).trans (k1 a o ha e)
  | succ k ih =>
    intro j s u c e hj st pu hb q
    have lt : j + 1 < n := by omega
    refine codeAny_builtin F.entry_max_loop ?_
    rw [Around.under_plainId F.plain_max_loop _]
    show wpAny _ A.in1 (seqItems? (.ref b) >>= fun _ => _) _ _ s
    refine wpAny_bind (wpAny_seqItems hb rfl ?_)
    show wpAny _ A.in1 (tryCatch (pyNext (.ref it)) _ >>= fun _ => _) _ _ s
    refine wpAny_bind (wpAny_tryCatch (W.item (j + 1) s _ _ lt st fun v h1 tk pv st1 k1 => ?_))
    have hb1 := k1 b _ nbw hb
    show wpAny _ A.in1 (tryCatch (holding [v, v] (richCompare .Gt v u >>= fun _ => _)) _ >>= fun _ => _) _ _ _
    refine wpAny_bind (wpAny_tryCatch (wpAny_holding (wpAny_bind (cmp (j + 1) (argBest bt j) v u _ _ _ pv pu ?_))))
    refine wpAny_bind (wpAny_holding (wpAny_truthy_bool ?_))
    refine wpAny_bind (wpAny_letGo (wpAny_pure ?_))
    cases hc : bt (j + 1) (argBest bt j) with
    | true =>
      simp only [if_true]
      refine wpAny_bind ?_
      refine wpAny_updateSeq hb1 rfl (wpAny_bind (wpAny_letGo ?_))
      rw [hnm]
      refine wpAny_pure ⟨plainId_quiet F.plain_max_loop _, ih (j + 1) _ v _ (by omega) lt (W.frame _ _ _ st1 fun a ha o e => ?_) (by simp only [argBest, hc, if_true]; exact pv) (Heap.get?_update_self _ hb1 rfl) fun z h2 tk2 pz k2 => ?_⟩
      · exact (Heap.get?_update_other _ _ (fun h : b = a => nb (by rw [h]; exact ha))).trans e
      · exact q z h2 tk2 pz fun a o ha hab e => k2 a o ha hab ((Heap.get?_update_other _ _ (Ne.symm hab)).trans (k1 a o ha e))
    | false =>
      simp only [Bool.false_eq_true, if_false]
      refine wpAny_bind (wpAny_letGo ?_)
      rw [hnm]
      refine wpAny_pure ⟨plainId_quiet F.plain_max_loop _, ih (j + 1) _ u c (by omega) lt st1 (by simp only [argBest, hc, Bool.false_eq_true, if_false]; exact pu) hb1 fun z h2 tk2 pz k2 => ?_⟩
      exact q z h2 tk2 pz fun a o ha hab e => k2 a o ha hab (k1 a o ha e)
theorem first (W : Walks prog w A.in1 it fp wr n P St) (bt : Nat → Nat → Bool) (cmp : CmpOf prog w A.in1 .Gt P bt) (b : Addr) (nb : b ∉ fp) (h0 : 0 < n) {s : Shared} {c : Nat} (st : St 0 s.heap)
    (hb : s.heap.get? b = some { cls := .type "list", dict := none, data := .seq #[] c, slots := #[] })
    (q : ∀ v h' tk, P (argBest bt (n - 1)) v → (∀ a o, a ∉ wr → a ≠ b → s.heap.get? a = some o → h'.get? a = some o) → R (.ok (.ret v)) { s with heap := h', toks := tk }) : codeAny (model prog w) A (.builtin "max.loop" ⟨[.ref it, .none, .ref b], dk⟩) R s := by
  have nbw : b ∉ wr := fun h => nb (W.sub _ h)
  refine codeAny_builtin F.entry_max_loop ?_
  rw [Around.under_plainId F.plain_max_loop _]
  show wpAny _ A.in1 (seqItems? (.ref b) >>= fun _ => _) _ _ s
  refine wpAny_bind (wpAny_seqItems hb rfl ?_)
  show wpAny _ A.in1 (tryCatch (pyNext (.ref it)) _ >>= fun _ => _) _ _ s
  refine wpAny_bind (wpAny_tryCatch (W.item 0 s _ _ h0 st fun v h1 tk pv st1 k1 => ?_))
  have hb1 := k1 b _ nbw hb
  show wpAny _ A.in1 (updateSeq b (fun _ => #[v, v]) >>= fun _ => _) _ _ _
  refine wpAny_bind ?_
  refine wpAny_updateSeq hb1 rfl ?_
  rw [hnm]
  refine wpAny_pure ⟨plainId_quiet F.plain_max_loop _, turns W bt cmp b nb _ 0 _ v _ rfl h0 (W.frame _ _ _ st1 fun a ha o e => ?_) pv (Heap.get?_update_self _ hb1 rfl) fun z h2 tk2 pz k2 => ?_⟩
  · exact (Heap.get?_update_other _ _ (fun h : b = a => nb (by rw [h]; exact ha))).trans e
  · exact q z h2 tk2 pz fun a o ha hab e => k2 a o ha hab ((Heap.get?_update_other _ _ (Ne.symm hab)).trans (k1 a o ha e))
end
section
variable {prog : Program} {w : World} {A : Around} {E : Value → Shared → Prop} {s : Shared}
theorem bk (d : Value) : Builtin.Builtins.bindParams "max" ["key", "default"] 0 ⟨[], [(Str.ofString "default", d)]⟩ = pure [none, some d] := by first | rfl | kernel_rfl
end
end Mxd
namespace Mxd
open PySem PyProof.Rows
section
variable {prog : Program} {w : World} {A : Around} {E : Value → Shared → Prop} {s : Shared}
end
end Mxd

namespace Pl
open PySem L2 PyProof.Rows
section
variable {C : Ctx} {E : ER} {Γ : Env} {Λ : Cells} {P : D → Cells → Prop} {pos p : Pos} {e : Expr}
end
end Pl
namespace Pl
open PySem L2 PyProof.Rows
section
variable {C : Ctx} {E : ER} {Γ : Env} {Λ : Cells} {P : D → Cells → Prop} {pos p p2 : Pos} {e : Expr}
/-- isinstance(e, T) -/
theorem we_isiN {x : Str} {T : String} (hj : GlAt C "isinstance") (hm : C.mg "isinstance" = none) (hj2 : GlAt C x) (hm2 : C.mg x = none) (hv : bootBuiltins x = some (.type T)) (h : WE C E Γ Λ e fun x Λ1 => ∃ t b, tyD Λ1 x = some t ∧ isiB t T = some b ∧ P (.bl b) Λ1) (he : plainE e = true := by rfl)
    (hn : x ≠ "__name__" := by decide) (hd : (x == ("__debug__" : Str)) = false := by decide) : WE C E Γ Λ (.Call (.Name "isinstance" p) [e, .Name x p2] [] pos) P :=
  we_isi hj hm (we_mono h fun y Λ1 ⟨t, b, h1, h2, h3⟩ => we_blt hj2 hm2 hv (v := .ty T) (by exact rfl) ⟨t, T, b, rfl, h1, h2, h3⟩ hn hd) he
end
/-! ### for the driver -/
section
variable {C : Ctx} {E : ER} {Γ : Env} {Λ : Cells}
end
end Pl
namespace Pl
open PySem L2 PyProof.Rows
theorem sz_lt {n : Nat} (h : n < 10000000) : n ≤ sizeLine := by rw [sizeLine_eq]; omega
end Pl
namespace Pl
open PySem L2 PyProof.Rows
end Pl

/-! Pl11: calls that are handed cells and that hand back new ones -/
namespace Pl
open PySem L2 PyProof.Rows

/-! ### cells under other numbers -/
mutual
def ren (f : Nat → Nat) : D → D
  | .loc n => .loc (f n)
  | .tup ds => .tup (rens f ds)
  | .lst ds => .lst (rens f ds)
  | .fzl ds => .fzl (rens f ds)
  | .ins C ns ds => .ins C ns (rens f ds)
  | .dic ks ds => .dic ks (rens f ds)
  | .exc C ns ds => .exc C ns (rens f ds)
  | .non => .non
  | .bl b => .bl b
  | .int i => .int i
  | .str s => .str s
  | .raw v => .raw v
def rens (f : Nat → Nat) : List D → List D
  | [] => []
  | d :: ds => ren f d :: rens f ds
end
theorem rens_length {f : Nat → Nat} : ∀ ds : List D, (rens f ds).length = ds.length
  | [] => rfl
  | d :: ds => by show (rens f ds).length + 1 = _; rw [rens_length ds]; rfl
theorem allBl_rens {f : Nat → Nat} : ∀ ds : List D, allBl (rens f ds) = allBl ds
  | [] => rfl
  | d :: ds => by
    show allBl (ren f d :: rens f ds) = _
    cases d <;> first | rfl | exact allBl_rens ds
mutual
def ltD (m : Nat) : D → Bool
  | .loc n => decide (n < m)
  | .tup ds => ltDs m ds
  | .lst ds => ltDs m ds
  | .fzl ds => ltDs m ds
  | .ins _ _ ds => ltDs m ds
  | .dic _ ds => ltDs m ds
  | .exc _ _ ds => ltDs m ds
  | _ => true
def ltDs (m : Nat) : List D → Bool
  | [] => true
  | d :: ds => ltD m d && ltDs m ds
end
mutual
theorem ltD_nl {m : Nat} : ∀ d : D, nl d = true → ltD m d = true
  | .loc n, h => by cases h
  | .tup ds, h => ltDs_nl ds h
  | .lst ds, h => ltDs_nl ds h
  | .fzl ds, h => ltDs_nl ds h
  | .ins C ns ds, h => ltDs_nl ds h
  | .dic ks ds, h => ltDs_nl ds h
  | .exc C ns ds, h => ltDs_nl ds h
  | .non, _ => rfl
  | .bl _, _ => rfl
  | .int _, _ => rfl
  | .str _, _ => rfl
  | .raw _, _ => rfl
theorem ltDs_nl {m : Nat} : ∀ ds : List D, nls ds = true → ltDs m ds = true
  | [], _ => rfl
  | d :: ds, h => by
    have h' : (nl d && nls ds) = true := h
    rw [Bool.and_eq_true] at h'
    show (ltD m d && ltDs m ds) = true
    rw [ltD_nl d h'.1, ltDs_nl ds h'.2]; rfl
end
section
variable {K : PySem.W.Frag} {B : Hp} {α α' : List Addr} {f : Nat → Nat}
mutual
theorem Rep.ren {m : Nat} (hf : ∀ (n : Nat) (a : Addr), n < m → α[n]? = some a → α'[f n]? = some a) : ∀ (d : D) (v : V), ltD m d = true → Rep K B α d v → Rep K B α' (Pl.ren f d) v
  | .non, _, _, h => h
  | .bl _, _, _, h => h
  | .int _, _, _, h => h
  | .str _, _, _, h => h
  | .raw _, _, _, h => h
  | .loc n, v, l, h => by
    unfold Rep at h
    obtain ⟨a, rfl, h1⟩ := h
    show Rep K B α' (.loc (f n)) _
    unfold Rep
    exact ⟨a, rfl, hf n a (of_decide_eq_true l) h1⟩
  | .tup ds, v, l, h => by
    unfold Rep at h
    obtain ⟨a, vs, rfl, h1, h2⟩ := h
    show Rep K B α' (.tup (rens f ds)) _
    unfold Rep
    exact ⟨a, vs, rfl, h1.to (fun q => by rw [allBl_rens] at q; exact q), Reps.ren hf ds vs l h2⟩
  | .lst ds, v, l, h => by
    unfold Rep at h
    obtain ⟨a, vs, rfl, h1, h2⟩ := h
    show Rep K B α' (.lst (rens f ds)) _
    unfold Rep
    exact ⟨a, vs, rfl, h1, Reps.ren hf ds vs l h2⟩
  | .fzl ds, v, l, h => by
    unfold Rep at h
    obtain ⟨a, vs, rfl, h1, h2⟩ := h
    show Rep K B α' (.fzl (rens f ds)) _
    unfold Rep
    exact ⟨a, vs, rfl, h1, Reps.ren hf ds vs l h2⟩
  | .ins C ns ds, v, l, h => by
    unfold Rep at h
    obtain ⟨a, dx, vs, rfl, h1, h2, h3⟩ := h
    show Rep K B α' (.ins C ns (rens f ds)) _
    unfold Rep
    exact ⟨a, dx, vs, rfl, h1, Reps.ren hf ds vs l h2, by rw [rens_length]; exact h3⟩
  | .dic ks ds, v, l, h => by
    unfold Rep at h
    obtain ⟨a, vs, rfl, h1, h2, h3⟩ := h
    show Rep K B α' (.dic ks (rens f ds)) _
    unfold Rep
    exact ⟨a, vs, rfl, h1, Reps.ren hf ds vs l h2, by rw [rens_length]; exact h3⟩
  | .exc C ns ds, v, l, h => by
    unfold Rep at h
    obtain ⟨a, d, vs, rfl, h1, h2, h3, h4⟩ := h
    show Rep K B α' (.exc C ns (rens f ds)) _
    unfold Rep
    exact ⟨a, d, vs, rfl, h1, Reps.ren hf ds vs l h2, by rw [rens_length]; exact h3, h4⟩
theorem Reps.ren {m : Nat} (hf : ∀ (n : Nat) (a : Addr), n < m → α[n]? = some a → α'[f n]? = some a) : ∀ (ds : List D) (vs : List V), ltDs m ds = true → Reps K B α ds vs → Reps K B α' (rens f ds) vs
  | [], _, _, h => h
  | d :: ds, vs, l, h => by
    have l' : (ltD m d && ltDs m ds) = true := l
    rw [Bool.and_eq_true] at l'
    unfold Reps at h
    obtain ⟨v, r, rfl, h1, h2⟩ := h
    exact .cons (Rep.ren hf d v l'.1 h1) (Reps.ren hf ds r l'.2 h2)
end
theorem id_ren : ∀ d : D, Pl.ren (fun n => n) d = d := by
  intro d
  refine D.rec (motive_1 := fun d => Pl.ren (fun n => n) d = d) (motive_2 := fun ds => rens (fun n => n) ds = ds) rfl (fun _ => rfl) (fun _ => rfl) (fun _ => rfl) (fun ds h => ?_) (fun ds h => ?_) (fun ds h => ?_) (fun _ => rfl) (fun _ => rfl) (fun _ _ ds h => ?_) (fun _ ds h => ?_) (fun _ _ ds h => ?_) rfl (fun d ds h1 h2 => ?_) d
  · show D.tup _ = _; rw [h]
  · show D.lst _ = _; rw [h]
  · show D.fzl _ = _; rw [h]
  · show D.ins _ _ _ = _; rw [h]
  · show D.dic _ _ = _; rw [h]
  · show D.exc _ _ _ = _; rw [h]
  · show _ :: _ = _; rw [h1, h2]
end

/-! ### what is handed -/
/-- the callee's cell j is the caller's -/
def gI (ls : List Nat) (n : Nat) (j : Nat) : Nat := if h : j < ls.length then ls[j] else n + (j - ls.length)
def cellsAt (Λ : Cells) (ls : List Nat) : Cells := ls.map fun n => (Λ[n]?).getD .gone
def setAll (Λ : Cells) : List Nat → Cells → Cells
  | n :: ls, c :: cs => setAll (Λ.set n c) ls cs
  | _, _ => Λ
/-- the caller's cells behind the call -/
def putB (Λ : Cells) (ls : List Nat) (Λ' : Cells) : Cells := setAll Λ ls (Λ'.take ls.length) ++ Λ'.drop ls.length
theorem setAll_length : ∀ {Λ : Cells} {ls : List Nat} {cs : Cells}, (setAll Λ ls cs).length = Λ.length
  | _, [], _ => by unfold setAll; rfl
  | _, _ :: _, [] => by unfold setAll; rfl
  | Λ, n :: ls, c :: cs => by unfold setAll; rw [setAll_length, List.length_set]
structure Hand (Λ : Cells) (ls : List Nat) : Prop where
  nd : ls.Nodup
  lt : ∀ n ∈ ls, n < Λ.length
  pl : (cellsAt Λ ls).all nlC = true

section
variable {K : PySem.W.Frag} {F : Fm} {B B' : Hp} {α α' : List Addr} {Γ : Env} {Λ Λ' : Cells} {σ : L2.St} {H H' : Hp} {ls : List Nat}
theorem CellAt.nl {a : Addr} {c : Cell} (hp : nlC c = true) (h : CellAt K B α H a c) : CellAt K B α' H a c := by
  cases c with
  | lst ds => obtain ⟨vs, h1, h2⟩ := h; exact ⟨vs, h1, Reps.nl ds vs hp h2⟩
  | dic ks ds => obtain ⟨vs, h1, h2, h3⟩ := h; exact ⟨vs, h1, Reps.nl ds vs hp h2, h3⟩
  | ins C ns ds => obtain ⟨dx, vs, h1, h2, h3⟩ := h; exact ⟨dx, vs, h1, Reps.nl ds vs hp h2, h3⟩
  | gone => trivial
end
section
variable {C : Ctx} {E : ER} {Γ : Env} {Λ : Cells} {pos p : Pos}
/-- how a call with cells is told: the cells handed, the callee's arguments -/
def CallC (n : Nat) (S : Spec) (E : ER) (Γ : Env) (Λ1 : Cells) (ds : List D) (Pr : Res → Cells → Prop) : Prop :=
  ∃ ls ds', Hand Λ1 ls ∧ ds = rens (gI ls Λ1.length) ds' ∧ ltDs ls.length ds' = true ∧ ds'.length = n ∧ S ds' (cellsAt Λ1 ls) (fun r Λ' => Λ'.all nlC = true ∧ (match r with | .val d => Pr (.val (ren (gI ls Λ1.length) d)) (putB Λ1 ls Λ') | .new ds => nls ds = true ∧ Pr (.new ds) (putB Λ1 ls Λ')))
    fun err Λ' => Λ'.all nlC = true ∧ nlE err = true ∧ E err Γ (putB Λ1 ls Λ')
end

/-! ### a def that hands back new cells -/
/-- what a def's body is to reach: m cells are left, the rest is thrown away -/
def rtY (Λ0 : Cells) (Q : Res → Cells → Prop) (r : Res) (Λ' : Cells) : Prop := ∃ m, Λ0.length ≤ m ∧ (Λ'.take m).all nlC = true ∧ ((match r with | .val d => ltD m d = true | .new ds => nls ds = true) ∧ Q r (Λ'.take m) ∨ (∃ n ds, m ≤ n ∧ r = .val (.loc n) ∧ Λ'[n]? = some (.lst ds) ∧ nls ds = true ∧ Q (.new ds) (Λ'.take m)) ∨ ∃ n ks ds, m ≤ n ∧ r = .val (.loc n) ∧ Λ'[n]? = some (.dic ks ds) ∧ nls ds = true ∧ Q (.val (.dic ks ds)) (Λ'.take m))
end Pl
namespace Pl
open PySem L2 PyProof.Rows
theorem reps_take {K : PySem.W.Frag} {B : Hp} {α : List Addr} {m : Nat} {d : D} {v : V} (h : ltD m d = true) (r : Rep K B α d v) : Rep K B (α.take m) d v := by
  have := Rep.ren (α' := α.take m) (f := fun n => n) (m := m) (fun n a hn e => by rw [List.getElem?_take, if_pos hn]; exact e) d v h r
  rw [id_ren] at this; exact this
/-- THE RULE, with cells: a def of the module keeps its promise, by its body -/
theorem fn_okC {P : Program} {w : World} {K : PySem.W.Frag} {mg : Str → Option Value} {base : Heap} {x qual : Str} {st : Stmt} {f : Addr} {fd : FuncData} {N ps : List Str} {k : Nat} {S : Spec} (F : Fun K x qual st f fd) (sc : FnScope N ps (defScope st)) (C : Ctx)
    (hC : C.P = P ∧ C.w = w ∧ C.K = K ∧ C.mg = mg ∧ C.base = base ∧ C.N = N ∧ C.sc = defScope st ∧ C.k = k) (good : C.Good) (hm : ∀ ds Λ Q E, S ds Λ Q E → Λ.length ≤ C.m)
    (hb : ∀ ds Λ Q E, ds.length = ps.length → S ds Λ Q E → WSs C (Γ0 N ds) Λ (defBody st) ⟨fun _ Λ' => rtY Λ Q (.val .non) Λ', rtY Λ Q, fun _ _ => False, fun _ _ => False, erX Λ E⟩) (hcd : ∀ q c, C.cd = some (q, c) → qual ++ ".<locals>." = q ∧ fd.code = .ref c := by intro _ _ h; cases h) : FnG P w K mg base (L2.CX P w) (k + 1) f fd ps (spOf K ps.length S) := by
  obtain ⟨rfl, rfl, rfl, rfl, rfl, rfl, hsc, rfl⟩ := hC
  refine F.okXG sc (fun vs H Q E h => by obtain ⟨_, _, _, h, _⟩ := h; exact h) fun cdv A outer s H vs Q E ecd hr h => ?_
  obtain ⟨Fm', ds, Λ, hl, hH, T, r, sp⟩ := h
  have hds : ds.length = ps.length := by rw [← r.length]; exact hl
  have hN : ps.length ≤ C.N.length := by have := congrArg List.length sc.pre; rw [List.length_take] at this; omega
  let X := cxOf (L2.CX C.P C.w) C.P C.w C.K C.mg C.base C.N qual (defScope st) f cdv A outer s H E
  have is : C.Is X := ⟨rfl, rfl, rfl, rfl, rfl, rfl, hsc.symm, fun _ => rfl, fun _ => hr.hd, hr.w, fun _ _ _ _ => .inl rfl, good, passes_of rfl, fun _ => ⟨rfl, rfl, rfl⟩, fun q c e => ⟨(hcd q c e).1, ecd.symm.trans (hcd q c e).2⟩⟩
  have tk : Takes X (fun c d _ H => E c d H) := takes_of rfl rfl rfl rfl
  have T' : Sat C.K Fm' Fm'.B0 Fm'.α0 (Γ0 C.N ds) Λ (L2.start C.N vs) H := by
    refine T.env ?_ fun i d hi => ?_
    · unfold Γ0 L2.start
      simp only [List.length_append, List.length_map, List.length_replicate]
      omega
    · unfold Γ0 at hi
      by_cases hlt : i < ds.length
      · rw [List.getElem?_append_left (by simpa using hlt), List.getElem?_map] at hi
        cases q : ds[i]? with
        | none => rw [q] at hi; cases hi
        | some e =>
          rw [q] at hi
          cases hi
          obtain ⟨v, h1, h2⟩ := r.get q
          refine ⟨v, ?_, h2⟩
          unfold L2.start
          rw [List.getElem?_append_left (by have := (List.getElem?_eq_some_iff.mp h1).1; simpa using this), List.getElem?_map, h1]
          rfl
      · rw [List.getElem?_append_right (by simpa using hlt), List.getElem?_replicate] at hi
        split at hi <;> cases hi
  have hlen : Fm'.α0.length = Λ.length := T.al
  have cut : ∀ {m : Nat} {Γ' : Env} {Λ' : Cells} {B' : Hp} {α' : List Addr} {σ' : L2.St} {H' : Hp}, Λ.length ≤ m → Sat C.K Fm' B' α' Γ' Λ' σ' H' → (Λ'.take m).all nlC = true → Sat C.K Fm' B' (α'.take m) [] (Λ'.take m) [] H' := fun hm S' h =>
    S'.cut (by omega) (all_nlC h) rfl fun i d h => by simp at h
  refine ⟨_, hb ds Λ _ _ hds sp X Fm' _ is (by rw [T.al]; exact hm _ _ _ _ sp) tk, Fm'.B0, Fm'.α0, T', ⟨fun Γ' Λ' B' α' σ' H' h S' e => ?_, fun r Λ' v Γ' B' α' σ' H' h S' e ra => ?_, fun Γ' Λ' B' α' σ' H' h => h.elim, fun Γ' Λ' B' α' σ' H' h => h.elim, fun err Γ' Λ' B' α' σ' H' c dx h S' e ea => ?_⟩⟩
  · obtain ⟨m, hm1, h2, ⟨h1, h3⟩ | ⟨n, ds, _, e, _⟩ | ⟨n, ks, ds, _, e, _⟩⟩ := h
    · exact h3 .non H' B' _ (cut hm1 S' h2) (by unfold ResAt Rep; rfl)
    · cases e
    · cases e
  · have far : ∀ {m n : Nat} {a : Addr}, m ≤ n → α'[n]? = some a → a ∉ α'.take m := fun {m n a} hk ha hm => by
      have hna : n < α'.length := (List.getElem?_eq_some_iff.mp ha).1
      obtain ⟨j, hj, ej⟩ := List.getElem_of_mem hm
      rw [List.getElem_take] at ej
      rw [List.length_take] at hj
      have e1 : α'[j]? = some a := by rw [List.getElem?_eq_getElem (by omega), ej]
      have := (List.getElem?_inj (by omega) S'.nd).mp (e1.trans ha.symm)
      omega
    have fresh : ∀ {m n : Nat} {a : Addr}, Λ.length ≤ m → m ≤ n → α'[n]? = some a → (Fm'.H0 a = none ∨ a ∈ Fm'.α0) → Fm'.H0 a = none := fun {m n a} hm1 hn ha q3 => by
      rcases q3 with z | z
      · exact z
      · exfalso
        obtain ⟨t, ht⟩ := S'.pf
        apply far (m := Fm'.α0.length) (by omega) ha
        rw [← ht, List.take_append_of_le_length (Nat.le_refl _), List.take_length]
        exact z
    obtain ⟨m, hm1, h2, ⟨h1, h3⟩ | ⟨n, ds, hn, e, hc, hds, h3⟩ | ⟨n, ks, ds, hn, e, hc, hds, h3⟩⟩ := h
    · refine h3 v H' B' _ (cut hm1 S' h2) ?_
      cases r with
      | val d => exact reps_take h1 ra
      | new ds =>
        obtain ⟨p, vs, q1, q2, q3, q4, q5, q6⟩ := ra
        exact ⟨p, vs, q1, q2, q3, q4, fun hm => q5 (List.mem_of_mem_take hm), Reps.nl ds vs h1 q6⟩
    · subst e
      refine h3 v H' B' _ (cut hm1 S' h2) ?_
      unfold ResAt Rep at ra
      obtain ⟨a, rfl, ha⟩ := ra
      obtain ⟨a', q1, q2, q3, vs, q4, q5⟩ := S'.ce n _ hc (by simp)
      rw [ha] at q1; cases q1
      exact ⟨a, vs, rfl, q4, q2, fresh hm1 hn ha q3, far hn ha, Reps.nl ds vs hds q5⟩
    · subst e
      unfold ResAt Rep at ra
      obtain ⟨a, rfl, ha⟩ := ra
      obtain ⟨a', q1, q2, q3, vs, q4, q5, q6⟩ := S'.ce n _ hc (by simp)
      rw [ha] at q1; cases q1
      have S2 := (cut hm1 S' h2).see q4 q2 (fresh hm1 hn ha q3) (far hn ha)
      refine h3 (.ref a) H' _ _ S2 ?_
      have hx : Ex B' (upd B' a (.dK (ks.zip vs))) := Ex.new q2
      show Rep _ _ _ (.dic ks ds) _
      unfold Rep
      exact ⟨a, vs, rfl, .inl upd_same, (Reps.nl ds vs hds q5).mono hx (List.prefix_refl _), q6⟩
  · obtain ⟨h1, h2, h3⟩ := h
    refine h3 B' _ H' c dx (cut (Nat.le_refl _) S' h2) ?_
    obtain ⟨e1, e2⟩ := ea
    refine ⟨e1, ?_⟩
    unfold nlE at h1
    cases hf : err.fs with
    | none => rw [hf] at e2; exact e2
    | some z =>
      obtain ⟨ns, ds⟩ := z
      rw [hf] at e2 h1
      obtain ⟨a, vs, q1, q2, q3, q4, q5⟩ := e2
      exact ⟨a, vs, q1, q2, Reps.nl ds vs h1 q3, q4, fun z => ⟨(q5 z).1, fun hm => (q5 z).2 (List.mem_of_mem_take hm)⟩⟩
theorem def_okC {G : Gl} {x : Str} {st : Stmt} {ps : List Str} {qn : Str} (h : DefAt G.K G.mg x st ps qn) {N : List Str} {vs ls : List Bool} {gl : List Str} {k m : Nat} {S : Spec} (sc : FnScope N ps (defScope st)) (good : goodC N (defScope st) vs ls gl = true)
    (hm : ∀ ds Λ Q E, S ds Λ Q E → Λ.length ≤ m)
    (hb : ∀ ds Λ Q E, ds.length = ps.length → S ds Λ Q E → WSs (G.cx N (defScope st) vs ls gl k m) (Γ0 N ds) Λ (defBody st) ⟨fun _ Λ' => rtY Λ Q (.val .non) Λ', rtY Λ Q, fun _ _ => False, fun _ _ => False, erX Λ E⟩) : G.fn (k + 1) x ps.length S :=
  h.fn fun f fd F => fn_okC F sc (G.cx N (defScope st) vs ls gl k m) ⟨rfl, rfl, rfl, rfl, rfl, rfl, rfl, rfl⟩ (good_by good) hm hb
end Pl

/-! Pl12: the promises of defs in one form, and more steps of data -/
namespace Pl
open PySem L2 PyProof.Rows
section
variable {C : Ctx} {E : ER} {Γ : Env} {Λ : Cells} {pos p : Pos} {β : Type} {A : β → List D} {ok : β → Prop} {R : β → Res → Prop}
end
/-! ### lists of data -/
end Pl
namespace Pl
open PySem L2 PyProof.Rows
/-! ### what stands there: for the driver -/
section
variable {C : Ctx} {E : ER} {Γ : Env} {Λ : Cells}
end
end Pl
namespace Pl
open PySem L2 PyProof.Rows
/-! ### slices of any kind -/
def slP (Λ : Cells) (x : D) (l u : Option Int) (P : D → Prop) : Prop := match x with
  | .str s => s.length ≤ sizeLine ∧ P (.str (cutS s l u))
  | .tup ds => P (.tup (cutD ds l u))
  | x => ∃ ds, lstD Λ x = some ds ∧ P (.lst (cutD ds l u))
section
variable {C : Ctx} {E : ER} {Γ : Env} {Λ : Cells} {P : D → Cells → Prop} {a : Expr} {pos : Pos}
theorem cutD_whole {ds : List D} {l u : Option Int} (h : HT.sIx ds.length 0 l = 0 ∧ HT.sIx ds.length ds.length u = ds.length) : cutD ds l u = ds := by
  unfold cutD; rw [h.1, h.2]; simp
theorem we_sl {lo hi : Option Expr} {p2 : Pos} (h : WE C E Γ Λ a fun x Λ1 => WO C E Γ Λ1 lo fun l Λ2 => WO C E Γ Λ2 hi fun u Λ3 => slP Λ3 x l u fun d => P d Λ3) : WE C E Γ Λ (.Subscript a (.Slice lo hi none p2) pos) P := fun X F W is tk => by
  refine pe_imp (pe_slice (sl_list.or (sl_tupX.or sl_str)) pe_U po_U po_U) fun σ H Q ⟨B, α, S, q, er⟩ => ?_
  refine WE.use h is tk S er fun x Λ1 vx B1 α1 H1 p1 S1 e1 f1 r1 => ?_
  refine WO.use p1 is tk S1 (er.mono e1) fun l Λ2 B2 α2 H2 p2 S2 e2 f2 => ?_
  refine WO.use p2 is tk S2 (er.mono (e1.trans e2)) fun u Λ3 B3 α3 H3 p3 S3 e3 f3 => ?_
  have r3 := r1.mono (e2.trans e3) (f2.trans f3)
  unfold slP at p3
  split at p3
  · obtain ⟨hs, p⟩ := p3
    unfold Rep at r3
    exact .inr (.inr ⟨_, r3, hs, q _ Λ3 _ B3 α3 H3 p S3 ((e1.trans e2).trans e3) ((f1.trans f2).trans f3) (by unfold Rep; rfl)⟩)
  · rename_i ds
    unfold Rep at r3
    obtain ⟨p', vs, rfl, h1, h2⟩ := r3
    refine .inr (.inl ⟨p', vs, rfl, by rw [is.K]; exact S3.bh.sqT h1.1, fun hw => ?_, fun hw t its ht => ?_⟩)
    · rw [h2.length] at hw
      rw [cutD_whole hw] at p3
      exact q _ Λ3 _ B3 α3 H3 p3 S3 ((e1.trans e2).trans e3) ((f1.trans f2).trans f3) (by unfold Rep; exact ⟨p', vs, rfl, h1, h2⟩)
    · have hx : Ex B3 (upd B3 t (.frz (tupO its) (.tup (cutV vs l u)))) := Ex.new (S3.bh.back ht)
      refine q _ Λ3 _ (upd B3 t (.frz (tupO its) (.tup (cutV vs l u)))) α3 _ p3 (S3.lay ht) (((e1.trans e2).trans e3).trans hx) ((f1.trans f2).trans f3) ?_
      show Rep C.K _ α3 (.tup _) (.ref t)
      unfold Rep
      exact ⟨t, _, rfl, SqX.new upd_same, (h2.cut l u).mono hx (List.prefix_refl _)⟩
  · obtain ⟨ds, hs, p⟩ := p3
    obtain ⟨p', vs, rfl, h1, h2⟩ := S3.seqL r3 hs
    refine .inl ⟨p', vs, rfl, by rw [is.K]; exact h1, fun t ht => ?_⟩
    have hx : Ex B3 (upd B3 t (.lst (cutV vs l u))) := Ex.new (S3.bh.back ht)
    refine q _ Λ3 _ (upd B3 t (.lst (cutV vs l u))) α3 _ p (S3.lay ht) (((e1.trans e2).trans e3).trans hx) ((f1.trans f2).trans f3) ?_
    show Rep C.K _ α3 (.lst _) (.ref t)
    unfold Rep
    exact ⟨t, _, rfl, upd_same, (h2.cut l u).mono hx (List.prefix_refl _)⟩
theorem slP_tup {x : D} {ds : List D} {l u : Option Int} {P : D → Prop} (hx : x = .tup ds) (h : P (.tup (cutD ds l u))) : slP Λ x l u P := by subst hx; exact h
theorem slP_str {s : Str} {l u : Option Int} {P : D → Prop} (hs : s.length ≤ sizeLine) (h : P (.str (cutS s l u))) : slP Λ (.str s) l u P := ⟨hs, h⟩
theorem slP_lst {x : D} {ds : List D} {l u : Option Int} {P : D → Prop} (hx : lstD Λ x = some ds) (h : P (.lst (cutD ds l u))) : slP Λ x l u P := by
  unfold slP
  split
  · simp only [lstD, vw] at hx; cases hx
  · simp only [lstD, vw] at hx; cases hx
  · exact ⟨ds, hx, h⟩
end
end Pl
namespace Pl
open PySem L2 PyProof.Rows
theorem good_blk {C : Ctx} {scope : Scope} {vs ls : List Bool} {gl : List Str} (h : goodC C.N (relS scope C.sc) vs ls gl = true) : (C.blk scope vs ls gl).Good := good_by h
theorem rv {d : D} {P : D → Prop} (h : P d) : ∃ d', Res.val d = .val d' ∧ P d' := ⟨d, rfl, h⟩
end Pl
namespace Pl
open PySem L2 PyProof.Rows
/-! ### loops by the turn's number -/
section
variable {C : Ctx} {Γ : Env} {Λ : Cells} {tg : Expr} {ws : List Nat} {R : Rs} {body : List Stmt}
theorem sz_ltt {n : Nat} (h : n < 10000000) : n < sizeLine := by rw [sizeLine_eq]; omega
end
/-! ### a cell that is a stack -/
section
variable {β : Type} {f : β → D} {st : List β} {y : β}
end
end Pl
namespace Pl
open PySem L2 PyProof.Rows
section
variable {f : Int → Int → D} {i j : Int} {P : D → Prop}
end
end Pl
namespace Pl
open PySem L2 PyProof.Rows
/-! ### guards of the driver's rows -/
section
variable {C : Ctx} {E : ER} {Γ : Env} {Λ : Cells}
theorem wgs_cons1 {e : Expr} {es : List Expr} {d : D} {ds : List D} {v : Nat} {ws : List Nat} {P : Env → Prop} (h : WG C Γ Λ e d [v] fun Γ' => WGs C Γ' Λ es ds ws P) (he : plainT e = true := by rfl) : WGs C Γ Λ (e :: es) (d :: ds) (v :: ws) P := wgs_cons h he
end
section
variable {Λ : Cells} {P : D → Prop} {f : Int → Int → D} {x y : D}
end
end Pl
namespace Pl
open PySem L2 PyProof.Rows
end Pl
namespace Pl
open PySem L2 PyProof.Rows
/-- the law's own def: True for every script -/
theorem law_ok {G : Gl} {x p : Str} {st : Stmt} {N : List Str} {vs ls : List Bool} {gl : List Str} {k n : Nat} {f : Addr} {fd : FuncData} (F : Fun G.K x x st f fd) (sc : FnScope N [p] (defScope st)) (good : goodC N (defScope st) vs ls gl = true)
    (hb : ∀ ns : List Int, ns.length ≤ n → WSs (G.cx N (defScope st) vs ls gl k 0) (Γ0 N [.fzl (ns.map .int)]) [] (defBody st) ⟨fun _ _ => False, fun r _ => r = .val (.bl true), fun _ _ => False, fun _ _ => False, ER.none⟩) : FnG G.P G.w G.K G.mg G.base (L2.CX G.P G.w) (k + 1) f fd [p] (spOf G.K 1 (lawSpec n)) :=
  fn_ok (ps := [p]) (S := lawSpec n) F sc (G.cx N (defScope st) vs ls gl k 0) ⟨rfl, rfl, rfl, rfl, rfl, rfl, rfl, rfl⟩ (good_by good) (fun ds Λ Q E h => by obtain ⟨_, _, _, rfl, _⟩ := h; exact Nat.le_refl _) fun ds Λ Q E hl ⟨ns, h1, h2, h3, h4⟩ => by
    subst h2; subst h3
    refine wss_mono (hb ns h1) ⟨fun _ _ z => z.elim, fun r Λ e => ?_, fun _ _ z => z, fun _ _ z => z, fun _ _ _ z => z.elim⟩
    have e : r = .val (.bl true) := e
    subst e
    exact ⟨rfl, by rw [List.length_nil, List.take_zero]; exact ⟨rfl, h4⟩⟩
end Pl
namespace Pl
open PySem L2 PyProof.Rows
@[reducible] def frOf {K : PySem.W.Frag} {h : Heap} (_ : K.In h) : PySem.W.Frag := K
end Pl

/-! Pl13: more operations -/
namespace Pl
open PySem L2 PyProof.Rows
section
variable {C : Ctx} {E : ER} {Γ : Env} {Λ : Cells} {a b : Expr} {pos : Pos}
/-- xs + ys of lists, a new list -/
theorem wn_add {P : List D → Cells → Prop} (h : WE C E Γ Λ a fun x Λ1 => WE C E Γ Λ1 b fun y Λ2 => ∃ xs ys, vw Λ2 x = .lst xs ∧ vw Λ2 y = .lst ys ∧ xs.length + ys.length ≤ sizeLine ∧ P (xs ++ ys) Λ2) : WN C E Γ Λ (.BinOp a .Add b pos) P := fun X F W is tk => by
  refine pe_imp (pe_op op_cat pe_U pe_U) fun σ H Q ⟨B, α, S, q, er⟩ => ?_
  refine WE.use h is tk S er fun x Λ1 vx B1 α1 H1 p1 S1 e1 f1 r1 => ?_
  refine WE.use p1 is tk S1 (er.mono e1) fun y Λ2 vy B2 α2 H2 p2 S2 e2 f2 r2 => ?_
  obtain ⟨xs, ys, hx, hy, hl, p⟩ := p2
  obtain ⟨p1, vs, rfl, h1, h2⟩ := S2.lst (r1.mono e2 f2) hx
  obtain ⟨p2, ws, rfl, g1, g2⟩ := S2.lst r2 hy
  refine ⟨p1, p2, vs, ws, rfl, rfl, h1, g1, by rw [h2.length, g2.length]; exact hl, fun t ht => ?_⟩
  exact q _ Λ2 t _ B2 α2 _ p (S2.grow (Ex.new ht)) (e1.trans e2) (f1.trans f2) upd_same (S2.bh.back ht) (S2.dm t ht) (fun ha => (S2.ah t ha).1 ht) (h2.append g2)
/-- is None, is True, is False -/
def isP (x y : D) (P : Bool → Prop) : Prop := match y with
  | .non => ∃ c, isN x = some c ∧ P c
  | .bl b => ∃ a, x = .bl a ∧ P (decide (a = b))
  | _ => False
end
/-! lists of things of one kind -/
section
variable {β : Type} {f : β → D}
end
theorem bl_eqv (a b : Bool) : PyData.eqv (py (.bl a)) (py (.bl b)) = decide (a = b) := by cases a <;> cases b <;> rfl
end Pl
namespace Pl
open PySem L2 PyProof.Rows
end Pl
namespace Pl
open PySem L2 PyProof.Rows
end Pl
namespace Pl
open PySem L2 PyProof.Rows
end Pl
namespace Pl
open PySem L2 PyProof.Rows
end Pl

/-! Pl14: dicts -/
namespace Pl
open PySem L2 PyProof.Rows
/-! ### a dict of the module -/
section
variable {C : Ctx} {E : ER} {Γ : Env} {Λ : Cells} {P : D → Cells → Prop} {pos p : Pos} {e : Expr}
end

/-! ### displays -/
section
variable {C : Ctx} {E : ER} {Γ : Env} {Λ : Cells} {pos : Pos} {X : Cx} {W : WX}
end
end Pl
namespace Pl
open PySem L2 PyProof.Rows
section
variable {C : Ctx} {E : ER} {Γ : Env} {Λ : Cells} {pos : Pos}
end
end Pl
namespace Pl
open PySem L2 PyProof.Rows
end Pl
namespace Pl
open PySem L2 PyProof.Rows
section
variable {C : Ctx} {Γ : Env} {Λ : Cells} {tg elt : Expr} {ws : List Nat} {P : List D → Prop} {acc : List D}
end
end Pl

/-! Pl15: dicts that are owned, copied, asked, held against one another -/
namespace Pl
open PySem L2 PyProof.Rows
section
variable {C : Ctx} {E : ER} {Γ : Env} {Λ : Cells} {P : D → Cells → Prop} {pos pos' p apos cpos : Pos} {e o i f : Expr}
end
/-! ### d[k] = v -/
section
variable {C : Ctx} {Γ : Env} {Λ : Cells} {R : Rs} {pos pos' : Pos} {e o i : Expr}
end
end Pl

/-! Pl16: dicts held against one another -/
namespace Pl
open PySem L2 PyProof.Rows PySem.Spec
section
variable {prog : Program} {w : World} {A : Around} {s : Shared} {Kx : Type} [DecidableEq Kx] {kd : PySem.KeyKind prog w Kx}
end
section
variable {C : Ctx} {E : ER} {Γ : Env} {Λ : Cells} {pos : Pos} {a b : Expr}
end
end Pl
namespace Pl
open PySem L2 PyProof.Rows
section
variable {C : Ctx} {E : ER} {Γ : Env} {Λ : Cells} {pos p : Pos} {β : Type} {A : β → List D} {ok : β → Prop} {R : β → Res → Prop}
end
end Pl

/-! Pl17: tuples whose items are held against one another only up to the first that differ -/
namespace Tlt
open PySem PySem.SeqAt PyProof.Rows
open PySem.AutoSeq1 (wpAny_loadPart')
open PySem.MeetsSeq PySem.MeetsSeq2 PySem.MeetsSeq3 PySem.SeqRoads2
/-- from the left: equal items are passed, the first unequal ones answer; fin where none differ -/
def LtP (A : Around) (z : Shared) (fin : Bool) : List (Value × Value) → Bool → Prop
  | [], k => k = fin
  | (x, y) :: r, k => ∃ e, EqAt A z x y e ∧ (e = true → LtP A z fin r k) ∧ (e = false → RcLt A z x y k)
theorem tup_lt (p q : Addr) (us ws : Array Value) (m1 m2 : Nat) (d1 d2 : Option Addr) (o1 o2 : Array (Option Value)) (k : Bool) :
    Meets (Builtin.«tuple.__lt__» ⟨[.ref p, .ref q], []⟩) fun A R z => z.heap.get? p = some ⟨.type "tuple", d1, .seq us m1, o1⟩ ∧ z.heap.get? q = some ⟨.type "tuple", d2, .seq ws m2, o2⟩ ∧ LtP A.in1 z (decide (us.size < ws.size)) (us.toList.zip ws.toList) k ∧ R (.ok (.ret (.bool k))) z :=
  .of_wp fun pr w A R z hyp => by
    obtain ⟨hh, gg, dd, tt, oo⟩ := z; obtain ⟨hp, hq, hL, hR⟩ := hyp
    have sub := AutoSeq1.sub_tuple_tuple
    wp_walk using wpAny_loadPart' hp, wpAny_loadPart' hq, wpAny_forIn_list _ (fun tl c z' => c.1 = none ∧ z' = ⟨hh, gg, dd, tt, oo⟩ ∧ LtP A.in1 ⟨hh, gg, dd, tt, oo⟩ (decide (us.size < ws.size)) tl k) _
    case turn =>
      rintro ⟨x, y⟩ tl c z' ⟨hc, rfl, e, he, h1, h2⟩
      refine wpAny_bind (he pr w _ _ ?_)
      cases e with
      | true =>
        wp_walk
        exact ⟨rfl, rfl, h1 rfl⟩
      | false =>
        have hr := h2 rfl pr w
        generalize PySem.richCompare CmpOp.Lt x y = m at hr ⊢
        wp_walk
        refine hr _ _ ?_
        wp_walk
        exact ⟨_, rfl, hR⟩
    case fin =>
      rintro ⟨c1, c2⟩ z' ⟨hc, rfl, hL'⟩
      simp only at hc
      subst hc
      have hk : k = decide (us.size < ws.size) := hL'
      subst hk
      wp_walk
      exact ⟨_, rfl, by simpa [Builtin.Tuple.tupleCompareSizes] using hR⟩
    case h =>
      exact ⟨rfl, rfl, hL⟩
theorem rc_tup {A : Around} {z : Shared} {p q : Addr} {us ws : Array Value} {k : Bool} (hp : z.heap.IsTuple p us) (hq : z.heap.IsTuple q ws) (hu : A.units < cLine) (hL : LtP A.in1 z (decide (us.size < ws.size)) (us.toList.zip ws.toList) k) : RcLt A z (.ref p) (.ref q) k := fun pr w E Q h => by
  obtain ⟨⟨c1, d1, t1, o1⟩, g1, e1, m1, f1⟩ := hp
  obtain ⟨⟨c2, d2, t2, o2⟩, g2, e2, m2, f2⟩ := hq
  simp only at e1 f1 e2 f2
  subst e1 f1 e2 f2
  exact richCompare_meets_room (op := .Lt) ⟨_, g1, rfl⟩ ⟨_, g2, rfl⟩ F.slot_tuple_lt F.entry_tuple_lt (F.args_tuple_lt_2 _ _) (tup_lt p q us ws m1 m2 d1 d2 o1 o2 k) ⟨g1, g2, hL, show Value.bool k ≠ Value.notImplemented ∧ Q (.bool k) z from ⟨(fun x => nomatch x), h⟩⟩ hu
end Tlt

/-! Pl18: == through cells, list.clear -/
namespace Pl
open PySem L2 PyProof.Rows
/-! ### a datum with its cells looked through -/
mutual
def dv (Λ : Cells) : D → D
  | .loc n => match Λ[n]? with
    | some (.lst ds) => .lst ds
    | _ => .loc n
  | .tup ds => .tup (dvs Λ ds)
  | .lst ds => .lst (dvs Λ ds)
  | .fzl ds => .fzl (dvs Λ ds)
  | d => d
def dvs (Λ : Cells) : List D → List D
  | [] => []
  | d :: ds => dv Λ d :: dvs Λ ds
end
section
variable {K : PySem.W.Frag} {F : Fm} {B : Hp} {α : List Addr} {Γ : Env} {Λ : Cells} {σ : L2.St} {H : Hp}
end
section
variable {C : Ctx} {E : ER} {Γ : Env} {Λ : Cells} {pos apos cpos : Pos} {a b o : Expr}
end
end Pl
namespace Pl
open PySem L2 PyProof.Rows
/-! ### comprehensions whose items are told by a word only -/
inductive All2 {β γ : Type} (R : β → γ → Prop) : List β → List γ → Prop
  | nil : All2 R [] []
  | cons {x y xs ys} : R x y → All2 R xs ys → All2 R (x :: xs) (y :: ys)
theorem All2.len {β γ : Type} {R : β → γ → Prop} {xs : List β} {ys : List γ} (h : All2 R xs ys) : xs.length = ys.length := by
  induction h with
  | nil => rfl
  | cons _ _ ih => simp [ih]
section
variable {C : Ctx} {Γ : Env} {Λ : Cells} {tg elt : Expr} {ws : List Nat} {P : List D → Prop} {β γ : Type}
end
end Pl
namespace Pl
open PySem L2
end Pl
namespace Pl
open PySem L2
end Pl
namespace Pl
open PySem L2
end Pl

namespace Law
open PySem L2 Pl
/-- a letter -/
inductive Lt | p | q | r
  deriving DecidableEq
def Lt.s : Lt → Str | .p => "p" | .q => "q" | .r => "r"
inductive Bop | and | or | iff
  deriving DecidableEq
def Bop.s : Bop → Str | .and => "and" | .or => "or" | .iff => "if"
/-- a saying -/
inductive Sy
  | no | lt (l : Lt) | not (a : Sy) | shown (a : Sy) | bin (o : Bop) (a b : Sy)
  deriving DecidableEq
namespace Sy
def pv : Sy → D
  | no => .tup [.str "no"]
  | lt l => .tup [.str "letter", .str l.s]
  | not a => .tup [.str "not", a.pv]
  | shown a => .tup [.str "shown", a.pv]
  | bin o a b => .tup [.str o.s, a.pv, b.pv]
def size : Sy → Nat
  | no => 1
  | lt _ => 1
  | not a => 1 + a.size
  | shown a => 1 + a.size
  | bin _ a b => 1 + a.size + b.size
def kids : Sy → List Sy
  | no => []
  | lt _ => []
  | not a => [a]
  | shown a => [a]
  | bin _ a b => [a, b]
/-- nesting -/
def ht : Sy → Nat
  | no => 1
  | lt _ => 1
  | not a => 1 + a.ht
  | shown a => 1 + a.ht
  | bin _ a b => 1 + max a.ht b.ht
theorem ht_size : ∀ s : Sy, s.ht ≤ s.size
  | no => Nat.le_refl _
  | lt _ => Nat.le_refl _
  | not a => Nat.add_le_add_left (ht_size a) 1
  | shown a => Nat.add_le_add_left (ht_size a) 1
  | bin _ a b => by have := ht_size a; have := ht_size b; simp only [ht, size]; omega
theorem ht_pos (s : Sy) : 1 ≤ s.ht := by cases s <;> simp [ht] <;> omega
end Sy
namespace Sy
theorem pv_plain : ∀ s : Sy, (py s.pv).plain = true
  | no => rfl
  | lt _ => rfl
  | not a => by show (PyData.tuple [.str "not", py a.pv]).plain = true; simp [PyData.plain, PyData.plainAll, pv_plain a]
  | shown a => by show (PyData.tuple [.str "shown", py a.pv]).plain = true; simp [PyData.plain, PyData.plainAll, pv_plain a]
  | bin o a b => by show (PyData.tuple [.str o.s, py a.pv, py b.pv]).plain = true; simp [PyData.plain, PyData.plainAll, pv_plain a, pv_plain b]
theorem pv_depth : ∀ s : Sy, (py s.pv).depth ≤ s.ht
  | no => by show (PyData.tuple [.str "no"]).depth ≤ 1; simp [PyData.depth, PyData.depthAll]
  | lt l => by show (PyData.tuple [.str "letter", .str l.s]).depth ≤ 1; simp [PyData.depth, PyData.depthAll]
  | not a => by
    have := pv_depth a
    show (PyData.tuple [.str "not", py a.pv]).depth ≤ 1 + a.ht
    simp only [PyData.depth, PyData.depthAll]; omega
  | shown a => by
    have := pv_depth a
    show (PyData.tuple [.str "shown", py a.pv]).depth ≤ 1 + a.ht
    simp only [PyData.depth, PyData.depthAll]; omega
  | bin o a b => by
    have := pv_depth a
    have := pv_depth b
    show (PyData.tuple [.str o.s, py a.pv, py b.pv]).depth ≤ 1 + max a.ht b.ht
    simp only [PyData.depth, PyData.depthAll]; omega
theorem pv_tup : ∀ s : Sy, ∃ ds, s.pv = .tup ds
  | no => ⟨_, rfl⟩
  | lt _ => ⟨_, rfl⟩
  | not _ => ⟨_, rfl⟩
  | shown _ => ⟨_, rfl⟩
  | bin _ _ _ => ⟨_, rfl⟩
end Sy
/-! what the builders take out of their lists -/
/-- the parts of a stack, all together -/
def tot (st : List Sy) : Nat := (st.map Sy.size).sum
theorem tot_snoc (st : List Sy) (y : Sy) : tot (st ++ [y]) = tot st + y.size := by simp [tot]
theorem size_pos (s : Sy) : 1 ≤ s.size := by cases s <;> simp [Sy.size] <;> omega
theorem len_tot (st : List Sy) : st.length ≤ tot st := by
  induction st with
  | nil => simp [tot]
  | cons a st ih => have := size_pos a; simp only [tot, List.map_cons, List.sum_cons, List.length_cons] at *; omega
end Law

/-! Ss: the order of sayings -/
namespace Law
open PySem L2 Pl
/-! ### an order of lists of numbers -/
def lexN : List Nat → List Nat → Bool
  | [], [] => false
  | [], _ :: _ => true
  | _ :: _, [] => false
  | a :: x, b :: y => if a = b then lexN x y else decide (a < b)
theorem lexN_self : ∀ x, lexN x x = false
  | [] => rfl
  | a :: x => by rw [lexN, if_pos rfl, lexN_self x]
theorem lexN_asym : ∀ x y, lexN x y = true → lexN y x = false
  | [], [], h => by cases h
  | [], _ :: _, _ => rfl
  | _ :: _, [], h => by cases h
  | a :: x, b :: y, h => by
    rw [lexN] at h ⊢
    by_cases e : a = b
    · rw [if_pos e] at h; rw [if_pos e.symm]; exact lexN_asym x y h
    · rw [if_neg e] at h; rw [if_neg (fun z => e z.symm)]
      have := of_decide_eq_true h
      exact decide_eq_false (by omega)
theorem lexN_tot : ∀ x y, lexN x y = false → lexN y x = false → x = y
  | [], [], _, _ => rfl
  | [], _ :: _, h, _ => by cases h
  | _ :: _, [], _, h => by cases h
  | a :: x, b :: y, h, g => by
    rw [lexN] at h g
    by_cases e : a = b
    · rw [if_pos e] at h; rw [if_pos e.symm] at g; rw [e, lexN_tot x y h g]
    · rw [if_neg e] at h; rw [if_neg (fun z => e z.symm)] at g
      have := of_decide_eq_false h
      have := of_decide_eq_false g
      omega
theorem lexN_trans : ∀ x y z, lexN x y = true → lexN y z = true → lexN x z = true
  | [], [], _, h, _ => by cases h
  | [], _ :: _, [], _, h => by cases h
  | [], _ :: _, _ :: _, _, _ => rfl
  | _ :: _, [], _, h, _ => by cases h
  | _ :: _, _ :: _, [], _, h => by cases h
  | a :: x, b :: y, c :: z, h, g => by
    rw [lexN] at h g ⊢
    by_cases e : a = b
    · rw [if_pos e] at h
      subst e
      by_cases e2 : a = c
      · rw [if_pos e2] at g ⊢; exact lexN_trans x y z h g
      · rw [if_neg e2] at g ⊢; exact g
    · rw [if_neg e] at h
      have h1 := of_decide_eq_true h
      by_cases e2 : b = c
      · subst e2; rw [if_neg e]; exact h
      · rw [if_neg e2] at g
        have h2 := of_decide_eq_true g
        rw [if_neg (by omega)]; exact decide_eq_true (by omega)
namespace Sy
def ix : Sy → Nat
  | bin .and _ _ => 0
  | bin .iff _ _ => 1
  | lt _ => 2
  | no => 3
  | not _ => 4
  | bin .or _ _ => 5
  | shown _ => 6
def _root_.Law.Lt.ix : Lt → Nat | .p => 0 | .q => 1 | .r => 2
/-- a code without prefixes -/
def code : Sy → List Nat
  | no => [3]
  | lt l => [2, l.ix]
  | not a => 4 :: code a
  | shown a => 6 :: code a
  | bin o a b => (bin o no no).ix :: (code a ++ code b)
def ltS (s t : Sy) : Bool := lexN (code s) (code t)
theorem code_app : ∀ (s t : Sy) (p q : List Nat), lexN (code s ++ p) (code t ++ q) = if s = t then lexN p q else ltS s t := by
  intro s
  induction s with
  | no =>
    intro t p q
    cases t with
    | no => simp [code, lexN]
    | bin o a b => cases o <;> simp [code, ltS, lexN, ix]
    | _ => simp [code, ltS, lexN]
  | lt l =>
    intro t p q
    cases t with
    | lt m => cases l <;> cases m <;> simp [code, ltS, lexN, Lt.ix]
    | bin o a b => cases o <;> simp [code, ltS, lexN, ix]
    | _ => simp [code, ltS, lexN]
  | not a ih =>
    intro t p q
    cases t with
    | not b => simp only [code, ltS, List.cons_append, lexN, if_true, ih b p q]; by_cases e : a = b <;> simp [e, ltS]
    | bin o a b => cases o <;> simp [code, ltS, lexN, ix]
    | _ => simp [code, ltS, lexN]
  | shown a ih =>
    intro t p q
    cases t with
    | shown b => simp only [code, ltS, List.cons_append, lexN, if_true, ih b p q]; by_cases e : a = b <;> simp [e, ltS]
    | bin o a b => cases o <;> simp [code, ltS, lexN, ix]
    | _ => simp [code, ltS, lexN]
  | bin o a b iha ihb =>
    intro t p q
    cases t with
    | bin o' a' b' =>
      by_cases eo : o = o'
      · subst eo
        simp only [code, ltS, List.cons_append, List.append_assoc, lexN, if_true, iha, ihb]
        by_cases e : a = a'
        · subst e
          by_cases e2 : b = b'
          · subst e2; simp
          · simp [e2]
        · simp [e]
      · have : ¬ (bin o no no).ix = (bin o' no no).ix := by cases o <;> cases o' <;> simp [ix] <;> exact eo rfl
        simp only [code, ltS, List.cons_append, lexN, if_neg this]
        rw [if_neg (by intro z; injection z with z1; exact eo z1)]
    | _ => cases o <;> simp [code, ltS, lexN, ix]
theorem ltS_kid (n : Nat) (a b : Sy) : lexN (n :: code a) (n :: code b) = ltS a b := by rw [lexN, if_pos rfl]; rfl
theorem code_inj {s t : Sy} (h : code s = code t) : s = t := by
  by_cases e : s = t
  · exact e
  · exfalso
    have h1 := code_app s t [] [0]
    have h2 := code_app s t [0] []
    rw [if_neg e] at h1 h2
    rw [h] at h1 h2
    have h3 := code_app t t [] [0]
    have h4 := code_app t t [0] []
    rw [if_pos rfl] at h3 h4
    rw [h3] at h1
    rw [h4] at h2
    rw [← h1] at h2
    cases h2
theorem ltS_tot {s t : Sy} (h : ltS s t = false) (g : ltS t s = false) : s = t := code_inj (lexN_tot _ _ h g)
/-! ### == of sayings -/
theorem strs_eqv (x y : Str) : PyData.eqv (.str x) (.str y) = decide (x = y) := by
  rw [PyData.eqv]
  by_cases e : x = y
  · subst e; simp
  · simp [e]
theorem lt_s_inj {a b : Lt} : a.s = b.s ↔ a = b := by
  constructor
  · intro h; cases a <;> cases b <;> first | rfl | (exfalso; revert h; decide)
  · rintro rfl; rfl
theorem eqv_pv : ∀ s t : Sy, PyData.eqv (py s.pv) (py t.pv) = decide (s = t) := by
  intro s
  induction s with
  | no =>
    intro t
    cases t with
    | bin o a b => cases o <;> (show PyData.eqv (.tuple [.str _]) (.tuple [.str _, _, _]) = _; simp [PyData.eqv, PyData.eqvAll])
    | no => show PyData.eqv (.tuple [.str "no"]) (.tuple [.str "no"]) = _; simp [PyData.eqv, PyData.eqvAll]
    | lt l => show PyData.eqv (.tuple [.str _]) (.tuple [.str _, _]) = _; simp [PyData.eqv, PyData.eqvAll]
    | not l => show PyData.eqv (.tuple [.str _]) (.tuple [.str _, _]) = _; simp [PyData.eqv, PyData.eqvAll]
    | shown l => show PyData.eqv (.tuple [.str _]) (.tuple [.str _, _]) = _; simp [PyData.eqv, PyData.eqvAll]
  | lt l =>
    intro t
    cases t with
    | bin o a b => show PyData.eqv (.tuple [.str _, _]) (.tuple [.str _, _, _]) = _; simp [PyData.eqv, PyData.eqvAll]
    | no => show PyData.eqv (.tuple [.str _, _]) (.tuple [.str _]) = _; simp [PyData.eqv, PyData.eqvAll]
    | lt m => cases l <;> cases m <;> rfl
    | not a => show PyData.eqv (.tuple [.str "letter", _]) (.tuple [.str "not", _]) = _; simp [PyData.eqv, PyData.eqvAll]; intro h; exact absurd h (by decide)
    | shown a => show PyData.eqv (.tuple [.str "letter", _]) (.tuple [.str "shown", _]) = _; simp [PyData.eqv, PyData.eqvAll]; intro h; exact absurd h (by decide)
  | not x ih =>
    intro t
    cases t with
    | bin o a b => show PyData.eqv (.tuple [.str _, _]) (.tuple [.str _, _, _]) = _; simp [PyData.eqv, PyData.eqvAll]
    | no => show PyData.eqv (.tuple [.str _, _]) (.tuple [.str _]) = _; simp [PyData.eqv, PyData.eqvAll]
    | lt m => show PyData.eqv (.tuple [.str "not", _]) (.tuple [.str "letter", _]) = _; simp [PyData.eqv, PyData.eqvAll]; intro h; exact absurd h (by decide)
    | not a => show PyData.eqv (.tuple [.str "not", py x.pv]) (.tuple [.str "not", py a.pv]) = _; simp [PyData.eqv, PyData.eqvAll, ih]
    | shown a => show PyData.eqv (.tuple [.str "not", _]) (.tuple [.str "shown", _]) = _; simp [PyData.eqv, PyData.eqvAll]; intro h; exact absurd h (by decide)
  | shown x ih =>
    intro t
    cases t with
    | bin o a b => show PyData.eqv (.tuple [.str _, _]) (.tuple [.str _, _, _]) = _; simp [PyData.eqv, PyData.eqvAll]
    | no => show PyData.eqv (.tuple [.str _, _]) (.tuple [.str _]) = _; simp [PyData.eqv, PyData.eqvAll]
    | lt m => show PyData.eqv (.tuple [.str "shown", _]) (.tuple [.str "letter", _]) = _; simp [PyData.eqv, PyData.eqvAll]; intro h; exact absurd h (by decide)
    | not a => show PyData.eqv (.tuple [.str "shown", _]) (.tuple [.str "not", _]) = _; simp [PyData.eqv, PyData.eqvAll]; intro h; exact absurd h (by decide)
    | shown a => show PyData.eqv (.tuple [.str "shown", py x.pv]) (.tuple [.str "shown", py a.pv]) = _; simp [PyData.eqv, PyData.eqvAll, ih]
  | bin o x y ihx ihy =>
    intro t
    cases t with
    | bin o' a b =>
      show PyData.eqv (.tuple [.str o.s, py x.pv, py y.pv]) (.tuple [.str o'.s, py a.pv, py b.pv]) = _
      have ho : (o.s = o'.s) ↔ o = o' := by
        constructor
        · intro h; cases o <;> cases o' <;> first | rfl | (exfalso; revert h; decide)
        · rintro rfl; rfl
      simp [PyData.eqv, PyData.eqvAll, ihx, ihy]
      by_cases e1 : o = o' <;> by_cases e2 : x = a <;> by_cases e3 : y = b <;> simp [e1, e2, e3, ho]
    | no => show PyData.eqv (.tuple [.str _, _, _]) (.tuple [.str _]) = _; simp [PyData.eqv, PyData.eqvAll]
    | lt m => show PyData.eqv (.tuple [.str _, _, _]) (.tuple [.str _, _]) = _; simp [PyData.eqv, PyData.eqvAll]
    | not a => show PyData.eqv (.tuple [.str _, _, _]) (.tuple [.str _, _]) = _; simp [PyData.eqv, PyData.eqvAll]
    | shown a => show PyData.eqv (.tuple [.str _, _, _]) (.tuple [.str _, _]) = _; simp [PyData.eqv, PyData.eqvAll]
end Sy
end Law

/-! Ss2: < of sayings, as the model reckons it -/
namespace Law
open PySem L2 Pl PySem.SeqAt PyProof.Rows PySem.W
namespace Sy
def wS : Nat → Str | 0 => "and" | 1 => "if" | 2 => "letter" | 3 => "no" | 4 => "not" | 5 => "or" | _ => "shown"
def kd : Sy → List PyData
  | no => []
  | lt l => [.str l.s]
  | not a => [py a.pv]
  | shown a => [py a.pv]
  | bin _ a b => [py a.pv, py b.pv]
def kc : Sy → List Nat
  | no => []
  | lt l => [l.ix]
  | not a => code a
  | shown a => code a
  | bin _ a b => code a ++ code b
theorem py_kd (s : Sy) : py s.pv = .tuple (.str (wS s.ix) :: kd s) := by
  cases s with
  | bin o a b => cases o <;> rfl
  | _ => rfl
theorem code_kc (s : Sy) : code s = s.ix :: kc s := by
  cases s with
  | bin o a b => cases o <;> rfl
  | _ => rfl
theorem ix_lt (s : Sy) : s.ix < 7 := by
  cases s with
  | bin o a b => cases o <;> simp [ix]
  | _ => simp [ix]
theorem wS_lt : ∀ i, i < 7 → ∀ j, j < 7 → decide ((wS i).cps.toList < (wS j).cps.toList) = decide (i < j) := by decide +kernel
theorem wS_eq : ∀ i, i < 7 → ∀ j, j < 7 → decide (wS i = wS j) = decide (i = j) := by decide +kernel
theorem lt_word {s t : Sy} (h : s.ix ≠ t.ix) : decide ((wS s.ix).cps.toList < (wS t.ix).cps.toList) = ltS s t := by
  rw [wS_lt _ (ix_lt s) _ (ix_lt t), ltS, code_kc s, code_kc t, lexN, if_neg h]
section
variable {A : Around} {z : Shared}
theorem eqStr {x y : Str} {v u : Value} {as bs : List Addr} (hv : Reads z.heap v (.str x) as) (hu : Reads z.heap u (.str y) bs) (hA : A.units < cLine) : EqAt A z v u (decide (x = y)) := by
  have := eqAt_plain (.str x) (.str y) A z v u as bs hv hu rfl rfl (by simpa [PyData.depth] using hA)
  rw [strs_eqv] at this; exact this
theorem rcStr {x y : Str} {v u : Value} {as bs : List Addr} (hv : Reads z.heap v (.str x) as) (hu : Reads z.heap u (.str y) bs) (hA : A.units < cLine) : RcLt A z v u (decide (x.cps.toList < y.cps.toList)) := by
  have := rcLt_alike (.str x) (.str y) A z v u as bs hv hu rfl (by simp) (by simpa [PyData.depth] using hA)
  rw [dataLt_str] at this; exact this
theorem eqSy {s t : Sy} {v u : Value} {as bs : List Addr} (hv : Reads z.heap v (py s.pv) as) (hu : Reads z.heap u (py t.pv) bs) (hA : A.units + s.ht < cLine) : EqAt A z v u (decide (s = t)) := by
  have := eqAt_plain _ _ A z v u as bs hv hu (pv_plain s) (pv_plain t) (by have := pv_depth s; omega)
  rw [eqv_pv] at this; exact this
theorem rcs : ∀ (n : Nat) (s t : Sy), s.ht ≤ n → ∀ (A : Around) (v u : Value) (as bs : List Addr), Reads z.heap v (py s.pv) as → Reads z.heap u (py t.pv) bs → A.units + n + 2 < cLine → RcLt A z v u (ltS s t) := by
  intro n
  induction n with
  | zero => intro s t h; have := ht_pos s; omega
  | succ n ih =>
    intro s t hs A v u as bs hv hu hA
    have hA' : A.in1.units = A.units + 1 := rfl
    rw [py_kd] at hv hu
    cases hv with
    | @tuple l o us m _ as₁ h1 h2 h3 h4 =>
      cases hu with
      | @tuple l' o' ws m' _ bs₁ k1 k2 k3 k4 =>
        refine Tlt.rc_tup ⟨_, h1, h2, _, h3⟩ ⟨_, k1, k2, _, k3⟩ (by omega) ?_
        have n1 : us.size = (PyData.str (wS s.ix) :: kd s).length := by simpa using ReadsAll.length _ _ _ h4
        have n2 : ws.size = (PyData.str (wS t.ix) :: kd t).length := by simpa using ReadsAll.length _ _ _ k4
        rw [n1, n2]
        generalize us.toList = xs at h4
        generalize ws.toList = ys at k4
        cases h4 with
        | cons r rs =>
          cases k4 with
          | cons r' rs' =>
            refine ⟨_, eqStr r r' (by omega), fun e => ?_, fun e => ?_⟩
            · have e1 : s.ix = t.ix := of_decide_eq_true (by rw [← wS_eq _ (ix_lt s) _ (ix_lt t)]; exact e)
              have shape : ∀ {a b : Sy} {vs ws : List Value} {as bs : List Addr}, ReadsAll z.heap vs [py a.pv] as → ReadsAll z.heap ws [py b.pv] bs → a.ht ≤ n → Tlt.LtP A.in1 z false (vs.zip ws) (ltS a b) := fun {a b vs ws as bs} rs rs' c3 => by
                cases rs with
                | cons q qs =>
                  cases rs' with
                  | cons q' qs' =>
                    cases qs
                    cases qs'
                    refine ⟨_, eqSy q q' (by omega), fun f => ?_, fun f => ih a b c3 A.in1 _ _ _ _ q q' (by omega)⟩
                    have : a = b := of_decide_eq_true f
                    subst this
                    show ltS a a = _
                    rw [ltS, lexN_self]
              cases s with
              | no =>
                cases t with
                | no => cases rs; cases rs'; show ltS no no = _; rfl
                | bin o a b => cases o <;> simp [ix] at e1
                | _ => simp [ix] at e1
              | lt x =>
                cases t with
                | lt y =>
                  cases rs with
                  | cons q qs =>
                    cases rs' with
                    | cons q' qs' =>
                      cases qs
                      cases qs'
                      refine ⟨_, eqStr q q' (by omega), fun f => ?_, fun f => ?_⟩
                      · have : x = y := lt_s_inj.mp (of_decide_eq_true f)
                        subst this
                        show ltS (lt x) (lt x) = _
                        rw [ltS, lexN_self]; rfl
                      · have := rcStr q q' (A := A.in1) (z := z) (by omega)
                        have e2 : decide (x.s.cps.toList < y.s.cps.toList) = ltS (lt x) (lt y) := by cases x <;> cases y <;> decide +kernel
                        rw [e2] at this; exact this
                | bin o a b => cases o <;> simp [ix] at e1
                | _ => simp [ix] at e1
              | not a =>
                cases t with
                | not b => rw [show ltS (not a) (not b) = ltS a b from ltS_kid 4 a b]; exact shape rs rs' (by simp only [ht] at hs; omega)
                | bin o a b => cases o <;> simp [ix] at e1
                | _ => simp [ix] at e1
              | shown a =>
                cases t with
                | shown b => rw [show ltS (shown a) (shown b) = ltS a b from ltS_kid 6 a b]; exact shape rs rs' (by simp only [ht] at hs; omega)
                | bin o a b => cases o <;> simp [ix] at e1
                | _ => simp [ix] at e1
              | bin o a b =>
                cases t with
                | bin o' a' b' =>
                  have eo : o = o' := by cases o <;> cases o' <;> first | rfl | (simp [ix] at e1)
                  subst eo
                  have hs' : a.ht ≤ n ∧ b.ht ≤ n := by simp only [ht] at hs; omega
                  have e3 : ltS (bin o a b) (bin o a' b') = if a = a' then ltS b b' else ltS a a' := by
                    rw [ltS, code, code, lexN, if_pos rfl, code_app]; rfl
                  cases rs with
                  | cons q qs =>
                    cases rs' with
                    | cons q' qs' =>
                      cases qs with
                      | cons p ps =>
                        cases qs' with
                        | cons p' ps' =>
                          cases ps
                          cases ps'
                          rw [e3]
                          refine ⟨_, eqSy q q' (by omega), fun f => ?_, fun f => ?_⟩
                          · rw [if_pos (of_decide_eq_true f)]
                            refine ⟨_, eqSy p p' (by omega), fun g => ?_, fun g => ih b b' hs'.2 A.in1 _ _ _ _ p p' (by omega)⟩
                            have : b = b' := of_decide_eq_true g
                            subst this
                            show ltS b b = _
                            rw [ltS, lexN_self]; rfl
                          · rw [if_neg (of_decide_eq_false f)]
                            exact ih a a' hs'.1 A.in1 _ _ _ _ q q' (by omega)
                | _ => cases o <;> simp [ix] at e1
            · have e1 : s.ix ≠ t.ix := of_decide_eq_false (by rw [← wS_eq _ (ix_lt s) _ (ix_lt t)]; exact e)
              have := rcStr r r' (A := A.in1) (z := z) (by omega)
              rw [lt_word e1] at this; exact this
end
end Sy
end Law

/-! Ss3: sorted() of sayings -/
namespace Law
open PySem L2 Pl PySem.SeqAt PyProof.Rows PySem.W
namespace Sy
section
variable {A : Around} {z : Shared}
theorem kidsP {s t : Sy} {vs ws : List Value} {as bs : List Addr} (e1 : s.ix = t.ix) (rs : ReadsAll z.heap vs (kd s) as) (rs' : ReadsAll z.heap ws (kd t) bs) (hA : A.units + s.ht + 4 < cLine) : Tlt.LtP A z false (vs.zip ws) (ltS s t) := by
  have shape : ∀ {a b : Sy} {vs ws : List Value} {as bs : List Addr}, ReadsAll z.heap vs [py a.pv] as → ReadsAll z.heap ws [py b.pv] bs → a.ht ≤ s.ht → Tlt.LtP A z false (vs.zip ws) (ltS a b) := fun {a b vs ws as bs} rs rs' c3 => by
    cases rs with
    | cons q qs =>
      cases rs' with
      | cons q' qs' =>
        cases qs
        cases qs'
        refine ⟨_, eqSy q q' (by omega), fun f => ?_, fun f => rcs a.ht a b (Nat.le_refl _) A _ _ _ _ q q' (by omega)⟩
        have : a = b := of_decide_eq_true f
        subst this
        show ltS a a = _
        rw [ltS, lexN_self]
  cases s with
  | no =>
    cases t with
    | no => cases rs; cases rs'; rfl
    | bin o a b => cases o <;> simp [ix] at e1
    | _ => simp [ix] at e1
  | lt x =>
    cases t with
    | lt y =>
      cases rs with
      | cons q qs =>
        cases rs' with
        | cons q' qs' =>
          cases qs
          cases qs'
          refine ⟨_, eqStr q q' (by omega), fun f => ?_, fun f => ?_⟩
          · have : x = y := lt_s_inj.mp (of_decide_eq_true f)
            subst this
            show ltS (lt x) (lt x) = _
            rw [ltS, lexN_self]
          · have := rcStr q q' (A := A) (z := z) (by omega)
            have e2 : decide (x.s.cps.toList < y.s.cps.toList) = ltS (lt x) (lt y) := by cases x <;> cases y <;> decide +kernel
            rw [e2] at this; exact this
    | bin o a b => cases o <;> simp [ix] at e1
    | _ => simp [ix] at e1
  | not a =>
    cases t with
    | not b => rw [show ltS (not a) (not b) = ltS a b from ltS_kid 4 a b]; exact shape rs rs' (by simp only [ht]; omega)
    | bin o a b => cases o <;> simp [ix] at e1
    | _ => simp [ix] at e1
  | shown a =>
    cases t with
    | shown b => rw [show ltS (shown a) (shown b) = ltS a b from ltS_kid 6 a b]; exact shape rs rs' (by simp only [ht]; omega)
    | bin o a b => cases o <;> simp [ix] at e1
    | _ => simp [ix] at e1
  | bin o a b =>
    cases t with
    | bin o' a' b' =>
      have eo : o = o' := by cases o <;> cases o' <;> first | rfl | (simp [ix] at e1)
      subst eo
      have e3 : ltS (bin o a b) (bin o a' b') = if a = a' then ltS b b' else ltS a a' := by
        rw [ltS, code, code, lexN, if_pos rfl, code_app]; rfl
      simp only [ht] at hA
      cases rs with
      | cons q qs =>
        cases rs' with
        | cons q' qs' =>
          rw [e3]
          refine ⟨_, eqSy q q' (by omega), fun f => ?_, fun f => ?_⟩
          · rw [if_pos (of_decide_eq_true f)]
            exact shape qs qs' (by simp only [ht]; omega)
          · rw [if_neg (of_decide_eq_false f)]
            exact rcs a.ht a a' (Nat.le_refl _) A _ _ _ _ q q' (by omega)
    | _ => cases o <;> simp [ix] at e1
end
def ar : Nat → Nat | 0 => 2 | 1 => 2 | 2 => 1 | 3 => 0 | 4 => 1 | 5 => 2 | _ => 1
theorem kd_len (s : Sy) : (kd s).length = ar s.ix := by
  cases s with
  | bin o a b => cases o <;> rfl
  | _ => rfl
section
variable {prog : Program} {w : World} {A : Around} {z : Shared}
theorem kat_of {fin : Bool} {Q : Bool → Shared → Prop} : ∀ (l : List (Value × Value)) (i : Nat) (k : Bool), Tlt.LtP A z fin l k → Q k z → KatLex prog w A true fin Q l (i + 1) z
  | [], i, k, h, q => by
    have h : k = fin := h
    subst h
    exact kat_nil q
  | (x, y) :: r, i, k, ⟨e, he, h1, h2⟩, q => by
    refine kat_cons (he prog w _ _ ?_)
    refine kat_go (fun e1 => kat_yes (kat_of r (i + 1) k (h1 e1) q)) fun e1 => ?_
    refine kat_no ?_
    rw [show (true && i + 1 == 0) = false from rfl]
    exact kat_one _ _ (h2 e1 prog w _ _ (show PySem.W.BoolBack Q (.bool k) z from q))
theorem cmpS {s t : Sy} {v u : Value} {as bs : List Addr} (hv : Reads z.heap v (py s.pv) as) (hu : Reads z.heap u (py t.pv) bs) (hA : A.units + s.ht + 4 < cLine) :
    wpAny (model prog w) A (keyLt' (tuples' true) v u) (fun r z' => z' = z ∧ r = ltS s t) (fun _ _ => False) z := by
  rw [py_kd] at hv hu
  cases hv with
  | @tuple l o us m _ as₁ h1 h2 h3 h4 =>
    cases hu with
    | @tuple l' o' ws m' _ bs₁ k1 k2 k3 k4 =>
      have n1 : us.size = (PyData.str (wS s.ix) :: kd s).length := by simpa using ReadsAll.length _ _ _ h4
      have n2 : ws.size = (PyData.str (wS t.ix) :: kd t).length := by simpa using ReadsAll.length _ _ _ k4
      refine kat_lt h1 h3 k1 k3 ?_
      rw [n1, n2]
      generalize us.toList = xs at h4
      generalize ws.toList = ys at k4
      cases h4 with
      | cons r rs =>
        cases k4 with
        | cons r' rs' =>
          refine kat_cons (eqStr (A := A) r r' (by omega) prog w _ _ ?_)
          refine kat_go (fun e => kat_yes ?_) fun e => kat_no ?_
          · have e1 : s.ix = t.ix := of_decide_eq_true (by rw [← wS_eq _ (ix_lt s) _ (ix_lt t)]; exact e)
            have el : (PyData.str (wS s.ix) :: kd s).length = (PyData.str (wS t.ix) :: kd t).length := by
              rw [List.length_cons, List.length_cons, kd_len, kd_len, e1]
            rw [el, show decide ((PyData.str (wS t.ix) :: kd t).length < (PyData.str (wS t.ix) :: kd t).length) = false from decide_eq_false (Nat.lt_irrefl _)]
            exact kat_of _ 0 (ltS s t) (kidsP e1 rs rs' hA) ⟨rfl, rfl⟩
          · have e1 : s.ix ≠ t.ix := of_decide_eq_false (by rw [← wS_eq _ (ix_lt s) _ (ix_lt t)]; exact e)
            cases r
            cases r'
            show wpAny (model prog w) A (oneLt' true _ _) _ _ z
            exact oneLt_str ⟨rfl, lt_word e1⟩
/-! ### the sort -/
theorem ra_cons {h : Heap} {vs : List Value} {d : PyData} {ds : List PyData} {as : List Addr} (r : ReadsAll h vs (d :: ds) as) : ∃ v ws a b, vs = v :: ws ∧ as = a ++ b ∧ Reads h v d a ∧ ReadsAll h ws ds b := by
  cases r with
  | cons q qs => exact ⟨_, _, _, _, rfl, rfl, q, qs⟩
theorem ra_nil {h : Heap} {vs : List Value} {as : List Addr} (r : ReadsAll h vs [] as) : vs = [] ∧ as = [] := by cases r; exact ⟨rfl, rfl⟩
theorem reads_tup {h h' : Heap} (keep : ∀ b o, h.get? b = some o → o.cls = .type "tuple" → h'.get? b = some o) : ∀ (s : Sy) (v : Value) (as : List Addr), Reads h v (py s.pv) as → Reads h' v (py s.pv) as := by
  intro s
  have str : ∀ {x : Str} {v : Value} {as : List Addr}, Reads h v (.str x) as → Reads h' v (.str x) as := fun r => by cases r; exact .str _ _
  induction s with
  | no =>
    intro v as r
    have r : Reads h v (.tuple [.str "no"]) as := r
    show Reads h' v (.tuple [.str "no"]) as
    cases r with
    | tuple h1 h2 h3 h4 =>
      obtain ⟨v1, w1, a1, b1, e1, f1, q1, r1⟩ := ra_cons h4
      refine .tuple (keep _ _ h1 h2) h2 h3 ?_
      rw [e1, f1, (ra_nil r1).1, (ra_nil r1).2]; exact .cons (str q1) .nil
  | lt l =>
    intro v as r
    have r : Reads h v (.tuple [.str "letter", .str l.s]) as := r
    show Reads h' v (.tuple [.str "letter", .str l.s]) as
    cases r with
    | tuple h1 h2 h3 h4 =>
      obtain ⟨v1, w1, a1, b1, e1, f1, q1, r1⟩ := ra_cons h4
      obtain ⟨v2, w2, a2, b2, e2, f2, q2, r2⟩ := ra_cons r1
      refine .tuple (keep _ _ h1 h2) h2 h3 ?_
      rw [e1, f1, e2, f2, (ra_nil r2).1, (ra_nil r2).2]; exact .cons (str q1) (.cons (str q2) .nil)
  | not a ih =>
    intro v as r
    have r : Reads h v (.tuple [.str "not", py a.pv]) as := r
    show Reads h' v (.tuple [.str "not", py a.pv]) as
    cases r with
    | tuple h1 h2 h3 h4 =>
      obtain ⟨v1, w1, a1, b1, e1, f1, q1, r1⟩ := ra_cons h4
      obtain ⟨v2, w2, a2, b2, e2, f2, q2, r2⟩ := ra_cons r1
      refine .tuple (keep _ _ h1 h2) h2 h3 ?_
      rw [e1, f1, e2, f2, (ra_nil r2).1, (ra_nil r2).2]; exact .cons (str q1) (.cons (ih _ _ q2) .nil)
  | shown a ih =>
    intro v as r
    have r : Reads h v (.tuple [.str "shown", py a.pv]) as := r
    show Reads h' v (.tuple [.str "shown", py a.pv]) as
    cases r with
    | tuple h1 h2 h3 h4 =>
      obtain ⟨v1, w1, a1, b1, e1, f1, q1, r1⟩ := ra_cons h4
      obtain ⟨v2, w2, a2, b2, e2, f2, q2, r2⟩ := ra_cons r1
      refine .tuple (keep _ _ h1 h2) h2 h3 ?_
      rw [e1, f1, e2, f2, (ra_nil r2).1, (ra_nil r2).2]; exact .cons (str q1) (.cons (ih _ _ q2) .nil)
  | bin o a b iha ihb =>
    intro v as r
    have r : Reads h v (.tuple [.str o.s, py a.pv, py b.pv]) as := r
    show Reads h' v (.tuple [.str o.s, py a.pv, py b.pv]) as
    cases r with
    | tuple h1 h2 h3 h4 =>
      obtain ⟨v1, w1, a1, b1, e1, f1, q1, r1⟩ := ra_cons h4
      obtain ⟨v2, w2, a2, b2, e2, f2, q2, r2⟩ := ra_cons r1
      obtain ⟨v3, w3, a3, b3, e3, f3, q3, r3⟩ := ra_cons r2
      refine .tuple (keep _ _ h1 h2) h2 h3 ?_
      rw [e1, f1, e2, f2, e3, f3, (ra_nil r3).1, (ra_nil r3).2]; exact .cons (str q1) (.cons (iha _ _ q2) (.cons (ihb _ _ q3) .nil))
theorem firsts {h : Heap} {k : Value → Sy} : ∀ {vs : List Value}, (∀ v ∈ vs, ∃ as, Reads h v (py (k v).pv) as) → ∃ fs : List Value, KatTups h vs fs ∧ fs.length = vs.length ∧ ∀ f ∈ fs, ∃ x t, f = Value.str x t
  | [], _ => ⟨[], KatTups.nil, rfl, fun _ hm => by simp at hm⟩
  | v :: vs, hp => by
    obtain ⟨fs, h1, h2, h3⟩ := firsts (vs := vs) fun v' hm => hp v' (List.mem_cons_of_mem _ hm)
    obtain ⟨as, r⟩ := hp v List.mem_cons_self
    rw [py_kd] at r
    cases r with
    | @tuple l o us m _ as₁ g1 g2 g3 g4 =>
      generalize hx : us.toList = xs at g4
      cases g4 with
      | cons q qs =>
        cases q
        rename_i t
        refine ⟨.str _ t :: fs, KatTups.cons g1 g2 g3 (by rw [← Array.getElem?_toList, hx]; rfl) h1, by rw [List.length_cons, List.length_cons, h2], fun f hm => ?_⟩
        rcases List.mem_cons.mp hm with rfl | hm
        · exact ⟨_, t, rfl⟩
        · exact h3 f hm
theorem lex_tr {x y z : List Nat} (h1 : lexN y x = false) (h2 : lexN z y = false) : lexN z x = false := by
  cases e : lexN z x with
  | false => rfl
  | true =>
    exfalso
    cases e1 : lexN x y with
    | false =>
      rw [lexN_tot _ _ e1 h1] at e
      rw [e] at h2; cases h2
    | true =>
      have := lexN_trans _ _ _ e e1
      rw [this] at h2; cases h2
theorem swo (k : Value → Sy) : SrtO.Swo fun v u => ltS (k v) (k u) := by
  exact ⟨fun x y h => lexN_asym _ _ h, fun x y z h1 h2 => lex_tr h1 h2⟩
end
end Sy
end Law

/-! Ss4: sorted() of sayings, the rule -/
namespace Law
open PySem L2 Pl PySem.SeqAt PyProof.Rows PySem.W PySem.Spec
section
variable {prog : Program} {w : World} {A : Around} {E : Value → Shared → Prop} {s : Shared}
theorem sortableS {a : Addr} {vs : List Value} {k : Value → Sy} (h0 : 0 < vs.length) (hp : ∀ v ∈ vs, (∃ as, Reads s.heap v (py (k v).pv) as) ∧ (k v).ht ≤ 180) (hA : A.units + 190 < cLine) (ha : ∀ o, s.heap.get? a = some o → o.cls ≠ .type "tuple") :
    SrtO.SortableO prog w A s a vs fun v u => Sy.ltS (k v) (k u) := by
  intro h' keep
  have hp' : ∀ v ∈ vs, ∃ as, Reads h' v (py (k v).pv) as := fun v hm => by
    obtain ⟨⟨as, r⟩, _⟩ := hp v hm
    exact ⟨as, Sy.reads_tup (fun b o e c => keep b o (fun q => by subst q; exact ha o e c) e) _ _ _ r⟩
  obtain ⟨fs, h1, h2, h3⟩ := Sy.firsts hp'
  refine ⟨tuples' true, fun Q E hq => ?_, fun p q hm hm' => ?_⟩
  · refine kat_kind (T := .type "str") h1 (by omega) (fun f hm => ?_) (by rfl) ?_
    · obtain ⟨x, t, rfl⟩ := h3 f hm
      exact Looks.now
    · have e : (Value.type "str" != Value.type "tuple") = true := by first | decide +kernel | rfl | decide
      rw [e]
      exact hq
  · obtain ⟨as, r1⟩ := hp' _ hm
    obtain ⟨bs, r2⟩ := hp' _ hm'
    have hh : (k p.1).ht ≤ 180 := (hp p.1 hm).2
    exact Sy.cmpS (A := A) r1 r2 (by omega)
theorem sortedS {l : Addr} {vs : List Value} {k : Value → Sy} {Q : Value → Shared → Prop} (hl : s.heap.IsList l vs.toArray) (hz : vs.length ≤ sizeLine) (hp : ∀ v ∈ vs, (∃ as, Reads s.heap v (py (k v).pv) as) ∧ (k v).ht ≤ 180) (hA : A.units + 195 < cLine)
    (h : ∀ (h' : Heap) (d : Addr) (out : List Value), SrtO.Srtd (fun v u => Sy.ltS (k v) (k u)) out → SrtO.Stb (fun v u => Sy.ltS (k v) (k u)) out vs → (∀ b o, s.heap.get? b = some o → h'.get? b = some o) → s.heap.objs.size ≤ d → (∃ n, h'.get? d = some (seqObj "list" out.toArray n)) → Q (.ref d) { s with heap := h' }) :
    wpAny (model prog w) A (call (.builtin "sorted") [.ref l]) Q E s := by
  refine SrtO.sorted_ord (Sy.swo k) hl hz (fun h2 h₁ a ha kk => ?_) fun out hs hb => h _ _ out hs hb (fun b o e => sortedAll_old e) (Nat.le_succ _) (sortedAll_at s.heap vs out.toArray)
  refine sortableS (s := { s with heap := h₁ }) (by omega) (fun v hm => ?_) (by show A.units + 1 + 1 + 190 < cLine; omega) fun o e => ?_
  · obtain ⟨⟨as, r⟩, hh⟩ := hp v hm
    exact ⟨⟨as, Sy.reads_tup (fun b o e _ => (kk b o e).2) _ _ _ r⟩, hh⟩
  · have e' : some o = some (seqObj "list" vs.toArray 0) := e.symm.trans ha
    cases e'
    intro c
    exact absurd (Value.type.inj c) (by decide)
end
/-- sorted(xs) of sayings -/
def rSortS (K : PySem.W.Frag) : List V → Hp → VK → Prop := fun vs H Q => ∃ (a : Addr) (xs : List V) (k : V → Sy), vs = [V.ref a] ∧ SqL K H a xs ∧ (∀ x ∈ xs, Dp K H x (py (k x).pv) ∧ (∃ t, x = V.ref t) ∧ (k x).ht ≤ 180) ∧
  ∀ ys p, SrtO.Srtd (fun x y => Sy.ltS (k x) (k y)) ys → SrtO.Stb (fun x y => Sy.ltS (k x) (k y)) ys xs → H p = none → Q (.ref p) (upd H p (.lst ys))
theorem swoV (k : V → Sy) : SrtO.Swo fun v u => Sy.ltS (k v) (k u) := by
  exact ⟨fun x y h => lexN_asym _ _ h, fun x y z h1 h2 => Sy.lex_tr h1 h2⟩
theorem cr_sortS {X : Cx} (hu : X.A.units + 200 < cLine) : CallR X (.builtin "sorted") (rSortS X.K) := by
  intro pins s σ H vs us Q I r h
  obtain ⟨a, xs, k, rfl, hs, hx, q⟩ := h
  obtain ⟨its, rv, hl, hz⟩ := I.list hs
  obtain ⟨u, rfl, ru⟩ := vals1 r
  obtain rfl : u = Value.ref a := ru
  obtain ⟨e1, e2⟩ := refs_back rv fun x m => (hx x m).2.1
  refine sortedS (k := fun u => k (backV u)) hl.isList (by rw [← rv.length]; exact hz) (fun v hv => ?_) (by omega) fun h' d out h1 h2 kp hd hn => ?_
  · obtain ⟨t, rfl⟩ := e2 v hv
    have hm : V.ref t ∈ xs := by rw [e1]; exact List.mem_map.mpr ⟨_, hv, rfl⟩
    obtain ⟨dp, _, hh⟩ := hx _ hm
    exact ⟨Dp.reads I _ _ _ dp rfl, hh⟩
  · have h3 : ∀ u ∈ out, ∃ a, u = Value.ref a := fun u hu => e2 u (h2.perm.mem_iff.mp hu)
    obtain ⟨n, hn⟩ := hn
    have hb : SrtO.Stb (fun x y => Sy.ltS (k x) (k y)) (out.map backV) xs := by
      rw [e1]
      exact SrtO.Stb.map (swoV k) backV h2
    refine ⟨.ref d, upd H d (.lst (out.map backV)), I.laid (t' := s.toks) kp hd ⟨?_, out, n, vals_back h3, hn⟩, rfl, q _ d (SrtO.srtd_map h1) hb (I.hok.fresh hd)⟩
    rw [hb.len]
    exact hz
end Law

/-! Ss5: sorted() of sayings, told by data -/
namespace Law
open PySem L2 Pl PySem.SeqAt PyProof.Rows PySem.W PySem.Spec
def leS (s t : Sy) : Bool := !Sy.ltS t s
theorem leS_trans (a b c : Sy) (h : leS a b = true) (g : leS b c = true) : leS a c = true := by
  unfold leS at *
  rw [Bool.not_eq_true'] at *
  exact Sy.lex_tr h g
theorem leS_total (a b : Sy) : (leS a b || leS b a) = true := by
  unfold leS
  cases h : Sy.ltS b a with
  | false => rfl
  | true => have : Sy.ltS a b = false := lexN_asym _ _ h; rw [this]; rfl
theorem leS_anti {a b : Sy} (h : leS a b = true) (g : leS b a = true) : a = b := by
  unfold leS at *
  rw [Bool.not_eq_true'] at *
  exact Sy.ltS_tot g h
/-- the sayings, in their order -/
def sortS (ss : List Sy) : List Sy := ss.mergeSort leS
theorem sortS_perm (ss : List Sy) : (sortS ss).Perm ss := List.mergeSort_perm ss leS
theorem sortS_pw (ss : List Sy) : (sortS ss).Pairwise fun a b => leS a b = true := List.pairwise_mergeSort leS_trans leS_total ss
theorem sortS_uniq {l ss : List Sy} (hp : l.Perm ss) (hs : l.Pairwise fun a b => leS a b = true) : l = sortS ss :=
  List.Perm.eq_of_pairwise (le := fun a b => leS a b = true) (fun a b _ _ h g => leS_anti h g) hs (sortS_pw ss) (hp.trans (sortS_perm ss).symm)
theorem pv_inj {s t : Sy} (h : py s.pv = py t.pv) : s = t := by
  have h1 := Sy.eqv_pv s t
  rw [h, eqv_refl_plain _ (Sy.pv_plain t)] at h1
  exact of_decide_eq_true h1.symm
/-- sorted(xs) of sayings, with what each thing bears -/
def rSortT (K : PySem.W.Frag) : List V → Hp → VK → Prop := fun vs H Q => ∃ (a : Addr) (xs : List V) (ss : List Sy), vs = [V.ref a] ∧ SqL K H a xs ∧ xs.length = ss.length ∧ (∀ q ∈ xs.zip ss, Dp K H q.1 (py q.2.pv) ∧ (∃ t, q.1 = V.ref t) ∧ q.2.ht ≤ 180) ∧
  ∀ (ys : List V) p, ys.length = (sortS ss).length → (∀ q ∈ ys.zip (sortS ss), q ∈ xs.zip ss) → H p = none → Q (.ref p) (upd H p (.lst ys))
open Classical in
noncomputable def pick (l : List (V × Sy)) (x : V) : Sy := if h : ∃ s, (x, s) ∈ l then Classical.choose h else .no
theorem cr_sortT {X : Cx} (hu : X.A.units + 200 < cLine) : CallR X (.builtin "sorted") (rSortT X.K) := by
  intro pins z σ H vs us Q I r h
  obtain ⟨a, xs, ss, rfl, hs, hl, hx, q⟩ := h
  have uni : ∀ x s t, (x, s) ∈ xs.zip ss → (x, t) ∈ xs.zip ss → s = t := fun x s t h1 h2 => by
    obtain ⟨d1, ⟨c, rfl⟩, _⟩ := hx _ h1
    obtain ⟨d2, _, _⟩ := hx _ h2
    obtain ⟨as, r1⟩ := Dp.reads I _ _ (.ref c) d1 rfl
    obtain ⟨bs, r2⟩ := Dp.reads I _ _ (.ref c) d2 rfl
    exact pv_inj (plain_unique _ _ _ _ _ (Sy.pv_plain s) r1 r2)
  have pk : ∀ x s, (x, s) ∈ xs.zip ss → pick (xs.zip ss) x = s := fun x s h => by
    unfold pick
    have he : ∃ s, (x, s) ∈ xs.zip ss := ⟨s, h⟩
    rw [dif_pos he]
    exact uni x _ s (Classical.choose_spec he) h
  have inz : ∀ x ∈ xs, (x, pick (xs.zip ss) x) ∈ xs.zip ss := fun x m => by
    obtain ⟨i, hi, e⟩ := List.getElem_of_mem m
    have hm : (x, ss[i]'(by omega)) ∈ xs.zip ss := by
      rw [← e, ← List.getElem_zip (h := by rw [List.length_zip]; omega)]
      exact List.getElem_mem _
    rw [pk x _ hm]; exact hm
  have emap : xs.map (pick (xs.zip ss)) = ss := by
    apply List.ext_getElem (by rw [List.length_map, hl])
    intro i h1 h2
    rw [List.getElem_map]
    apply pk
    rw [← List.getElem_zip (h := by rw [List.length_zip, List.length_map] at *; omega)]
    exact List.getElem_mem _
  refine cr_sortS hu pins z σ H _ us Q I r ⟨a, xs, pick (xs.zip ss), rfl, hs, fun x m => hx _ (inz x m), fun ys p h1 h2 hp => ?_⟩
  have es : ys.map (pick (xs.zip ss)) = sortS ss := by
    refine sortS_uniq ?_ ?_
    · have := h2.perm.map (pick (xs.zip ss))
      rw [emap] at this; exact this
    · refine List.pairwise_map.mpr (h1.imp fun {x y} e => ?_)
      show leS _ _ = true
      unfold leS
      have e : Sy.ltS (pick (xs.zip ss) y) (pick (xs.zip ss) x) = false := e
      rw [e]; rfl
  refine q ys p (by rw [← es, List.length_map]) (fun w hw => ?_) hp
  rw [← es] at hw
  obtain ⟨i, hi, e⟩ := List.getElem_of_mem hw
  rw [List.getElem_zip, List.getElem_map] at e
  rw [← e]
  exact inz _ (h2.perm.mem_iff.mp (List.getElem_mem _))
theorem boot_sorted' : bootBuiltins "sorted" = some (.builtin "sorted") := by decide +kernel
section
variable {C : Pl.Ctx} {E : ER} {Γ : Pl.Env} {Λ : Cells} {e : Expr} {p pos : Pos}
theorem reps_zip {K : PySem.W.Frag} {B : Hp} {α : List Addr} : ∀ {ss : List Sy} {vs : List V}, Reps K B α (ss.map Sy.pv) vs → vs.length = ss.length ∧ ∀ q ∈ vs.zip ss, Rep K B α q.2.pv q.1
  | [], vs, h => by
    rw [List.map_nil] at h
    unfold Reps at h; subst h; exact ⟨rfl, fun q hq => by simp at hq⟩
  | s :: ss, vs, h => by
    rw [List.map_cons] at h
    unfold Reps at h
    obtain ⟨v, r, rfl, h1, h2⟩ := h
    obtain ⟨g1, g2⟩ := reps_zip h2
    refine ⟨by simp [g1], fun q hq => ?_⟩
    rw [List.zip_cons_cons] at hq
    rcases List.mem_cons.mp hq with rfl | hq
    · exact h1
    · exact g2 q hq
theorem zip_reps {K : PySem.W.Frag} {B : Hp} {α : List Addr} : ∀ {ss : List Sy} {vs : List V}, vs.length = ss.length → (∀ q ∈ vs.zip ss, Rep K B α q.2.pv q.1) → Reps K B α (ss.map Sy.pv) vs
  | [], [], _, _ => .nil
  | [], _ :: _, h, _ => by simp at h
  | _ :: _, [], h, _ => by simp at h
  | s :: ss, v :: vs, h, g => by
    rw [List.map_cons]
    exact .cons (g (v, s) (by rw [List.zip_cons_cons]; exact List.mem_cons_self)) (zip_reps (by simpa using h) fun q hq => g q (by rw [List.zip_cons_cons]; exact List.mem_cons_of_mem _ hq))
end
/-! ### each once -/
def onceS (ss : List Sy) : List Sy := ss.foldl (fun told one => if told.getLast? = some one then told else told ++ [one]) []
theorem onceS_snoc (ss : List Sy) (x : Sy) : onceS (ss ++ [x]) = if (onceS ss).getLast? = some x then onceS ss else onceS ss ++ [x] := by
  unfold onceS; rw [List.foldl_append]; rfl
theorem onceS_len (ss : List Sy) : (onceS ss).length ≤ ss.length := by
  have go : ∀ (ss acc : List Sy), (ss.foldl (fun told one => if told.getLast? = some one then told else told ++ [one]) acc).length ≤ acc.length + ss.length := by
    intro ss
    induction ss with
    | nil => intro acc; exact Nat.le_refl _
    | cons x ss ih =>
      intro acc
      rw [List.foldl_cons, List.length_cons]
      split
      · have := ih acc; omega
      · have := ih (acc ++ [x]); rw [List.length_append, List.length_singleton] at this; omega
  have := go ss []
  simpa [onceS] using this
theorem onceS_mem {ss : List Sy} {x : Sy} (h : x ∈ onceS ss) : x ∈ ss := by
  have go : ∀ (ss acc : List Sy), x ∈ ss.foldl (fun told one => if told.getLast? = some one then told else told ++ [one]) acc → x ∈ acc ∨ x ∈ ss := by
    intro ss
    induction ss with
    | nil => intro acc h; exact .inl h
    | cons y ss ih =>
      intro acc h
      rw [List.foldl_cons] at h
      rcases ih _ h with z | z
      · split at z
        · exact .inl z
        · rcases List.mem_append.mp z with w | w
          · exact .inl w
          · simp at w; subst w; exact .inr List.mem_cons_self
      · exact .inr (List.mem_cons_of_mem _ z)
  rcases go ss [] h with z | z
  · simp at z
  · exact z
end Law

/-! Sh1: the pure reading. U: data without cells; M: what a def comes to. -/
namespace Sh
open PySem L2 Pl
/-- a pure datum; `ins c us`: an instance of the class named c, its fields in order -/
inductive U where
  | non | bl (b : Bool) | int (i : Int) | str (s : Str)
  | tup (us : List U) | lst (us : List U) | fzl (us : List U)
  | dic (ks : List Key) (us : List U)
  | ins (c : Str) (us : List U)
  | exc (c : Str) (us : List U)
  deriving Inhabited
/-- where the classes stand, their fields -/
structure Kl where
  ad : Str → Addr
  fs : Str → List Str
mutual
def em (κ : Kl) : U → D
  | .non => .non
  | .bl b => .bl b
  | .int i => .int i
  | .str s => .str s
  | .tup us => .tup (ems κ us)
  | .lst us => .lst (ems κ us)
  | .fzl us => .fzl (ems κ us)
  | .dic ks us => .dic ks (ems κ us)
  | .ins c us => .ins (κ.ad c) (κ.fs c) (ems κ us)
  | .exc c us => .exc (κ.ad c) (κ.fs c) (ems κ us)
def ems (κ : Kl) : List U → List D
  | [] => []
  | u :: us => em κ u :: ems κ us
end
section
variable {κ : Kl} {Λ : Cells}
theorem ems_map : ∀ us : List U, ems κ us = us.map (em κ)
  | [] => rfl
  | u :: us => by rw [ems, ems_map us, List.map_cons]
theorem ems_app (us vs : List U) : ems κ (us ++ vs) = ems κ us ++ ems κ vs := by simp only [ems_map, List.map_append]
theorem ems_len (us : List U) : (ems κ us).length = us.length := by rw [ems_map, List.length_map]
mutual
theorem nl_em : ∀ u : U, nl (em κ u) = true
  | .non => rfl
  | .bl _ => rfl
  | .int _ => rfl
  | .str _ => rfl
  | .tup us => nls_em us
  | .lst us => nls_em us
  | .fzl us => nls_em us
  | .dic _ us => nls_em us
  | .ins _ us => nls_em us
  | .exc _ us => nls_em us
theorem nls_em : ∀ us : List U, nls (ems κ us) = true
  | [] => rfl
  | u :: us => by show (nl (em κ u) && nls (ems κ us)) = true; rw [nl_em u, nls_em us]; rfl
end
theorem vw_em (u : U) : vw Λ (em κ u) = em κ u := by cases u <;> rfl
mutual
/-- as the library's -/
def pyU : U → PyData
  | .non => .none
  | .bl b => .bool b
  | .int i => .int i
  | .str s => .str s
  | .tup us => .tuple (pyUs us)
  | .lst us => .list (pyUs us)
  | .fzl us => .list (pyUs us)
  | .dic _ _ => .dict []
  | .ins _ _ => .dict []
  | .exc _ _ => .dict []
def pyUs : List U → List PyData
  | [] => []
  | u :: us => pyU u :: pyUs us
end
mutual
theorem py_em : ∀ u : U, py (em κ u) = pyU u
  | .non => rfl
  | .bl _ => rfl
  | .int _ => rfl
  | .str _ => rfl
  | .tup us => by rw [em, py, pyU, pys_ems us]
  | .lst us => by rw [em, py, pyU, pys_ems us]
  | .fzl us => by rw [em, py, pyU, pys_ems us]
  | .dic _ us => rfl
  | .ins _ us => rfl
  | .exc _ us => rfl
theorem pys_ems : ∀ us : List U, pys (ems κ us) = pyUs us
  | [] => rfl
  | u :: us => by rw [ems, pys, pyUs, py_em u, pys_ems us]
end
theorem pyUs_map : ∀ us : List U, pyUs us = us.map pyU
  | [] => rfl
  | u :: us => by rw [pyUs, pyUs_map us, List.map_cons]
end

/-! ### what a def comes to -/
inductive M (α : Type) where
  | stuck
  | err (c : Str) (us : List U)
  | ok (a : α)
namespace M
variable {α β : Type}
def bind (m : M α) (k : α → M β) : M β := match m with
  | .stuck => .stuck
  | .err c us => .err c us
  | .ok a => k a
@[simp] theorem bind_ok (a : α) (k : α → M β) : (M.ok a).bind k = k a := rfl
@[simp] theorem bind_stuck (k : α → M β) : (M.stuck : M α).bind k = .stuck := rfl
@[simp] theorem bind_err (c : Str) (us : List U) (k : α → M β) : (M.err c us : M α).bind k = .err c us := rfl
/-- a refusal met where none may be -/
def calm (m : M α) : M α := match m with
  | .err _ _ => .stuck
  | m => m
@[simp] theorem calm_ok (a : α) : (M.ok a).calm = .ok a := rfl
@[simp] theorem calm_stuck : (M.stuck : M α).calm = .stuck := rfl
@[simp] theorem calm_err (c : Str) (us : List U) : (M.err c us : M α).calm = .stuck := rfl
end M
def wp {α : Type} (m : M α) (P : α → Prop) (E : Str → List U → Prop) : Prop := match m with
  | .stuck => False
  | .err c us => E c us
  | .ok a => P a
def no : Str → List U → Prop := fun _ _ => False
section
variable {α β : Type} {P P' : α → Prop} {Q : β → Prop} {Eh Eh' : Str → List U → Prop} {m : M α} {k : α → M β}
theorem wp_bind (h : wp (m.bind k) Q Eh) : wp m (fun a => wp (k a) Q Eh) Eh := by cases m <;> exact h
theorem wp_mono (h : wp m P Eh) (i : ∀ a, P a → P' a) (j : ∀ c us, Eh c us → Eh' c us) : wp m P' Eh' := by
  cases m with
  | stuck => exact h
  | err c us => exact j c us h
  | ok a => exact i a h
theorem wp_calm (h : wp m.calm P Eh) : wp m P no := by
  cases m with
  | stuck => exact h
  | err c us => exact h.elim
  | ok a => exact h
end
/-- a test of the size -/
def sz {α : Type} (n : Nat) (m : M α) : M α := if n < 10000000 then m else .stuck
theorem sz_ok {α : Type} {n : Nat} {m : M α} (h : n < 10000000) : sz n m = m := if_pos h
theorem wp_sz {α : Type} {n : Nat} {m : M α} {P : α → Prop} {E : Str → List U → Prop} (h : wp (sz n m) P E) : n < 10000000 ∧ wp m P E := by
  unfold sz at h; split at h
  · exact ⟨‹_›, h⟩
  · exact h.elim

/-! ### operations -/
def addM : U → U → M U
  | .int i, .int j => .ok (.int (i + j))
  | .str s, .str t => sz (s.length + t.length) (.ok (.str (s ++ t)))
  | .tup xs, .tup ys => sz (xs.length + ys.length) (.ok (.tup (xs ++ ys)))
  | .lst xs, .lst ys => sz (xs.length + ys.length) (.ok (.lst (xs ++ ys)))
  | .fzl xs, .fzl ys => sz (xs.length + ys.length) (.ok (.lst (xs ++ ys)))
  | .fzl xs, .lst ys => sz (xs.length + ys.length) (.ok (.lst (xs ++ ys)))
  | .lst xs, .fzl ys => sz (xs.length + ys.length) (.ok (.lst (xs ++ ys)))
  | _, _ => .stuck
def subM : U → U → M U
  | .int i, .int j => .ok (.int (i - j))
  | _, _ => .stuck
/-- a factor that is small -/
def small (i : Int) : Bool := decide (-(2 ^ 64) < i) && decide (i < 2 ^ 64)
def mulM : U → U → M U
  | .int i, .int j => if small i || small j then .ok (.int (i * j)) else .stuck
  | _, _ => .stuck
def fdivM : U → U → M U
  | .int i, .int j => if decide (0 < j) && decide (j < 2 ^ 8999) then .ok (.int (i / j)) else .stuck
  | _, _ => .stuck
def modM : U → U → M U
  | .int i, .int j => if 0 < j then .ok (.int (i % j)) else .stuck
  | _, _ => .stuck
def powM : U → U → M U
  | .int i, .int j => if decide (0 ≤ j) && (decide (j ≤ 1000000) && decide (i.natAbs < 2 ^ 64)) then .ok (.int (i ^ j.toNat)) else .stuck
  | _, _ => .stuck
def negM : U → M U
  | .int i => .ok (.int (-i))
  | _ => .stuck
/-- no dict, no instance lies within -/
def pl (u : U) : Bool := (pyU u).plain
def dp (u : U) : Nat := (pyU u).depth
def eqM (x y : U) : M Bool := if pl x && (pl y && decide (min (dp x) (dp y) ≤ 190)) then .ok (PyData.eqv (pyU x) (pyU y)) else .stuck
def ltM : U → U → M Bool
  | .int i, .int j => .ok (decide (i < j))
  | .str s, .str t => .ok (decide (s.cps.toList < t.cps.toList))
  | _, _ => .stuck
def leM : U → U → M Bool
  | .int i, .int j => .ok (decide (i ≤ j))
  | _, _ => .stuck
def gtM : U → U → M Bool
  | .int i, .int j => .ok (decide (j < i))
  | _, _ => .stuck
def geM : U → U → M Bool
  | .int i, .int j => .ok (decide (j ≤ i))
  | _, _ => .stuck
def isNone : U → Bool
  | .non => true
  | _ => false
/-- x is None, x is True -/
def isM : U → U → M Bool
  | x, .non => .ok (isNone x)
  | .bl a, .bl b => .ok (decide (a = b))
  | _, _ => .stuck
def keyU : U → Option Key
  | .int i => some (.inl i)
  | .str s => some (.inr s)
  | _ => none
def uLook (ks : List Key) (us : List U) (k : Key) : Option U := ((ks.zip us).find? fun kv => decide (kv.1 = k)).map (·.2)
/-- the items of a list, a tuple -/
def seqU : U → Option (List U)
  | .lst us => some us
  | .fzl us => some us
  | .tup us => some us
  | _ => none
def inM (x : U) : U → M Bool
  | .str t => match x with
    | .str s => .ok (strIn s t)
    | _ => .stuck
  | .dic ks us => match keyU x with
    | some k => .ok (uLook ks us k).isSome
    | none => .stuck
  | y => match seqU y with
    | some us => if PyData.plainAll (pyUs us) && (pl x && decide (min (PyData.depthAll (pyUs us)) (dp x) ≤ 190)) then .ok (us.any fun e => PyData.eqv (pyU e) (pyU x)) else .stuck
    | none => .stuck
def boolM : U → M Bool
  | .bl b => .ok b
  | _ => .stuck
def ixM : U → U → M U
  | .str s, .int i => match atI s.cps.toList i with
    | some c => if s.length ≤ sizeLine then .ok (.str ⟨#[c]⟩) else .stuck
    | none => .stuck
  | x, .int i => match seqU x with
    | some us => match atI us i with
      | some u => .ok u
      | none => .stuck
    | none => .stuck
  | _, _ => .stuck
def cutU (xs : List U) (lo hi : Option Int) : List U := (xs.drop (HT.sIx xs.length 0 lo)).take (HT.sIx xs.length xs.length hi - HT.sIx xs.length 0 lo)
/-- an end of a slice -/
def endM : U → M (Option Int)
  | .int i => .ok (some i)
  | _ => .stuck
def slM (x : U) (l u : Option Int) : M U := match x with
  | .str s => if s.length ≤ sizeLine then .ok (.str (cutS s l u)) else .stuck
  | .tup us => .ok (.tup (cutU us l u))
  | .lst us => .ok (.lst (cutU us l u))
  | .fzl us => .ok (.lst (cutU us l u))
  | _ => .stuck
def lenM : U → M U
  | .str s => if s.length ≤ sizeLine then .ok (.int s.length) else .stuck
  | x => match seqU x with
    | some us => .ok (.int us.length)
    | none => .stuck
def listM (x : U) : M (List U) := match seqU x with
  | some us => .ok us
  | none => .stuck
def tupleM (x : U) : M U := match seqU x with
  | some us => .ok (.tup us)
  | none => .stuck
/-- the items of a list -/
def itemsL : U → Option (List U)
  | .lst us => some us
  | .fzl us => some us
  | _ => none
def iterL (x : U) : M (List U) := match itemsL x with
  | some us => .ok us
  | none => .stuck
def iterT : U → M (List U)
  | .tup us => .ok us
  | _ => .stuck
def iterS : U → M (List U)
  | .str s => .ok (s.cps.toList.map fun c => .str ⟨#[c]⟩)
  | _ => .stuck
def rangeU (lo : Int) (n : Nat) : List U := (List.range n).map fun i => .int (lo + (i : Nat))
def range1M : U → M (List U)
  | .int n => if decide (-(2 ^ 62) ≤ n) && decide (n < 2 ^ 62) then .ok (rangeU 0 n.toNat) else .stuck
  | _ => .stuck
def asBls : List U → Option (List Bool)
  | [] => some []
  | .bl i :: us => (asBls us).map (i :: ·)
  | _ => none
def allM (x : U) : M U := match itemsL x with
  | some us => match asBls us with
    | some ns => .ok (.bl (ns.all id))
    | none => .stuck
  | none => .stuck
def intM : U → M U
  | .int i => .ok (.int i)
  | .bl b => .ok (.int (if b then 1 else 0))
  | _ => .stuck
def tyU : U → Option String
  | .non => some "NoneType"
  | .bl _ => some "bool"
  | .int _ => some "int"
  | .str _ => some "str"
  | .tup _ => some "tuple"
  | .lst _ => some "list"
  | .fzl _ => some "list"
  | .dic _ _ => some "dict"
  | .ins _ _ => none
  | .exc _ _ => none
def isiM (x : U) (T : String) : M U := match tyU x with
  | some t => match isiB t T with
    | some b => .ok (.bl b)
    | none => .stuck
  | none => .stuck
/-- a tuple's two, three .. items -/
def un2 : U → M (U × U)
  | .tup [a, b] => .ok (a, b)
  | _ => .stuck
def un3 : U → M (U × U × U)
  | .tup [a, b, c] => .ok (a, b, c)
  | _ => .stuck
/-- xs.append(x): the list behind it -/
def appM (xs : List U) (x : U) : M (List U) := sz xs.length (.ok (xs ++ [x]))
def popM (xs : List U) : M (U × List U) := match xs.getLast? with
  | some x => .ok (x, xs.dropLast)
  | none => .stuck
def extM (xs : List U) (y : U) : M (List U) := match y with
  | .lst ys => sz (xs.length + ys.length) (.ok (xs ++ ys))
  | _ => .stuck
/-- xs[i] = x -/
def setM (xs : List U) (i x : U) : M (List U) := match i with
  | .int k => match ixN xs.length k with
    | some j => .ok (xs.set j x)
    | none => .stuck
  | _ => .stuck
/-! ### loops -/
/-- what a turn comes to -/
inductive Ct (σ ρ : Type) where
  | nx (s : σ) | bk (s : σ) | rt (r : ρ)
variable {σ ρ : Type}
def forN (f : σ → U → M σ) : List U → σ → M σ
  | [], s => .ok s
  | x :: xs, s => (f s x).bind fun s => forN f xs s
def forC (f : σ → U → M (Ct σ ρ)) : List U → σ → M (Ct σ ρ)
  | [], s => .ok (.nx s)
  | x :: xs, s => (f s x).bind fun c => match c with
    | .nx s => forC f xs s
    | .bk s => .ok (.nx s)
    | .rt r => .ok (.rt r)
/-- while, at most n turns -/
def whN (c : σ → M Bool) (f : σ → M σ) : Nat → σ → M σ
  | 0, _ => .stuck
  | n + 1, s => (c s).bind fun b => if b then (f s).bind fun s => whN c f n s else .ok s
def mapC (f : U → M U) : List U → M (List U)
  | [] => .ok []
  | x :: xs => (f x).calm.bind fun y => (mapC f xs).bind fun ys => .ok (y :: ys)
def filC (g : U → M Bool) (f : U → M U) : List U → M (List U)
  | [] => .ok []
  | x :: xs => (g x).calm.bind fun b => if b then (f x).calm.bind fun y => (filC g f xs).bind fun ys => .ok (y :: ys) else filC g f xs
/-- [f(x) for x in xs] -/
def compM (f : U → M U) (xs : List U) : M (List U) := sz xs.length (mapC f xs)
/-- [f(x) for x in xs if g(x)] -/
def compF (g : U → M Bool) (f : U → M U) (xs : List U) : M (List U) := sz xs.length (filC g f xs)
end Sh

/-! Sh2: from the pure reading to the wishes over data. -/
namespace Sh
open PySem L2 Pl
/-- the datum d, looked through its cell, is u -/
def Vw (κ : Kl) (Λ : Cells) (d : D) (u : U) : Prop := vw Λ d = em κ u
section
variable {κ : Kl} {Λ : Cells}
theorem vE {u : U} : Vw κ Λ (em κ u) u := vw_em u
theorem vL {n : Nat} {us : List U} (h : Λ[n]? = some (.lst (ems κ us))) : Vw κ Λ (.loc n) (.lst us) := by
  unfold Vw vw; dsimp only; rw [h]; rfl
theorem Vw.atom {d : D} {u : U} (h : Vw κ Λ d u) (h2 : ∀ us, u ≠ .lst us) (h3 : ∀ ks us, u ≠ .dic ks us) (h4 : ∀ c us, u ≠ .ins c us) : d = em κ u := by
  refine vw_noc h ?_ ?_ ?_ ?_
  · intro n e; cases u <;> cases e
  · intro ds e; cases u with
    | lst us => exact h2 us rfl
    | _ => cases e
  · intro ks ds e; cases u with
    | dic ks us => exact h3 ks us rfl
    | _ => cases e
  · intro c ns ds e; cases u with
    | ins c us => exact h4 c us rfl
    | _ => cases e
theorem Vw.py {d : D} {u : U} (h : Vw κ Λ d u) : py (vw Λ d) = pyU u := by rw [h, py_em]
theorem seq_of {d : D} {u : U} (h : Vw κ Λ d u) {us : List U} (e : seqU u = some us) : seqD Λ d = some (ems κ us) := by
  unfold seqD; rw [h]
  cases u <;> simp only [seqU, Option.some.injEq, reduceCtorEq] at e <;> subst e <;> rfl
theorem items_of {d : D} {u : U} (h : Vw κ Λ d u) {us : List U} (e : itemsL u = some us) : lstD Λ d = some (ems κ us) := by
  unfold lstD; rw [h]
  cases u <;> simp only [itemsL, Option.some.injEq, reduceCtorEq] at e <;> subst e <;> rfl
theorem atI_map' {α β : Type} (f : α → β) (xs : List α) (i : Int) : atI (xs.map f) i = (atI xs i).map f := by
  unfold L2.atI
  rw [List.length_map]
  cases ixN xs.length i with
  | none => rfl
  | some j => simp
theorem atI_ems {us : List U} {i : Int} {u : U} (h : atI us i = some u) : atI (ems κ us) i = some (em κ u) := by
  rw [ems_map, atI_map', h]; rfl
theorem cut_ems (us : List U) (l u : Option Int) : cutD (ems κ us) l u = ems κ (cutU us l u) := by
  unfold cutD cutU; rw [ems_len, ems_map, ems_map, List.map_take, List.map_drop]
theorem uLook_em {us : List U} {k : Key} : ∀ {ks : List Key}, dLook ks (ems κ us) k = (uLook ks us k).map (em κ) := by
  unfold dLook uLook
  induction us with
  | nil => intro ks; cases ks <;> rfl
  | cons u us ih =>
    intro ks
    cases ks with
    | nil => rfl
    | cons a ks =>
      rw [ems]
      simp only [List.zip_cons_cons, List.find?_cons]
      by_cases e : a = k
      · simp [e]
      · simp only [e, decide_false]
        exact ih
theorem key_of {d : D} {u : U} (h : Vw κ Λ d u) {k : Key} (e : keyU u = some k) : keyD d = some k := by
  have : d = em κ u := h.atom (by rintro _ rfl; cases e) (by rintro _ _ rfl; cases e) (by rintro _ _ rfl; cases e)
  subst this
  cases u <;> first | exact e | cases e
theorem sz_line {n : Nat} (h : n < 10000000) : n ≤ sizeLine := Pl.sz_lt h

theorem bls_em : ∀ {us : List U} {ns : List Bool}, asBls us = some ns → ems κ us = ns.map .bl
  | [], ns, e => by cases e; rfl
  | .bl i :: us, ns, e => by
    simp only [asBls, Option.map_eq_some_iff] at e
    obtain ⟨ms, e1, rfl⟩ := e
    rw [ems, bls_em e1]; rfl
variable {α : Type} {Q : α → Prop} {Eh : Str → List U → Prop} {x y z : D} {P : D → Prop} {Pb : Bool → Prop}
section two
variable {k : U → M α} {kb : Bool → M α} (a b : U) (hx : Vw κ Λ x a) (hy : Vw κ Λ y b)
include hx hy
theorem addP_m (h : wp ((addM a b).bind k) Q Eh) (i : ∀ z, wp (k z) Q Eh → P (em κ z)) : addP Λ x y P := by
  replace h := wp_bind h
  unfold addP; rw [hx, hy]
  unfold addM at h
  split at h
  · exact i _ h
  · obtain ⟨h1, h2⟩ := wp_sz h
    exact ⟨sz_line h1, i _ h2⟩
  · obtain ⟨h1, h2⟩ := wp_sz h
    refine ⟨?_, ?_⟩
    · simp only [ems_len]; exact sz_line h1
    · have := i _ h2
      simp only [em, ems_app] at this
      exact this
  · obtain ⟨h1, h2⟩ := wp_sz h
    refine ⟨?_, ?_⟩
    · simp only [ems_len]; exact sz_line h1
    · have := i _ h2
      simp only [em, ems_app] at this
      exact this
  · obtain ⟨h1, h2⟩ := wp_sz h
    refine ⟨?_, ?_⟩
    · simp only [ems_len]; exact sz_line h1
    · have := i _ h2
      simp only [em, ems_app] at this
      exact this
  · obtain ⟨h1, h2⟩ := wp_sz h
    refine ⟨?_, ?_⟩
    · simp only [ems_len]; exact sz_line h1
    · have := i _ h2
      simp only [em, ems_app] at this
      exact this
  · obtain ⟨h1, h2⟩ := wp_sz h
    refine ⟨?_, ?_⟩
    · simp only [ems_len]; exact sz_line h1
    · have := i _ h2
      simp only [em, ems_app] at this
      exact this
  · exact h.elim
theorem mulP_m (h : wp ((mulM a b).bind k) Q Eh) (i : ∀ z, wp (k z) Q Eh → P (em κ z)) : intP CMul (fun i j => .int (i * j)) x y P := by
  replace h := wp_bind h
  unfold mulM at h
  split at h
  · have e1 := hx.atom (by simp) (by simp) (by simp); have e2 := hy.atom (by simp) (by simp) (by simp)
    subst e1; subst e2
    split at h
    · rename_i hs
      refine ⟨?_, i _ h⟩
      simpa [small, CMul] using hs
    · exact h.elim
  · exact h.elim
theorem fdivP_m (h : wp ((fdivM a b).bind k) Q Eh) (i : ∀ z, wp (k z) Q Eh → P (em κ z)) : intP CDivW (fun i j => .int (i / j)) x y P := by
  replace h := wp_bind h
  unfold fdivM at h
  split at h
  · have e1 := hx.atom (by simp) (by simp) (by simp); have e2 := hy.atom (by simp) (by simp) (by simp)
    subst e1; subst e2
    split at h
    · rename_i i' j' hs
      refine ⟨?_, i _ h⟩
      rw [Bool.and_eq_true, decide_eq_true_eq, decide_eq_true_eq] at hs
      obtain ⟨h1, h2⟩ := hs
      refine ⟨h1, ?_⟩
      have h3 : j'.natAbs < 2 ^ 8999 := by
        have e : ((j'.natAbs : Nat) : Int) = j' := Int.natAbs_of_nonneg (Int.le_of_lt h1)
        generalize hm : (2 : Nat) ^ 8999 = m
        have hm' : (2 : Int) ^ 8999 = (m : Int) := by rw [← hm]; exact (Int.natCast_pow 2 8999).symm
        rw [hm'] at h2
        omega
      have h4 := (Nat.log2_lt (by omega)).mpr h3
      omega
    · exact h.elim
  · exact h.elim
theorem modP_m (h : wp ((modM a b).bind k) Q Eh) (i : ∀ z, wp (k z) Q Eh → P (em κ z)) : intP (fun _ j => 0 < j) (fun i j => .int (i % j)) x y P := by
  replace h := wp_bind h
  unfold modM at h
  split at h
  · have e1 := hx.atom (by simp) (by simp) (by simp); have e2 := hy.atom (by simp) (by simp) (by simp)
    subst e1; subst e2
    split at h
    · exact ⟨by assumption, i _ h⟩
    · exact h.elim
  · exact h.elim
theorem eqP_m (h : wp ((eqM a b).bind kb) Q Eh) (i : ∀ z, wp (kb z) Q Eh → Pb z) : eqP Λ x y Pb := by
  replace h := wp_bind h
  unfold eqM at h
  split at h
  · rename_i hs
    rw [Bool.and_eq_true, Bool.and_eq_true, decide_eq_true_eq] at hs
    obtain ⟨h1, h2, h3⟩ := hs
    have g := i _ h
    unfold eqP
    split
    · have e1 : em κ a = .int _ := hx.symm
      have e2 : em κ b = .int _ := hy.symm
      cases a <;> cases e1; cases b <;> cases e2
      rename_i p q
      have e : PyData.eqv (pyU (.int p)) (pyU (.int q)) = decide (p = q) := by
        simp only [pyU, PyData.eqv]; by_cases c : p = q <;> simp [c]
      rw [e] at g; exact g
    · have e1 : em κ a = .str _ := hx.symm
      have e2 : em κ b = .str _ := hy.symm
      cases a <;> cases e1; cases b <;> cases e2
      rename_i p q
      have e : PyData.eqv (pyU (.str p)) (pyU (.str q)) = decide (p = q) := Law.Sy.strs_eqv p q
      rw [e] at g; exact g
    · have e1 : em κ a = .bl _ := hx.symm
      have e2 : em κ b = .bl _ := hy.symm
      cases a <;> cases e1; cases b <;> cases e2
      rename_i p q
      have e : PyData.eqv (pyU (.bl p)) (pyU (.bl q)) = decide (p = q) := bl_eqv p q
      rw [e] at g; exact g
    · rw [hx.py, hy.py]
      exact ⟨h1, h2, h3, g⟩
  · exact h.elim
theorem ltP_m (h : wp ((ltM a b).bind kb) Q Eh) (i : ∀ z, wp (kb z) Q Eh → Pb z) : ltP x y Pb := by
  replace h := wp_bind h
  unfold ltM at h
  split at h
  · have e1 := hx.atom (by simp) (by simp) (by simp); have e2 := hy.atom (by simp) (by simp) (by simp)
    subst e1; subst e2
    exact i _ h
  · have e1 := hx.atom (by simp) (by simp) (by simp); have e2 := hy.atom (by simp) (by simp) (by simp)
    subst e1; subst e2
    exact ⟨rfl, i _ h⟩
  · exact h.elim
theorem gtP_m (h : wp ((gtM a b).bind kb) Q Eh) (i : ∀ z, wp (kb z) Q Eh → Pb z) : gtP x y Pb := by
  replace h := wp_bind h
  unfold gtM at h
  split at h
  · have e1 := hx.atom (by simp) (by simp) (by simp); have e2 := hy.atom (by simp) (by simp) (by simp)
    subst e1; subst e2
    exact i _ h
  · exact h.elim
theorem inP_m (h : wp ((inM a b).bind kb) Q Eh) (i : ∀ z, wp (kb z) Q Eh → Pb z) : inP Λ x y Pb := by
  replace h := wp_bind h
  unfold inM at h
  split at h
  · split at h
    · have e1 := hx.atom (by simp) (by simp) (by simp)
      subst e1
      unfold inP; rw [hy]
      exact ⟨_, rfl, i _ h⟩
    · exact h.elim
  · split at h
    · rename_i c e
      unfold inP; rw [hy]
      refine ⟨c, key_of hx e, ?_⟩
      have g := i _ h
      rw [uLook_em, Option.isSome_map]
      exact g
    · exact h.elim
  · split at h
    · rename_i us e
      split at h
      · rename_i hs
        rw [Bool.and_eq_true, Bool.and_eq_true, decide_eq_true_eq] at hs
        obtain ⟨h1, h2, h3⟩ := hs
        refine inP_seq (seq_of hy e) ?_ ?_ ?_ ?_
        · rw [pys_ems]; exact h1
        · rw [hx.py]; exact h2
        · rw [hx.py, pys_ems]; exact h3
        · rw [hx.py, pys_ems]
          have g := i _ h
          rw [pyUs_map, List.any_map]
          exact g
      · exact h.elim
    · exact h.elim
theorem ixP_m (h : wp ((ixM a b).bind k) Q Eh) (i : ∀ z, wp (k z) Q Eh → P (em κ z)) : ixP Λ x y P := by
  replace h := wp_bind h
  unfold ixM at h
  split at h
  · have e1 := hx.atom (by simp) (by simp) (by simp); have e2 := hy.atom (by simp) (by simp) (by simp)
    subst e1; subst e2
    split at h
    · split at h
      · rename_i c hc hl
        exact ixP_str hl hc (i _ h)
      · exact h.elim
    · exact h.elim
  · have e2 := hy.atom (by simp) (by simp) (by simp)
    subst e2
    split at h
    · rename_i us e
      split at h
      · rename_i u hu
        exact ixP_seq (seq_of hx e) (atI_ems hu) (i _ h)
      · exact h.elim
    · exact h.elim
  · exact h.elim
theorem isP_m (h : wp ((isM a b).bind kb) Q Eh) (i : ∀ z, wp (kb z) Q Eh → Pb z) : isP x y Pb := by
  replace h := wp_bind h
  have hy' : b = .non ∨ (∃ c, b = .bl c) → y = em κ b := fun e => by rcases e with rfl | ⟨c, rfl⟩ <;> exact hy.atom (by simp) (by simp) (by simp)
  unfold isM at h
  split at h
  · have e2 := hy' (.inl rfl)
    subst e2
    have g := i _ h
    refine ⟨isNone a, ?_, g⟩
    have hv : vw Λ x = em κ a := hx
    by_cases hl : ∃ n, x = .loc n
    · obtain ⟨n, rfl⟩ := hl
      cases a with
      | non => exact absurd (hx.atom (by simp) (by simp) (by simp)) (by simp [em])
      | _ => rfl
    · have : x = em κ a := by
        cases x <;> first | exact absurd ⟨_, rfl⟩ hl | exact hv
      subst this
      cases a <;> rfl
  · have e2 := hy' (.inr ⟨_, rfl⟩)
    have e1 := hx.atom (by simp) (by simp) (by simp)
    subst e1; subst e2
    exact ⟨_, rfl, i _ h⟩
  · exact h.elim
end two
section one
variable {k : U → M α} {kb : Bool → M α} {kl : List U → M α} {ko : Option Int → M α} {Pl' : List D → Prop} (a : U) (hx : Vw κ Λ x a)
include hx
theorem negP_m (h : wp ((negM a).bind k) Q Eh) (i : ∀ z, wp (k z) Q Eh → P (em κ z)) : ∃ j, x = .int j ∧ P (.int (-j)) := by
  replace h := wp_bind h
  unfold negM at h
  split at h
  · exact ⟨_, hx.atom (by simp) (by simp) (by simp), i _ h⟩
  · exact h.elim
theorem boolP_m (h : wp ((boolM a).bind kb) Q Eh) (i : ∀ z, wp (kb z) Q Eh → Pb z) : boolP x Pb := by
  replace h := wp_bind h
  unfold boolM at h
  split at h
  · have e1 := hx.atom (by simp) (by simp) (by simp)
    subst e1
    exact i _ h
  · exact h.elim
theorem endP_m {Po : Option Int → Prop} (h : wp ((endM a).bind ko) Q Eh) (i : ∀ z, wp (ko z) Q Eh → Po z) : ∃ j, x = .int j ∧ Po (some j) := by
  replace h := wp_bind h
  unfold endM at h
  split at h
  · exact ⟨_, hx.atom (by simp) (by simp) (by simp), i _ h⟩
  · exact h.elim
theorem slP_m {l u : Option Int} (h : wp ((slM a l u).bind k) Q Eh) (i : ∀ z, wp (k z) Q Eh → P (em κ z)) : slP Λ x l u P := by
  replace h := wp_bind h
  unfold slM at h
  split at h
  · have e1 := hx.atom (by simp) (by simp) (by simp)
    subst e1
    split at h
    · rename_i hl
      exact slP_str hl (i _ h)
    · exact h.elim
  · have e1 := hx.atom (by simp) (by simp) (by simp)
    subst e1
    refine slP_tup rfl ?_
    rw [cut_ems]; exact i _ h
  · refine slP_lst (items_of hx rfl) ?_
    rw [cut_ems]; exact i _ h
  · refine slP_lst (items_of hx rfl) ?_
    rw [cut_ems]; exact i _ h
  · exact h.elim
theorem lenP_m (h : wp ((lenM a).bind k) Q Eh) (i : ∀ z, wp (k z) Q Eh → P (em κ z)) : lenP Λ x fun n => P (.int n) := by
  replace h := wp_bind h
  unfold lenM at h
  split at h
  · have e1 := hx.atom (by simp) (by simp) (by simp)
    subst e1
    split at h
    · rename_i hl
      exact lenP_str hl (i _ h)
    · exact h.elim
  · split at h
    · rename_i us e
      refine lenP_seq (seq_of hx e) ?_
      rw [ems_len]; exact i _ h
    · exact h.elim
theorem listP_m (h : wp ((listM a).bind kl) Q Eh) (i : ∀ z, wp (kl z) Q Eh → Pl' (ems κ z)) : ∃ zs, seqD Λ x = some zs ∧ Pl' zs := by
  replace h := wp_bind h
  unfold listM at h
  split at h
  · rename_i us e
    exact ⟨_, seq_of hx e, i _ h⟩
  · exact h.elim
theorem allP_m (h : wp ((allM a).bind k) Q Eh) (i : ∀ z, wp (k z) Q Eh → P (em κ z)) : ∃ ns : List Bool, lstD Λ x = some (ns.map .bl) ∧ P (.bl (ns.all id)) := by
  replace h := wp_bind h
  unfold allM at h
  split at h
  · rename_i us e
    split at h
    · rename_i ns e2
      exact ⟨ns, by rw [← bls_em (κ := κ) e2]; exact items_of hx e, i _ h⟩
    · exact h.elim
  · exact h.elim
theorem intOfP_m (h : wp ((intM a).bind k) Q Eh) (i : ∀ z, wp (k z) Q Eh → P (em κ z)) : intOf x fun n => P (.int n) := by
  replace h := wp_bind h
  unfold intM at h
  split at h
  · have e1 := hx.atom (by simp) (by simp) (by simp)
    subst e1; exact i _ h
  · have e1 := hx.atom (by simp) (by simp) (by simp)
    subst e1; exact i _ h
  · exact h.elim
theorem ty_of {t : String} (e : tyU a = some t) : tyD Λ x = some t := by
  unfold tyD; rw [hx]
  cases a <;> first | exact e | cases e
theorem isiP_m {T : String} (h : wp ((isiM a T).bind k) Q Eh) (i : ∀ z, wp (k z) Q Eh → P (em κ z)) : ∃ t b, tyD Λ x = some t ∧ isiB t T = some b ∧ P (.bl b) := by
  replace h := wp_bind h
  unfold isiM at h
  split at h
  · rename_i t e
    split at h
    · rename_i b e2
      exact ⟨t, b, ty_of a hx e, e2, i _ h⟩
    · exact h.elim
  · exact h.elim
theorem rng1P_m (h : wp ((range1M a).bind kl) Q Eh) (i : ∀ z, wp (kl z) Q Eh → Pl' (ems κ z)) : ∃ n : Int, x = .int n ∧ -(2 ^ 62) ≤ n ∧ n < 2 ^ 62 ∧ Pl' (rangeD 0 n.toNat) := by
  replace h := wp_bind h
  unfold range1M at h
  split at h
  · split at h
    · rename_i hs
      rw [Bool.and_eq_true, decide_eq_true_eq, decide_eq_true_eq] at hs
      refine ⟨_, hx.atom (by simp) (by simp) (by simp), hs.1, hs.2, ?_⟩
      have g := i _ h
      have e : ∀ lo n, ems κ (rangeU lo n) = rangeD lo n := fun lo n => by unfold rangeU rangeD; rw [ems_map, List.map_map]; rfl
      rw [e] at g; exact g
    · exact h.elim
  · exact h.elim
omit hx
/-- walked: a list's items, a tuple's, a text's -/
theorem iterLP_m (h : wp ((iterL a).bind kl) Q Eh) (i : ∀ z, wp (kl z) Q Eh → Pl' (ems κ z)) : ∃ ds, (em κ a = .lst ds ∨ em κ a = .fzl ds) ∧ nls ds = true ∧ Pl' ds := by
  replace h := wp_bind h
  unfold iterL at h
  split at h
  · rename_i us e
    refine ⟨ems κ us, ?_, nls_em us, i _ h⟩
    cases a <;> simp only [itemsL, Option.some.injEq, reduceCtorEq] at e <;> subst e
    · exact .inl rfl
    · exact .inr rfl
  · exact h.elim
end one
/-- a decided test -/
theorem ite_m {A B : Prop} {c : Bool} {m m' : M α} (h : wp (if c = true then m else m') Q Eh) (h1 : wp m Q Eh → A) (h2 : wp m' Q Eh → B) : if c = true then A else B := by
  cases c
  · rw [if_neg (by simp)] at h ⊢; exact h2 h
  · rw [if_pos rfl] at h ⊢; exact h1 h
end
end Sh

/-! Sh3: calls, loops, comprehensions, joins, defs in the pure reading. -/
namespace Sh
open PySem L2 Pl
/-- a refusal -/
def errD (κ : Kl) (c : Str) (us : List U) : Err := ⟨.ref (κ.ad c), match κ.fs c with
  | [] => none
  | ns => some (ns, ems κ us)⟩
/-- each refusal that is reckoned with is wished -/
def EI (κ : Kl) (Eh : Str → List U → Prop) (E : ER) : Prop := ∀ c us Γ Λ, Eh c us → E (errD κ c us) Γ Λ
theorem EI.no {κ : Kl} {E : ER} : EI κ no E := fun _ _ _ _ h => h.elim
theorem nlE_errD {κ : Kl} {c : Str} {us : List U} : nlE (errD κ c us) = true := by
  unfold nlE errD
  dsimp only
  cases κ.fs c with
  | nil => rfl
  | cons a b => exact nls_em us
/-! ### what defs promise -/
/-- a def of pure data: a value -/
def spV (κ : Kl) (n : Nat) (f : List U → M U) : Pl.Spec := fun ds Λ Q E => Λ = [] ∧ ∃ us, ds = ems κ us ∧ us.length = n ∧ wp (f us) (fun z => Q (.val (em κ z)) []) (fun c es => E (errD κ c es) [])
/-- .. a new list -/
def spN (κ : Kl) (n : Nat) (f : List U → M (List U)) : Pl.Spec := fun ds Λ Q E => Λ = [] ∧ ∃ us, ds = ems κ us ∧ us.length = n ∧ wp (f us) (fun z => Q (.new (ems κ z)) []) (fun c es => E (errD κ c es) [])
section
variable {κ : Kl} {n : Nat}
theorem spV_mono {f : List U → M U} : Mono (spV κ n f) := fun ds Λ Q Q' E E' ⟨h0, us, h1, h2, h3⟩ i j => ⟨h0, us, h1, h2, wp_mono h3 (fun z h => i _ _ h) fun c es h => j _ _ h⟩
theorem spN_mono {f : List U → M (List U)} : Mono (spN κ n f) := fun ds Λ Q Q' E E' ⟨h0, us, h1, h2, h3⟩ i j => ⟨h0, us, h1, h2, wp_mono h3 (fun z h => i _ _ h) fun c es h => j _ _ h⟩
variable {C : Pl.Ctx} {E : ER} {Γ : Pl.Env} {Λ : Cells} {pos p : Pos} {α : Type} {Q : α → Prop} {Eh : Str → List U → Prop}
/-- f(e, ..): a value -/
theorem we_callV [Cool C] {k : Nat} {x : Str} {e : Expr} {es : List Expr} {P : D → Cells → Prop} {f : List U → M U} (G : C.fn k x n (spV κ n f)) (hk : k ≤ C.k) (hj : GlAt C x)
    (h : WA C E Γ Λ (e :: es) fun ds Λ1 => ∃ us, ds = ems κ us ∧ us.length = n ∧ wp (f us) (fun z => P (em κ z) Λ1) (fun c es => E (errD κ c es) Γ Λ1))
    (he : plainE e = true := by rfl) (hes : es.all plainE = true := by rfl) (hdb : (x == ("__debug__" : Str)) = false := by decide) : WE C E Γ Λ (.Call (.Name x p) (e :: es) [] pos) P :=
  we_call G hk hj spV_mono (wa_mono h fun ds Λ1 ⟨us, h1, h2, h3⟩ => by
    subst h1
    exact ⟨nls_em us, by rw [ems_len]; exact h2, rfl, us, rfl, h2, wp_mono h3 (fun z h => ⟨rfl, _, rfl, h⟩) fun c es h => ⟨rfl, h⟩⟩) he hes hdb
theorem wn_callN [Cool C] {k : Nat} {x : Str} {e : Expr} {es : List Expr} {P : List D → Cells → Prop} {f : List U → M (List U)} (G : C.fn k x n (spN κ n f)) (hk : k ≤ C.k) (hj : GlAt C x)
    (h : WA C E Γ Λ (e :: es) fun ds Λ1 => ∃ us, ds = ems κ us ∧ us.length = n ∧ wp (f us) (fun z => P (ems κ z) Λ1) (fun c es => E (errD κ c es) Γ Λ1))
    (he : plainE e = true := by rfl) (hes : es.all plainE = true := by rfl) (hdb : (x == ("__debug__" : Str)) = false := by decide) : WN C E Γ Λ (.Call (.Name x p) (e :: es) [] pos) P :=
  wn_call G hk hj spN_mono (wa_mono h fun ds Λ1 ⟨us, h1, h2, h3⟩ => by
    subst h1
    exact ⟨nls_em us, by rw [ems_len]; exact h2, rfl, us, rfl, h2, wp_mono h3 (fun z h => ⟨rfl, _, rfl, h⟩) fun c es h => ⟨rfl, h⟩⟩) he hes hdb
/-! ### cells -/
theorem popP_m {n : Nat} {Λ : Cells} {us : List U} {k : U × List U → M α} {P : D → Cells → Prop} (hn : Λ[n]? = some (.lst (ems κ us))) (h : wp ((popM us).bind k) Q Eh) (i : ∀ z vs, wp (k (z, vs)) Q Eh → P (em κ z) (Λ.set n (.lst (ems κ vs)))) : ∃ m ds d, D.loc n = .loc m ∧ Λ[m]? = some (.lst ds) ∧ ds.getLast? = some d ∧ P d (Λ.set m (.lst ds.dropLast)) := by
  replace h := wp_bind h
  unfold popM at h
  split at h
  · rename_i x e
    refine ⟨n, _, em κ x, rfl, hn, by rw [ems_map, List.getLast?_map, e]; rfl, ?_⟩
    have := i _ _ h
    rw [ems_map, List.map_dropLast, ← ems_map] at this; exact this
  · exact h.elim
theorem extP_m {n : Nat} {Λ : Cells} {us : List U} {y : D} {k : List U → M α} {P : D → Cells → Prop} (u : U) (hy : Vw κ Λ y u) (hn : Λ[n]? = some (.lst (ems κ us))) (h : wp ((extM us u).bind k) Q Eh) (i : ∀ z, wp (k z) Q Eh → P .non (Λ.set n (.lst (ems κ z)))) : ∃ ds zs, Λ[n]? = some (.lst ds) ∧ vw Λ y = .lst zs ∧ ds.length + zs.length ≤ sizeLine ∧ P .non (Λ.set n (.lst (ds ++ zs))) := by
  replace h := wp_bind h
  unfold extM at h
  split at h
  · obtain ⟨h1, h2⟩ := wp_sz h
    refine ⟨_, _, hn, hy, by rw [ems_len, ems_len]; exact sz_line h1, ?_⟩
    have := i _ h2
    rw [ems_app] at this; exact this
  · exact h.elim
/-! ### tests and values that join -/
theorem wt_cutM {e : Expr} {m : M Bool} {k : Bool → M α} {P : Bool → Cells → Prop} (h : wp (m.bind k) Q Eh) (h1 : ∀ Q', wp m Q' Eh → WT C E Γ Λ e fun b Λ' => Λ' = Λ ∧ Q' b) (h2 : ∀ b, wp (k b) Q Eh → P b Λ) : WT C E Γ Λ e P :=
  wt_mono (h1 _ (wp_bind h)) fun b Λ' ⟨e, q⟩ => by subst e; exact h2 b q
theorem we_cutM {e : Expr} {m : M U} {k : U → M α} {P : D → Cells → Prop} (h : wp (m.bind k) Q Eh) (h1 : ∀ Q', wp m Q' Eh → WE C E Γ Λ e fun d Λ' => Λ' = Λ ∧ ∃ z, d = em κ z ∧ Q' z) (h2 : ∀ z, wp (k z) Q Eh → P (em κ z) Λ) : WE C E Γ Λ e P :=
  we_mono (h1 _ (wp_bind h)) fun d Λ' ⟨e, z, e2, q⟩ => by subst e; subst e2; exact h2 z q
variable {Γ : Pl.Env} {R : Rs}
/-- behind a statement the state is of a shape -/
theorem ws_cutM {σ : Type} (sh : σ → Pl.Env → Cells → Prop) {s : Stmt} {m : M σ} {k : σ → M α} (h : wp (m.bind k) Q Eh) (h1 : ∀ Q', wp m Q' Eh → WS C Γ Λ s { R with nx := fun Γ Λ => ∃ st, sh st Γ Λ ∧ Q' st }) (h2 : ∀ st Γ Λ, sh st Γ Λ → wp (k st) Q Eh → R.nx Γ Λ) : WS C Γ Λ s R :=
  ws_mono (h1 _ (wp_bind h)) ⟨fun Γ Λ ⟨st, a, b⟩ => h2 st Γ Λ a b, fun _ _ z => z, fun _ _ z => z, fun _ _ z => z, fun _ _ _ z => z⟩
/-! ### loops -/
variable {tg : Expr} {ws : List Nat} {body : List Stmt}
theorem loopN {σ : Type} (sh : σ → Pl.Env → Cells → Prop) (f : σ → U → M σ)
    (hb : ∀ st x Γ Λ Q', sh st Γ Λ → wp (f st x) Q' Eh → WG C Γ Λ tg (em κ x) ws fun Γ' => WSs C Γ' Λ body { R with nx := fun Γ Λ => ∃ st, sh st Γ Λ ∧ Q' st, ct := fun Γ Λ => ∃ st, sh st Γ Λ ∧ Q' st, bk := fun _ _ => False }) :
    ∀ (xs : List U) (st : σ) (Γ : Pl.Env) (Λ : Cells), sh st Γ Λ → wp (forN f xs st) (fun st => ∀ Γ Λ, sh st Γ Λ → R.nx Γ Λ) Eh → LoopP C tg ws body R (ems κ xs) Γ Λ
  | [], st, Γ, Λ, hs, h => h Γ Λ hs
  | x :: xs, st, Γ, Λ, hs, h => by
    replace h := wp_bind h
    refine wg_mono (hb st x Γ Λ _ hs h) fun Γ' h' => ?_
    exact wss_mono h' ⟨fun Γ Λ ⟨st, a, b⟩ => loopN sh f hb xs st Γ Λ a b, fun _ _ z => z, fun _ _ z => z.elim, fun Γ Λ ⟨st, a, b⟩ => loopN sh f hb xs st Γ Λ a b, fun _ _ _ z => z⟩
theorem loopC {σ ρ : Type} (sh : σ → Pl.Env → Cells → Prop) (rt : ρ → Res → Cells → Prop) (f : σ → U → M (Ct σ ρ))
    (hb : ∀ st x Γ Λ Q', sh st Γ Λ → wp (f st x) Q' Eh → WG C Γ Λ tg (em κ x) ws fun Γ' => WSs C Γ' Λ body { R with nx := fun Γ Λ => ∃ st, sh st Γ Λ ∧ Q' (.nx st), ct := fun Γ Λ => ∃ st, sh st Γ Λ ∧ Q' (.nx st), bk := fun Γ Λ => ∃ st, sh st Γ Λ ∧ Q' (.bk st), rt := fun r Λ => ∃ c, rt c r Λ ∧ Q' (.rt c) }) :
    ∀ (xs : List U) (st : σ) (Γ : Pl.Env) (Λ : Cells), sh st Γ Λ → wp (forC f xs st) (fun c => match c with | .nx st => ∀ Γ Λ, sh st Γ Λ → R.nx Γ Λ | .bk _ => True | .rt c => ∀ r Λ, rt c r Λ → R.rt r Λ) Eh → LoopP C tg ws body R (ems κ xs) Γ Λ
  | [], st, Γ, Λ, hs, h => h Γ Λ hs
  | x :: xs, st, Γ, Λ, hs, h => by
    replace h := wp_bind h
    refine wg_mono (hb st x Γ Λ _ hs h) fun Γ' h' => ?_
    exact wss_mono h' ⟨fun Γ Λ ⟨st, a, b⟩ => loopC sh rt f hb xs st Γ Λ a b, fun r Λ ⟨c, a, b⟩ => b r Λ a, fun Γ Λ ⟨st, a, b⟩ => b Γ Λ a, fun Γ Λ ⟨st, a, b⟩ => loopC sh rt f hb xs st Γ Λ a b, fun _ _ _ z => z⟩
/-- a for as a whole -/
theorem loopN_m {σ : Type} (sh : σ → Pl.Env → Cells → Prop) {f : σ → U → M σ} {xs : List U} {st : σ} {k : σ → M α} (h : wp ((forN f xs st).bind k) Q Eh) (hs : sh st Γ Λ)
    (hb : ∀ st x Γ Λ Q', sh st Γ Λ → wp (f st x) Q' Eh → WG C Γ Λ tg (em κ x) ws fun Γ' => WSs C Γ' Λ body { R with nx := fun Γ Λ => ∃ st, sh st Γ Λ ∧ Q' st, ct := fun Γ Λ => ∃ st, sh st Γ Λ ∧ Q' st, bk := fun _ _ => False })
    (h2 : ∀ st Γ Λ, sh st Γ Λ → wp (k st) Q Eh → R.nx Γ Λ) : LoopP C tg ws body R (ems κ xs) Γ Λ :=
  loopN sh f hb xs st Γ Λ hs (wp_mono (wp_bind h) (fun st h Γ Λ hs => h2 st Γ Λ hs h) fun _ _ h => h)
theorem loopC_m {σ ρ : Type} (sh : σ → Pl.Env → Cells → Prop) (rt : ρ → Res → Cells → Prop) {f : σ → U → M (Ct σ ρ)} {xs : List U} {st : σ} {k : Ct σ ρ → M α} (h : wp ((forC f xs st).bind k) Q Eh) (hs : sh st Γ Λ)
    (hb : ∀ st x Γ Λ Q', sh st Γ Λ → wp (f st x) Q' Eh → WG C Γ Λ tg (em κ x) ws fun Γ' => WSs C Γ' Λ body { R with nx := fun Γ Λ => ∃ st, sh st Γ Λ ∧ Q' (.nx st), ct := fun Γ Λ => ∃ st, sh st Γ Λ ∧ Q' (.nx st), bk := fun Γ Λ => ∃ st, sh st Γ Λ ∧ Q' (.bk st), rt := fun r Λ => ∃ c, rt c r Λ ∧ Q' (.rt c) })
    (h2 : ∀ st Γ Λ, sh st Γ Λ → wp (k (.nx st)) Q Eh → R.nx Γ Λ) (h4 : ∀ c r Λ, rt c r Λ → wp (k (.rt c)) Q Eh → R.rt r Λ) : LoopP C tg ws body R (ems κ xs) Γ Λ := by
  refine loopC sh rt f hb xs st Γ Λ hs (wp_mono (wp_bind h) (fun c h => ?_) fun _ _ h => h)
  cases c with
  | nx st => exact fun Γ Λ hs => h2 st Γ Λ hs h
  | bk st => trivial
  | rt c => exact fun r Λ hr => h4 c r Λ hr h
/-- while -/
theorem whN_m {σ : Type} (sh : σ → Pl.Env → Cells → Prop) {c : Expr} {cM : σ → M Bool} {f : σ → M σ} {n : Nat} {st : σ} {k : σ → M α} {pos : Pos} (h : wp ((whN cM f n st).bind k) Q Eh) (hs : sh st Γ Λ)
    (hc : ∀ st Γ Λ Q', sh st Γ Λ → wp (cM st) Q' Eh → WT C R.er Γ Λ c fun b Λ' => Λ' = Λ ∧ Q' b)
    (hb : ∀ st Γ Λ Q', sh st Γ Λ → wp (f st) Q' Eh → WSs C Γ Λ body { R with nx := fun Γ Λ => ∃ st, sh st Γ Λ ∧ Q' st, ct := fun Γ Λ => ∃ st, sh st Γ Λ ∧ Q' st, bk := fun _ _ => False })
    (h2 : ∀ st Γ Λ, sh st Γ Λ → wp (k st) Q Eh → R.nx Γ Λ) : WS C Γ Λ (.While c body [] pos) R := by
  refine ws_while (fun m Γ Λ => ∃ st, sh st Γ Λ ∧ wp (whN cM f m st) (fun st => wp (k st) Q Eh) Eh) ⟨n, st, hs, wp_bind h⟩ fun m Γ Λ ⟨st, hs, h⟩ => ?_
  cases m with
  | zero => exact h.elim
  | succ m =>
    replace h := wp_bind h
    refine wt_mono (hc st Γ Λ _ hs h) fun b Λ' ⟨e, h⟩ => ?_
    subst e
    refine ite_m h (fun h => ?_) fun h => h2 st Γ Λ' hs h
    replace h := wp_bind h
    exact wss_mono (hb st Γ Λ' _ hs h) ⟨fun Γ Λ ⟨st, a, b⟩ => ⟨m, Nat.lt_succ_self m, st, a, b⟩, fun _ _ z => z, fun _ _ z => z.elim, fun Γ Λ ⟨st, a, b⟩ => ⟨m, Nat.lt_succ_self m, st, a, b⟩, fun _ _ _ z => z⟩
/-! ### comprehensions -/
theorem comp_cp {f : U → M U} {elt : Expr} {P : List D → Prop} (hb : ∀ x Q', wp (f x) Q' no → WG C Γ Λ tg (em κ x) ws fun Γ' => WE C ER.none Γ' Λ elt fun d Λ' => Λ' = Λ ∧ ∃ z, d = em κ z ∧ Q' z) :
    ∀ (xs : List U) (acc : List D), acc.length + xs.length < 10000000 → wp (mapC f xs) (fun zs => P (acc ++ ems κ zs)) no → CompP C Γ Λ tg ws [] elt P (ems κ xs) acc
  | [], acc, hm, h => by
    have h : P (acc ++ []) := h
    rw [List.append_nil] at h; exact h
  | x :: xs, acc, hm, h => by
    rw [List.length_cons] at hm
    refine ⟨by omega, wg_mono (hb x _ (wp_calm (wp_bind h))) fun Γ' h' => we_mono h' fun d Λ' ⟨e, z, e2, q⟩ => ⟨e, ?_⟩⟩
    subst e2
    refine comp_cp hb xs _ (by simp; omega) (wp_mono (wp_bind q) (fun zs q => ?_) fun _ _ h => h)
    have q : P (acc ++ (em κ z :: ems κ zs)) := q
    rw [List.append_assoc]; exact q
theorem comp_cf {g : U → M Bool} {f : U → M U} {elt c : Expr} {P : List D → Prop} (hb : ∀ x Qb Q', wp (g x) Qb no → (Qb true → wp (f x) Q' no) → WG C Γ Λ tg (em κ x) ws fun Γ' => WT C ER.none Γ' Λ c fun b Λ' => Λ' = Λ ∧ Qb b ∧ (b = true → WE C ER.none Γ' Λ elt fun d Λ' => Λ' = Λ ∧ ∃ z, d = em κ z ∧ Q' z)) :
    ∀ (xs : List U) (acc : List D), acc.length + xs.length < 10000000 → wp (filC g f xs) (fun zs => P (acc ++ ems κ zs)) no → CompP C Γ Λ tg ws [c] elt P (ems κ xs) acc
  | [], acc, hm, h => by
    have h : P (acc ++ []) := h
    rw [List.append_nil] at h; exact h
  | x :: xs, acc, hm, h => by
    rw [List.length_cons] at hm
    replace h := wp_calm (wp_bind h)
    refine ⟨by omega, wg_mono (hb x (fun b => wp (if b = true then (f x).calm.bind fun y => (filC g f xs).bind fun ys => .ok (y :: ys) else filC g f xs) (fun zs => P (acc ++ ems κ zs)) no) (fun z => wp ((filC g f xs).bind fun ys => .ok (z :: ys)) (fun zs => P (acc ++ ems κ zs)) no) h fun h => ?_) fun Γ' h' => wt_mono h' fun b Λ' ⟨e, q, r⟩ => ⟨e, ?_⟩⟩
    · rw [if_pos rfl] at h; exact wp_calm (wp_bind h)
    · cases b with
      | false =>
        rw [if_neg (by simp)] at q ⊢
        exact comp_cf hb xs _ (by omega) q
      | true =>
        rw [if_pos rfl]
        have e := e.symm; subst e
        refine we_mono (r rfl) fun d Λ' ⟨e, z, e2, q⟩ => ⟨e, ?_⟩
        subst e2
        refine comp_cf hb xs _ (by simp; omega) (wp_mono (wp_bind q) (fun zs q => ?_) fun _ _ h => h)
        have q : P (acc ++ (em κ z :: ems κ zs)) := q
        rw [List.append_assoc]; exact q
end
section
variable {κ : Kl} {C : Pl.Ctx} {Γ : Pl.Env} {Λ : Cells} {α : Type} {Q : α → Prop} {Eh : Str → List U → Prop} {tg : Expr} {ws : List Nat}
/-- a comprehension as a whole -/
theorem comp_m {f : U → M U} {elt : Expr} {P : List D → Prop} {xs : List U} {k : List U → M α} (h : wp ((compM f xs).bind k) Q Eh)
    (hb : ∀ x Q', wp (f x) Q' no → WG C Γ Λ tg (em κ x) ws fun Γ' => WE C ER.none Γ' Λ elt fun d Λ' => Λ' = Λ ∧ ∃ z, d = em κ z ∧ Q' z) (i : ∀ zs, wp (k zs) Q Eh → P (ems κ zs)) : CompP C Γ Λ tg ws [] elt P (ems κ xs) [] := by
  obtain ⟨h1, h2⟩ := wp_sz (wp_bind h)
  refine comp_cp hb xs [] (by simpa using h1) ?_
  have key : ∀ xs : List U, ∀ c us, mapC f xs ≠ .err c us := by
    intro xs
    induction xs with
    | nil => intro c us e; cases e
    | cons x xs ih =>
      intro c us e
      unfold mapC at e
      cases e1 : f x <;> rw [e1] at e <;> try cases e
      cases e2 : mapC f xs <;> rw [e2] at e <;> try cases e
      exact ih _ _ e2
  cases e : mapC f xs with
  | stuck => rw [e] at h2; exact h2.elim
  | err c us => exact absurd e (key _ _ _)
  | ok a => rw [e] at h2; exact i a h2
theorem compF_m {g : U → M Bool} {f : U → M U} {elt c : Expr} {P : List D → Prop} {xs : List U} {k : List U → M α} (h : wp ((compF g f xs).bind k) Q Eh)
    (hb : ∀ x Qb Q', wp (g x) Qb no → (Qb true → wp (f x) Q' no) → WG C Γ Λ tg (em κ x) ws fun Γ' => WT C ER.none Γ' Λ c fun b Λ' => Λ' = Λ ∧ Qb b ∧ (b = true → WE C ER.none Γ' Λ elt fun d Λ' => Λ' = Λ ∧ ∃ z, d = em κ z ∧ Q' z)) (i : ∀ zs, wp (k zs) Q Eh → P (ems κ zs)) : CompP C Γ Λ tg ws [c] elt P (ems κ xs) [] := by
  obtain ⟨h1, h2⟩ := wp_sz (wp_bind h)
  refine comp_cf hb xs [] (by simpa using h1) ?_
  have key : ∀ xs : List U, ∀ c us, filC g f xs ≠ .err c us := by
    intro xs
    induction xs with
    | nil => intro c us e; cases e
    | cons x xs ih =>
      intro c us e
      unfold filC at e
      cases e1 : g x <;> rw [e1] at e <;> try cases e
      rename_i b
      have e : (if b = true then _ else _) = M.err c us := e
      split at e
      · cases e3 : f x <;> rw [e3] at e <;> try cases e
        cases e2 : filC g f xs <;> rw [e2] at e <;> try cases e
        exact ih _ _ e2
      · exact ih _ _ e
  cases e : filC g f xs with
  | stuck => rw [e] at h2; exact h2.elim
  | err c us => exact absurd e (key _ _ _)
  | ok a => rw [e] at h2; exact i a h2
end
/-! ### defs -/
section
variable {κ : Kl} {G : Gl}
theorem fn_none {x : Str} {st : Stmt} {ps : List Str} {S : Pl.Spec} {qn : Str} (h : DefAt G.K G.mg x st ps qn) {k : Nat} (hn : ∀ ds Λ Q E, ¬ S ds Λ Q E) : G.fn k x ps.length S := h.none hn
theorem spV_none {n : Nat} {f : List U → M U} (hf : ∀ us, f us = .stuck) (ds : List D) (Λ : Cells) (Q : Res → Cells → Prop) (E : Err → Cells → Prop) : ¬ spV κ n f ds Λ Q E := fun ⟨_, us, _, _, h⟩ => by rw [hf] at h; exact h
theorem spN_none {n : Nat} {f : List U → M (List U)} (hf : ∀ us, f us = .stuck) (ds : List D) (Λ : Cells) (Q : Res → Cells → Prop) (E : Err → Cells → Prop) : ¬ spN κ n f ds Λ Q E := fun ⟨_, us, _, _, h⟩ => by rw [hf] at h; exact h
/-- the refusals that a def may leave with -/
def erM (κ : Kl) (Eh : Str → List U → Prop) : ER := fun e _ _ => ∃ c us, e = errD κ c us ∧ Eh c us
theorem EI.erM {Eh : Str → List U → Prop} : EI κ Eh (erM κ Eh) := fun c us _ _ h => ⟨c, us, rfl, h⟩
/-- what a def's body is to reach: a value -/
def rtV (κ : Kl) (Q : U → Prop) (r : Res) (Λ : Cells) : Prop := (∃ u, r = .val (em κ u) ∧ Q u) ∨ (∃ n ks us, r = .val (.loc n) ∧ Λ[n]? = some (.dic ks (ems κ us)) ∧ Q (.dic ks us))
/-- .. a new list -/
def rtL (κ : Kl) (Q : List U → Prop) (r : Res) (Λ : Cells) : Prop := (∃ us, r = .new (ems κ us) ∧ Q us) ∨ (∃ n us, r = .val (.loc n) ∧ Λ[n]? = some (.lst (ems κ us)) ∧ Q us)
theorem def_V {x : Str} {st : Stmt} {ps : List Str} {qn : Str} (h : DefAt G.K G.mg x st ps qn) {N : List Str} {vs ls : List Bool} {gl : List Str} {k : Nat} {f : List U → M U} (sc : FnScope N ps (defScope st)) (good : goodC N (defScope st) vs ls gl = true)
    (hb : ∀ us, us.length = ps.length → ∀ Q Eh, wp (f us) Q Eh → WSs (G.cx N (defScope st) vs ls gl k 0) (Γ0 N (ems κ us)) [] (defBody st) ⟨fun _ _ => Q .non, rtV κ Q, fun _ _ => False, fun _ _ => False, erM κ Eh⟩) : G.fn (k + 1) x ps.length (spV κ ps.length f) :=
  def_okC (m := 0) h sc good (fun ds Λ Q E ⟨h, _⟩ => by subst h; exact Nat.le_refl _) fun ds Λ Q E hl ⟨h0, us, h1, h2, h3⟩ => by
    subst h0; subst h1
    refine wss_mono (hb us h2 _ _ h3) ⟨fun Γ Λ p => ?_, fun r Λ p => ?_, fun _ _ z => z, fun _ _ z => z, fun e Γ Λ p => ?_⟩
    · exact ⟨0, Nat.le_refl _, rfl, .inl ⟨rfl, p⟩⟩
    · rcases p with ⟨u, rfl, q⟩ | ⟨n, ks, us, rfl, q1, q2⟩
      · exact ⟨0, Nat.le_refl _, rfl, .inl ⟨ltD_nl _ (nl_em u), q⟩⟩
      · exact ⟨0, Nat.le_refl _, rfl, .inr (.inr ⟨n, ks, _, Nat.zero_le _, rfl, q1, nls_em us, q2⟩)⟩
    · obtain ⟨c, es, rfl, q⟩ := p
      exact ⟨nlE_errD, rfl, q⟩
theorem def_N {x : Str} {st : Stmt} {ps : List Str} {qn : Str} (h : DefAt G.K G.mg x st ps qn) {N : List Str} {vs ls : List Bool} {gl : List Str} {k : Nat} {f : List U → M (List U)} (sc : FnScope N ps (defScope st)) (good : goodC N (defScope st) vs ls gl = true)
    (hb : ∀ us, us.length = ps.length → ∀ Q Eh, wp (f us) Q Eh → WSs (G.cx N (defScope st) vs ls gl k 0) (Γ0 N (ems κ us)) [] (defBody st) ⟨fun _ _ => False, rtL κ Q, fun _ _ => False, fun _ _ => False, erM κ Eh⟩) : G.fn (k + 1) x ps.length (spN κ ps.length f) :=
  def_okC (m := 0) h sc good (fun ds Λ Q E ⟨h, _⟩ => by subst h; exact Nat.le_refl _) fun ds Λ Q E hl ⟨h0, us, h1, h2, h3⟩ => by
    subst h0; subst h1
    refine wss_mono (hb us h2 _ _ h3) ⟨fun Γ Λ p => p.elim, fun r Λ p => ?_, fun _ _ z => z, fun _ _ z => z, fun e Γ Λ p => ?_⟩
    · rcases p with ⟨u, rfl, q⟩ | ⟨n, us, rfl, q1, q2⟩
      · exact ⟨0, Nat.le_refl _, rfl, .inl ⟨nls_em u, q⟩⟩
      · exact ⟨0, Nat.le_refl _, rfl, .inr (.inl ⟨n, _, Nat.zero_le _, rfl, q1, nls_em us, q2⟩)⟩
    · obtain ⟨c, es, rfl, q⟩ := p
      exact ⟨nlE_errD, rfl, q⟩
/-- the law's own def -/
theorem law_M {x p : Str} {st : Stmt} {N : List Str} {vs ls : List Bool} {gl : List Str} {k n : Nat} {f : Addr} {fd : FuncData} {m : List U → M U} (F : Fun G.K x x st f fd) (sc : FnScope N [p] (defScope st)) (good : goodC N (defScope st) vs ls gl = true)
    (hb : ∀ us, us.length = 1 → ∀ Q Eh, wp (m us) Q Eh → WSs (G.cx N (defScope st) vs ls gl k 0) (Γ0 N (ems κ us)) [] (defBody st) ⟨fun _ _ => Q .non, rtV κ Q, fun _ _ => False, fun _ _ => False, erM κ Eh⟩)
    (hm : ∀ ns : List Int, ns.length ≤ n → m [.fzl (ns.map .int)] = .ok (.bl true)) : FnG G.P G.w G.K G.mg G.base (L2.CX G.P G.w) (k + 1) f fd [p] (spOf G.K 1 (lawSpec n)) :=
  law_ok F sc good fun ns hl => by
    have e : [em κ (.fzl (ns.map .int))] = [D.fzl (ns.map .int)] := by rw [em, ems_map, List.map_map]; rfl
    have := hb [.fzl (ns.map .int)] rfl (fun u => u = .bl true) no (by rw [hm ns hl]; exact rfl)
    have e2 : ems κ [.fzl (ns.map .int)] = [D.fzl (ns.map .int)] := e
    rw [e2] at this
    refine wss_mono this ⟨fun Γ Λ p => (by cases p), fun r Λ p => ?_, fun _ _ z => z, fun _ _ z => z, fun e Γ Λ p => ?_⟩
    · rcases p with ⟨u, rfl, rfl⟩ | ⟨n, ks, us, rfl, q1, q2⟩
      · rfl
      · cases q2
    · obtain ⟨c, es, rfl, q⟩ := p
      exact q
end
end Sh

/-! Sh4: the rules of expressions, in the pure reading. -/
namespace Sh
open PySem L2 Pl PyProof.Rows
abbrev Tr : Str → List U → Prop := fun _ _ => True
theorem wp_ret {α : Type} {m : M α} {P : α → Prop} {E : Str → List U → Prop} (h : wp m P E) : wp (m.bind .ok) P E := by cases m <;> exact h
section
variable {κ : Kl} {Λ : Cells} {α β : Type} {Q : α → Prop} {Eh : Str → List U → Prop} {x y : D}
theorem fin0 {m : M β} {k : β → M α} {P : β → Prop} (h : wp (m.bind k) Q Eh) (i : ∀ z, wp (k z) Q Eh → P z) : wp m P Tr := wp_mono (wp_bind h) i fun _ _ _ => trivial
theorem fin1 {f : U → M β} {k : β → M α} {P : β → Prop} (u : U) (hx : Vw κ Λ x u) (h : wp ((f u).bind k) Q Eh) (i : ∀ z, wp (k z) Q Eh → P z) : ∃ u, Vw κ Λ x u ∧ wp (f u) P Tr := ⟨u, hx, fin0 h i⟩
/-- the arguments of a call -/
theorem finF {β : Type} {n : Nat} {f : List U → M β} {E : ER} {Γ : Pl.Env} {ds : List D} {k : β → M α} {P : β → Prop} (us : List U) (hd : ds = ems κ us) (hn : us.length = n) (hE : EI κ Eh E) (h : wp ((f us).bind k) Q Eh) (i : ∀ z, wp (k z) Q Eh → P z) : ∃ us, ds = ems κ us ∧ us.length = n ∧ wp (f us) P (fun c es => E (errD κ c es) Γ Λ) :=
  ⟨us, hd, hn, wp_mono (wp_bind h) i fun c es h => hE _ _ _ _ h⟩
theorem fin2 {f : U → U → M β} {k : β → M α} {P : β → Prop} (u v : U) (hx : Vw κ Λ x u) (hy : Vw κ Λ y v) (h : wp ((f u v).bind k) Q Eh) (i : ∀ z, wp (k z) Q Eh → P z) : ∃ u v, Vw κ Λ x u ∧ Vw κ Λ y v ∧ wp (f u v) P Tr := ⟨u, v, hx, hy, fin0 h i⟩
end
section
variable {κ : Kl} {C : Pl.Ctx} {E : ER} {Γ : Pl.Env} {Λ : Cells} {P : D → Cells → Prop} {Pt : Bool → Cells → Prop} {Pn : List D → Cells → Prop} {pos p : Pos} {a b e e2 : Expr}
/-- two operands, an operation -/
abbrev Op2 (κ : Kl) (C : Pl.Ctx) (E : ER) (Γ : Pl.Env) (Λ : Cells) (a b : Expr) (f : U → U → M U) (P : D → Cells → Prop) : Prop := WE C E Γ Λ a fun x Λ1 => WE C E Γ Λ1 b fun y Λ2 => ∃ u v, Vw κ Λ2 x u ∧ Vw κ Λ2 y v ∧ wp (f u v) (fun z => P (em κ z) Λ2) Tr
abbrev Op2t (κ : Kl) (C : Pl.Ctx) (E : ER) (Γ : Pl.Env) (Λ : Cells) (a b : Expr) (f : U → U → M Bool) (P : Bool → Cells → Prop) : Prop := WE C E Γ Λ a fun x Λ1 => WE C E Γ Λ1 b fun y Λ2 => ∃ u v, Vw κ Λ2 x u ∧ Vw κ Λ2 y v ∧ wp (f u v) (fun z => P z Λ2) Tr
abbrev Op1 (κ : Kl) (C : Pl.Ctx) (E : ER) (Γ : Pl.Env) (Λ : Cells) (a : Expr) (f : U → M U) (P : D → Cells → Prop) : Prop := WE C E Γ Λ a fun x Λ1 => ∃ u, Vw κ Λ1 x u ∧ wp (f u) (fun z => P (em κ z) Λ1) Tr
abbrev Op1n (κ : Kl) (C : Pl.Ctx) (E : ER) (Γ : Pl.Env) (Λ : Cells) (a : Expr) (f : U → M (List U)) (P : List D → Cells → Prop) : Prop := WE C E Γ Λ a fun x Λ1 => ∃ u, Vw κ Λ1 x u ∧ wp (f u) (fun z => P (ems κ z) Λ1) Tr
theorem we_addM (h : Op2 κ C E Γ Λ a b addM P) : WE C E Γ Λ (.BinOp a .Add b pos) P := we_add (we_mono h fun x Λ1 h => we_mono h fun y Λ2 ⟨u, v, hx, hy, h⟩ => addP_m (P := fun d => P d Λ2) u v hx hy (wp_ret h) fun z h => h)
theorem we_mulM (h : Op2 κ C E Γ Λ a b mulM P) : WE C E Γ Λ (.BinOp a .Mult b pos) P := we_mul (we_mono h fun x Λ1 h => we_mono h fun y Λ2 ⟨u, v, hx, hy, h⟩ => mulP_m (P := fun d => P d Λ2) u v hx hy (wp_ret h) fun z h => h)
theorem we_fdivM (h : Op2 κ C E Γ Λ a b fdivM P) : WE C E Γ Λ (.BinOp a .FloorDiv b pos) P := we_fdiv (we_mono h fun x Λ1 h => we_mono h fun y Λ2 ⟨u, v, hx, hy, h⟩ => fdivP_m (P := fun d => P d Λ2) u v hx hy (wp_ret h) fun z h => h)
theorem we_modM (h : Op2 κ C E Γ Λ a b modM P) : WE C E Γ Λ (.BinOp a .Mod b pos) P := we_mod (we_mono h fun x Λ1 h => we_mono h fun y Λ2 ⟨u, v, hx, hy, h⟩ => modP_m (P := fun d => P d Λ2) u v hx hy (wp_ret h) fun z h => h)
theorem we_negM (h : Op1 κ C E Γ Λ a negM P) : WE C E Γ Λ (.UnaryOp .USub a pos) P := we_neg (we_mono h fun x Λ1 ⟨u, hx, h⟩ => negP_m (P := fun d => P d Λ1) u hx (wp_ret h) fun z h => h)
/-! comparisons, as values and as tests -/
abbrev vB (f : U → U → M Bool) (u v : U) : M U := (f u v).bind fun b => .ok (.bl b)
theorem vB_wp {m : M Bool} {P : U → Prop} (h : wp (m.bind fun b => .ok (.bl b)) P Tr) : wp m (fun b => P (.bl b)) Tr := by cases m <;> exact h
abbrev nB (f : U → U → M Bool) (u v : U) : M Bool := (f u v).bind fun b => .ok (!b)
theorem nB_wp {m : M Bool} {P : Bool → Prop} (h : wp (m.bind fun b => .ok (!b)) P Tr) : wp m (fun b => P (!b)) Tr := by cases m <;> exact h
theorem wt_eqM (h : Op2t κ C E Γ Λ a b eqM Pt) : WT C E Γ Λ (.Compare a [.Eq] [b] pos) Pt := wt_eq (we_mono h fun x Λ1 h => we_mono h fun y Λ2 ⟨u, v, hx, hy, h⟩ => eqP_m (Pb := fun d => Pt d Λ2) u v hx hy (wp_ret h) fun z h => h)
theorem wt_neM (h : Op2t κ C E Γ Λ a b (nB eqM) Pt) : WT C E Γ Λ (.Compare a [.NotEq] [b] pos) Pt := wt_ne (we_mono h fun x Λ1 h => we_mono h fun y Λ2 ⟨u, v, hx, hy, h⟩ => eqP_m (Pb := fun d => Pt (!d) Λ2) u v hx hy (wp_ret (nB_wp h)) fun z h => h)
theorem wt_ltM (h : Op2t κ C E Γ Λ a b ltM Pt) : WT C E Γ Λ (.Compare a [.Lt] [b] pos) Pt := wt_lt (we_mono h fun x Λ1 h => we_mono h fun y Λ2 ⟨u, v, hx, hy, h⟩ => ltP_m (Pb := fun d => Pt d Λ2) u v hx hy (wp_ret h) fun z h => h)
theorem wt_gtM (h : Op2t κ C E Γ Λ a b gtM Pt) : WT C E Γ Λ (.Compare a [.Gt] [b] pos) Pt := wt_gt (we_mono h fun x Λ1 h => we_mono h fun y Λ2 ⟨u, v, hx, hy, h⟩ => gtP_m (Pb := fun d => Pt d Λ2) u v hx hy (wp_ret h) fun z h => h)
theorem wt_inM (h : Op2t κ C E Γ Λ a b inM Pt) (hm : behindInMarks .In b = false := by rfl) : WT C E Γ Λ (.Compare a [.In] [b] pos) Pt := wt_in (we_mono h fun x Λ1 h => we_mono h fun y Λ2 ⟨u, v, hx, hy, h⟩ => inP_m (Pb := fun d => Pt d Λ2) u v hx hy (wp_ret h) fun z h => h) hm
theorem wt_ninM (h : Op2t κ C E Γ Λ a b (nB inM) Pt) (hm : behindInMarks .NotIn b = false := by rfl) : WT C E Γ Λ (.Compare a [.NotIn] [b] pos) Pt := wt_nin (we_mono h fun x Λ1 h => we_mono h fun y Λ2 ⟨u, v, hx, hy, h⟩ => inP_m (Pb := fun d => Pt (!d) Λ2) u v hx hy (wp_ret (nB_wp h)) fun z h => h) hm
theorem we_eqM (h : Op2 κ C E Γ Λ a b (vB eqM) P) : WE C E Γ Λ (.Compare a [.Eq] [b] pos) P := we_eq (we_mono h fun x Λ1 h => we_mono h fun y Λ2 ⟨u, v, hx, hy, h⟩ => eqP_m (Pb := fun d => P (.bl d) Λ2) u v hx hy (wp_ret (vB_wp h)) fun z h => h)
/-- x is not None -/
def isntM (x y : U) : M Bool := match y with
  | .non => .ok (!isNone x)
  | _ => .stuck
theorem isntP {u v : U} {x y : D} {P' : Bool → Prop} (hx : Vw κ Λ x u) (hy : Vw κ Λ y v) (h : wp (isntM u v) P' Tr) : y = .non ∧ ∃ c, isN x = some c ∧ P' (!c) := by
  unfold isntM at h
  split at h
  · have h2 : isP x y (fun c => P' (!c)) := isP_m (Pb := fun d => P' (!d)) (Q := fun b => P' (!b)) (Eh := Tr) (kb := .ok) u .non hx hy h fun z h => h
    have e2 : y = .non := hy.atom (by simp) (by simp) (by simp)
    subst e2
    exact ⟨rfl, h2⟩
  · exact h.elim
theorem wt_isntM (h : Op2t κ C E Γ Λ a b isntM Pt) : WT C E Γ Λ (.Compare a [.IsNot] [b] pos) Pt :=
  wt_isnt (we_mono h fun x Λ1 h => we_mono h fun y Λ2 ⟨u, v, hx, hy, h⟩ => isntP (P' := fun c => Pt c Λ2) hx hy h)
/-! and, or, not, tests by value -/
theorem we_andM {rest : List Expr} (h : WE C E Γ Λ a fun x Λ1 => ∃ u, Vw κ Λ1 x u ∧ wp (boolM u) (fun c => if c = true then WE C E Γ Λ1 (.BoolOp .And (b :: rest) pos) P else P (.bl false) Λ1) Tr) : WE C E Γ Λ (.BoolOp .And (a :: b :: rest) pos) P :=
  we_and (we_mono h fun x Λ1 ⟨u, hx, h⟩ => boolP_m u hx (wp_ret h) fun z h => h)
theorem wt_valM (h : WE C E Γ Λ a fun x Λ1 => ∃ u, Vw κ Λ1 x u ∧ wp (boolM u) (fun c => Pt c Λ1) Tr) (he : ∀ (env : PySem.Env) whole, isTrue a env whole = (do let v ← whole; standAt a.pos; holding [v] (truthy v)) := by intro _ _; rfl) : WT C E Γ Λ a Pt :=
  wt_val (we_mono h fun x Λ1 ⟨u, hx, h⟩ => boolP_m (Pb := fun c => Pt c Λ1) u hx (wp_ret h) fun z h => h) he
/-! subscripts, slices -/
theorem we_ixM (h : Op2 κ C E Γ Λ a b ixM P) (hs : PlainIx b := by intro _ _; rfl) : WE C E Γ Λ (.Subscript a b pos) P := we_ix (we_mono h fun x Λ1 h => we_mono h fun y Λ2 ⟨u, v, hx, hy, h⟩ => ixP_m (P := fun d => P d Λ2) u v hx hy (wp_ret h) fun z h => h) hs
/-- a slice's end -/
def WOM (κ : Kl) (C : Pl.Ctx) (E : ER) (Γ : Pl.Env) (Λ : Cells) : Option Expr → (Option Int → Cells → Prop) → Prop
  | none, P => P none Λ
  | some e, P => WE C E Γ Λ e fun x Λ1 => ∃ u, Vw κ Λ1 x u ∧ wp (endM u) (fun z => P z Λ1) Tr
theorem wo_of {o : Option Expr} {P : Option Int → Cells → Prop} (h : WOM κ C E Γ Λ o P) : WO C E Γ Λ o P := by
  cases o with
  | none => exact h
  | some e => exact we_mono h fun x Λ1 ⟨u, hx, h⟩ => endP_m (Po := fun z => P z Λ1) u hx (wp_ret h) fun z h => h
theorem wo_mono {o : Option Expr} {P P' : Option Int → Cells → Prop} (h : WO C E Γ Λ o P) (i : ∀ z Λ, P z Λ → P' z Λ) : WO C E Γ Λ o P' := by
  cases o with
  | none => exact i _ _ h
  | some e => exact we_mono h fun x Λ1 ⟨j, e, h⟩ => ⟨j, e, i _ _ h⟩
theorem we_slM {lo hi : Option Expr} {p2 : Pos} (h : WE C E Γ Λ a fun x Λ1 => WOM κ C E Γ Λ1 lo fun l Λ2 => WOM κ C E Γ Λ2 hi fun r Λ3 => ∃ u, Vw κ Λ3 x u ∧ wp (slM u l r) (fun z => P (em κ z) Λ3) Tr) : WE C E Γ Λ (.Subscript a (.Slice lo hi none p2) pos) P :=
  we_sl (we_mono h fun x Λ1 h => wo_mono (wo_of h) fun l Λ2 h => wo_mono (wo_of h) fun r Λ3 ⟨u, hx, h⟩ => slP_m (P := fun d => P d Λ3) u hx (wp_ret h) fun z h => h)
/-- xs + ys, a new list -/
def addnM : U → U → M (List U)
  | .lst xs, .lst ys => sz (xs.length + ys.length) (.ok (xs ++ ys))
  | _, _ => .stuck
theorem wn_addM (h : WE C E Γ Λ a fun x Λ1 => WE C E Γ Λ1 b fun y Λ2 => ∃ u v, Vw κ Λ2 x u ∧ Vw κ Λ2 y v ∧ wp (addnM u v) (fun z => Pn (ems κ z) Λ2) Tr) : WN C E Γ Λ (.BinOp a .Add b pos) Pn :=
  wn_add (we_mono h fun x Λ1 h => we_mono h fun y Λ2 ⟨u, v, hx, hy, h⟩ => by
    unfold addnM at h
    split at h
    · obtain ⟨h1, h2⟩ := wp_sz h
      refine ⟨_, _, hx, hy, by rw [ems_len, ems_len]; exact sz_line h1, ?_⟩
      have h2 : Pn (ems κ (_ ++ _)) Λ2 := h2
      rw [ems_app] at h2; exact h2
    · exact h.elim)
/-! built-ins -/
theorem we_lenM (hj : GlAt C "len") (hm : C.mg "len" = none) (h : Op1 κ C E Γ Λ e lenM P) (he : plainE e = true := by rfl) : WE C E Γ Λ (.Call (.Name "len" p) [e] [] pos) P := we_len hj hm (we_mono h fun x Λ1 ⟨u, hx, h⟩ => lenP_m (P := fun d => P d Λ1) u hx (wp_ret h) fun z h => h) he
theorem wn_listM (hj : GlAt C "list") (hm : C.mg "list" = none) (h : Op1n κ C E Γ Λ e listM Pn) (he : plainE e = true := by rfl) : WN C E Γ Λ (.Call (.Name "list" p) [e] [] pos) Pn := wn_list hj hm (we_mono h fun x Λ1 ⟨u, hx, h⟩ => listP_m (Pl' := fun d => Pn d Λ1) u hx (wp_ret h) fun z h => h) he
theorem we_allM [Cool C] (hj : GlAt C "all") (hm : C.mg "all" = none) (h : Op1 κ C E Γ Λ e allM P) (he : plainE e = true := by rfl) : WE C E Γ Λ (.Call (.Name "all" p) [e] [] pos) P := we_all hj hm (we_mono h fun x Λ1 ⟨u, hx, h⟩ => allP_m (P := fun d => P d Λ1) u hx (wp_ret h) fun z h => h) he
theorem we_intM (hj : GlAt C "int") (hm : C.mg "int" = none) (h : Op1 κ C E Γ Λ e intM P) (he : plainE e = true := by rfl) : WE C E Γ Λ (.Call (.Name "int" p) [e] [] pos) P := we_toInt hj hm (we_mono h fun x Λ1 ⟨u, hx, h⟩ => intOfP_m (P := fun d => P d Λ1) u hx (wp_ret h) fun z h => h) he
theorem we_isiM {x : Str} {T : String} {p2 : Pos} (hj : GlAt C "isinstance") (hm : C.mg "isinstance" = none) (hj2 : GlAt C x) (hm2 : C.mg x = none) (hv : bootBuiltins x = some (.type T)) (h : Op1 κ C E Γ Λ e (fun u => isiM u T) P) (he : plainE e = true := by rfl)
    (hn : x ≠ "__name__" := by decide) (hd : (x == ("__debug__" : Str)) = false := by decide) : WE C E Γ Λ (.Call (.Name "isinstance" p) [e, .Name x p2] [] pos) P := we_isiN hj hm hj2 hm2 hv (we_mono h fun x Λ1 ⟨u, hx, h⟩ => isiP_m (P := fun d => P d Λ1) u hx (wp_ret h) fun z h => h) he hn hd
/-! what is walked -/
variable {tg : Expr}
theorem wi_range1M (hj : GlAt C "range") (hm : C.mg "range" = none) (h : Op1n κ C E Γ Λ a range1M Pn) (ha : plainE a = true := by rfl) : WI C E Γ Λ tg (.Call (.Name "range" p) [a] [] pos) Pn := wi_range1 hj hm (we_mono h fun x Λ1 ⟨u, hx, h⟩ => rng1P_m (Pl' := fun d => Pn d Λ1) u hx (wp_ret h) fun z h => h) ha
abbrev OpI (κ : Kl) (C : Pl.Ctx) (E : ER) (Γ : Pl.Env) (Λ : Cells) (a : Expr) (f : U → M (List U)) (P : List D → Cells → Prop) : Prop := WE C E Γ Λ a fun x Λ1 => ∃ u, x = em κ u ∧ wp (f u) (fun z => P (ems κ z) Λ1) Tr
theorem wi_LM (h : OpI κ C E Γ Λ e iterL Pn) : WI C E Γ Λ tg e Pn := wi_list (we_mono h fun x Λ1 ⟨u, hx, h⟩ => by subst hx; exact iterLP_m (Pl' := fun d => Pn d Λ1) u (wp_ret h) fun z h => h)
theorem finI {α : Type} {Q : α → Prop} {Eh : Str → List U → Prop} {f : U → M (List U)} {k : List U → M α} {P : List U → Prop} (u : U) (h : wp ((f u).bind k) Q Eh) (i : ∀ z, wp (k z) Q Eh → P z) : ∃ v, em κ u = em κ v ∧ wp (f v) P Tr := ⟨u, rfl, fin0 h i⟩
/-! targets -/
variable {α : Type} {Q : α → Prop} {Eh : Str → List U → Prop} {ws : List Nat} {Pg : Pl.Env → Prop}
theorem tg2 {k : U × U → M α} (u : U) (h : wp ((un2 u).bind k) Q Eh) (i : ∀ a b, wp (k (a, b)) Q Eh → WG C Γ Λ tg (.tup [em κ a, em κ b]) ws Pg) : WG C Γ Λ tg (em κ u) ws Pg := by
  replace h := wp_bind h
  unfold un2 at h
  split at h
  · exact i _ _ h
  · exact h.elim
/-! methods of owned lists -/
variable {apos cpos : Pos} {o : Expr}
theorem we_appM (n : Nat) (h : WE C E Γ Λ o fun x Λ1 => x = .loc n ∧ (∃ us : List U, Λ1[n]? = some (.lst (ems κ us))) ∧ WE C E Γ Λ1 e fun y Λ2 => ∃ us u, y = em κ u ∧ Λ2[n]? = some (.lst (ems κ us)) ∧ wp (appM us u) (fun z => P .non (Λ2.set n (.lst (ems κ z)))) Tr)
    (ho : plainO o = true := by rfl) (he : plainE e = true := by rfl) (hl : (apos.endLine == cpos.line) = true := by rfl) : WE C E Γ Λ (.Call (.Attribute o "append" apos) [e] [] cpos) P :=
  we_append (we_mono h fun x Λ1 ⟨hx, ⟨us0, h0⟩, h⟩ => ⟨n, _, hx, h0, we_mono h fun y Λ2 ⟨us, u, hy, h1, h⟩ => by
    subst hy
    obtain ⟨h2, h3⟩ := wp_sz h
    refine ⟨_, h1, by rw [ems_len]; exact sz_ltt h2, ?_⟩
    have h3 : P .non (Λ2.set n (.lst (ems κ (us ++ [u])))) := h3
    rw [ems_app] at h3; exact h3⟩) ho he hl
theorem we_popM (n : Nat) (h : WE C E Γ Λ o fun x Λ1 => x = .loc n ∧ ∃ us, Λ1[n]? = some (.lst (ems κ us)) ∧ wp (popM us) (fun z => P (em κ z.1) (Λ1.set n (.lst (ems κ z.2)))) Tr)
    (ho : plainO o = true := by rfl) (hl : (apos.endLine == cpos.line) = true := by rfl) : WE C E Γ Λ (.Call (.Attribute o "pop" apos) [] [] cpos) P :=
  we_pop (we_mono h fun x Λ1 ⟨hx, us, h1, h⟩ => by
    subst hx
    exact popP_m (P := P) (Q := fun z : U × List U => P (em κ z.1) (Λ1.set n (.lst (ems κ z.2)))) (Eh := Tr) (k := .ok) h1 (wp_ret h) fun z vs h => (show (fun z : U × List U => P (em κ z.1) (Λ1.set n (.lst (ems κ z.2)))) (z, vs) from h)) ho hl
theorem we_extM (n : Nat) (h : WE C E Γ Λ o fun x Λ1 => x = .loc n ∧ (∃ us : List U, Λ1[n]? = some (.lst (ems κ us))) ∧ WE C E Γ Λ1 e fun y Λ2 => ∃ us u, Vw κ Λ2 y u ∧ Λ2[n]? = some (.lst (ems κ us)) ∧ wp (extM us u) (fun z => P .non (Λ2.set n (.lst (ems κ z)))) Tr)
    (ho : plainO o = true := by rfl) (he : plainE e = true := by rfl) (hl : (apos.endLine == cpos.line) = true := by rfl) : WE C E Γ Λ (.Call (.Attribute o "extend" apos) [e] [] cpos) P :=
  we_extend (we_mono h fun x Λ1 ⟨hx, ⟨us0, h0⟩, h⟩ => ⟨n, _, hx, h0, we_mono h fun y Λ2 ⟨us, u, hy, h1, h⟩ =>
    extP_m (P := fun d Λ => P d Λ) u hy h1 (wp_ret h) fun z h => h⟩) ho he hl
/-- owned: the end of an operation on a cell's list -/
theorem finC {β : Type} {f : List U → M β} {n : Nat} {k : β → M α} {P : β → Prop} (us : List U) (hn : Λ[n]? = some (.lst (ems κ us))) (h : wp ((f us).bind k) Q Eh) (i : ∀ z, wp (k z) Q Eh → P z) : ∃ us, Λ[n]? = some (.lst (ems κ us)) ∧ wp (f us) P Tr := ⟨us, hn, fin0 h i⟩
theorem finA {f : List U → U → M (List U)} {n : Nat} {k : List U → M α} {P : List U → Prop} (us : List U) (u : U) (hn : Λ[n]? = some (.lst (ems κ us))) (h : wp ((f us u).bind k) Q Eh) (i : ∀ z, wp (k z) Q Eh → P z) : ∃ us v, em κ u = em κ v ∧ Λ[n]? = some (.lst (ems κ us)) ∧ wp (f us v) P Tr := ⟨us, u, rfl, hn, fin0 h i⟩
theorem finV {f : List U → U → M (List U)} {n : Nat} {y : D} {k : List U → M α} {P : List U → Prop} (us : List U) (u : U) (hy : Vw κ Λ y u) (hn : Λ[n]? = some (.lst (ems κ us))) (h : wp ((f us u).bind k) Q Eh) (i : ∀ z, wp (k z) Q Eh → P z) : ∃ us v, Vw κ Λ y v ∧ Λ[n]? = some (.lst (ems κ us)) ∧ wp (f us v) P Tr := ⟨us, u, hy, hn, fin0 h i⟩
variable {R : Rs} {pos' : Pos} {i : Expr}
theorem rtV_v {Q : U → Prop} {u : U} (h : Q u) : rtV κ Q (.val (em κ u)) Λ := .inl ⟨u, rfl, h⟩
theorem rtL_v {Q : List U → Prop} {us : List U} (h : Q us) : rtL κ Q (.new (ems κ us)) Λ := .inl ⟨us, rfl, h⟩
theorem rtL_o {Q : List U → Prop} {n : Nat} {us : List U} (hn : Λ[n]? = some (.lst (ems κ us))) (h : Q us) : rtL κ Q (.val (.loc n)) Λ := .inr ⟨n, us, rfl, hn, h⟩
theorem rtV_imp {Q : U → Prop} {c : U} {r : Res} (hr : rtV κ (fun u => u = c) r Λ) (h : Q c) : rtV κ Q r Λ := by
  rcases hr with ⟨u, rfl, rfl⟩ | ⟨n, ks, us, rfl, h1, h2⟩
  · exact .inl ⟨_, rfl, h⟩
  · subst h2; exact .inr ⟨n, ks, us, rfl, h1, h⟩
/-- a list that was owned is seen from now on; slot j told it -/
theorem freezeM {st : List Stmt} (n j : Nat) (us : List U) (hm0 : C.m ≤ n) (hn : Λ[n]? = some (.lst (ems κ us))) (hg : Γ[j]? = some (some (.loc n))) (h : WSs C (Γ.set j (some (em κ (.lst us)))) (Λ.set n .gone) st R) : WSs C Γ Λ st R :=
  wss_freeze n (ems κ us) hm0 hn _ (by simp) (fun i d hi => by
    by_cases e : j = i
    · subst e
      rw [List.getElem?_set_self (List.getElem?_eq_some_iff.mp hg).1] at hi
      cases hi
      exact .inr ⟨hg, rfl⟩
    · rw [List.getElem?_set_ne e] at hi
      exact .inl hi) h
theorem szd {n : Nat} (h : n < 10000000) : n ≤ sizeLine := Pl.sz_lt h
theorem len1 {us : List U} (h : us.length = 1) : ∃ a, us = [a] := by
  match us, h with
  | [a], _ => exact ⟨a, rfl⟩
theorem len2 {us : List U} (h : us.length = 2) : ∃ a b, us = [a, b] := by
  match us, h with
  | [a, b], _ => exact ⟨a, b, rfl⟩
theorem len3 {us : List U} (h : us.length = 3) : ∃ a b c, us = [a, b, c] := by
  match us, h with
  | [a, b, c], _ => exact ⟨a, b, c, rfl⟩
theorem len4 {us : List U} (h : us.length = 4) : ∃ a b c d, us = [a, b, c, d] := by
  match us, h with
  | [a, b, c, d], _ => exact ⟨a, b, c, d, rfl⟩
end
end Sh

/-! Sh5: sayings as pure data; sorted. -/
namespace Sh
open PySem L2 Pl Law
/-- a saying's datum -/
def su : Sy → U
  | .no => .tup [.str "no"]
  | .lt l => .tup [.str "letter", .str l.s]
  | .not a => .tup [.str "not", su a]
  | .shown a => .tup [.str "shown", su a]
  | .bin o a b => .tup [.str o.s, su a, su b]
theorem em_su {κ : Kl} : ∀ s : Sy, em κ (su s) = s.pv
  | .no => rfl
  | .lt l => rfl
  | .not a => by rw [su, em, ems, ems, ems, em_su a]; rfl
  | .shown a => by rw [su, em, ems, ems, ems, em_su a]; rfl
  | .bin o a b => by rw [su, em, ems, ems, ems, ems, em_su a, em_su b]; rfl
theorem ems_su {κ : Kl} (ss : List Sy) : ems κ (ss.map su) = ss.map Sy.pv := by
  rw [ems_map, List.map_map]; exact List.map_congr_left fun s _ => em_su s
theorem pyU_su (s : Sy) : pyU (su s) = py s.pv := by rw [← em_su (κ := ⟨fun _ => 0, fun _ => []⟩) s, py_em]
theorem su_inj {s t : Sy} (h : su s = su t) : s = t := pv_inj (by rw [← pyU_su, ← pyU_su, h])
theorem map_inj {α β : Type} {f : α → β} (hf : ∀ a b, f a = f b → a = b) : ∀ {xs ys : List α}, xs.map f = ys.map f → xs = ys
  | [], [], _ => rfl
  | [], _ :: _, h => by simp at h
  | _ :: _, [], h => by simp at h
  | x :: xs, y :: ys, h => by
    rw [List.map_cons, List.map_cons, List.cons.injEq] at h
    rw [hf _ _ h.1, map_inj hf h.2]
end Sh
namespace Law
open PySem L2 Pl
/-- letters, in their order -/
def leL (a b : Lt) : Bool := decide (a.ix ≤ b.ix)
def sortL (ls : List Lt) : List Lt := ls.mergeSort leL
theorem leL_trans (a b c : Lt) (h : leL a b = true) (g : leL b c = true) : leL a c = true := by
  unfold leL at *; rw [decide_eq_true_eq] at *; omega
theorem leL_total (a b : Lt) : (leL a b || leL b a) = true := by
  unfold leL; rw [Bool.or_eq_true, decide_eq_true_eq, decide_eq_true_eq]; omega
theorem sortL_perm (ls : List Lt) : (sortL ls).Perm ls := List.mergeSort_perm ls leL
theorem sortL_pw (ls : List Lt) : (sortL ls).Pairwise fun a b => leL a b = true := List.pairwise_mergeSort leL_trans leL_total ls
theorem lix_inj {a b : Lt} (h : a.ix = b.ix) : a = b := by cases a <;> cases b <;> first | rfl | cases h
theorem leL_anti {a b : Lt} (h : leL a b = true) (g : leL b a = true) : a = b := by
  unfold leL at h g; rw [decide_eq_true_eq] at h g; exact lix_inj (by omega)
theorem sortL_uniq {l ls : List Lt} (hp : l.Perm ls) (hs : l.Pairwise fun a b => leL a b = true) : l = sortL ls :=
  List.Perm.eq_of_pairwise (le := fun a b => leL a b = true) (fun a b _ _ h g => leL_anti h g) hs (sortL_pw ls) (hp.trans (sortL_perm ls).symm)
theorem lt_leL : ∀ a b : Lt, PySem.Spec.ltCps b.s.cps.toList a.s.cps.toList = !leL a b := by intro a b; cases a <;> cases b <;> decide +kernel
theorem rising_L : ∀ (ms : List Lt) (a : Lt), PyProof.Rows.risingS a.s (ms.map Lt.s) = true → (a :: ms).Pairwise fun a b => leL a b = true
  | [], a, _ => List.pairwise_singleton ..
  | b :: ms, a, h => by
    rw [List.map_cons, PyProof.Rows.risingS, Bool.and_eq_true, lt_leL, Bool.not_not] at h
    have ih := rising_L ms b h.2
    refine List.pairwise_cons.mpr ⟨fun c hc => ?_, ih⟩
    rcases List.mem_cons.mp hc with rfl | hc
    · exact h.1
    · exact leL_trans _ _ _ h.1 ((List.pairwise_cons.mp ih).1 c hc)
theorem sortedS_L {ms : List Lt} (h : PyProof.Rows.sortedS (ms.map Lt.s) = true) : ms.Pairwise fun a b => leL a b = true := by
  cases ms with
  | nil => exact List.Pairwise.nil
  | cons a ms => exact rising_L ms a h
def unL (s : Str) : Lt := if s = "p" then .p else if s = "q" then .q else .r
theorem unL_s (a : Lt) : unL a.s = a := by cases a <;> decide +kernel
theorem perm_L {ys : List Str} {ls : List Lt} (h : ys.Perm (ls.map Lt.s)) (s : PyProof.Rows.sortedS ys = true) : ys = (sortL ls).map Lt.s := by
  have e : ys = (ys.map unL).map Lt.s := by
    rw [List.map_map]
    have e : ys.map (Lt.s ∘ unL) = ys.map id := List.map_congr_left fun y hy => by
      obtain ⟨a, _, rfl⟩ := List.mem_map.mp (h.mem_iff.mp hy)
      simp [unL_s]
    rw [e, List.map_id]
  rw [e] at s ⊢
  rw [sortL_uniq (l := ys.map unL) ?_ (sortedS_L s)]
  have := h.map unL
  rw [List.map_map] at this
  rw [show ls.map (unL ∘ Lt.s) = ls by rw [show (unL ∘ Lt.s) = id from funext unL_s]; simp] at this
  exact this
end Law
namespace Sh
open PySem L2 Pl Law
def ltU (l : Lt) : U := .str l.s
open Classical in
/-- sorted(xs) of sayings, of letters -/
noncomputable def sortedM (x : U) : M (List U) :=
  if h : ∃ ss : List Sy, itemsL x = some (ss.map su) ∧ ∀ s ∈ ss, s.ht ≤ 180 then .ok ((sortS h.choose).map su)
  else if h : ∃ ls : List Lt, itemsL x = some (ls.map ltU) ∧ ls.length < 64 then .ok ((sortL h.choose).map ltU) else .stuck
theorem sortedM_su {x : U} {ss : List Sy} (e : itemsL x = some (ss.map su)) (h : ∀ s ∈ ss, s.ht ≤ 180) : sortedM x = .ok ((sortS ss).map su) := by
  have hx : ∃ ss : List Sy, itemsL x = some (ss.map su) ∧ ∀ s ∈ ss, s.ht ≤ 180 := ⟨ss, e, h⟩
  unfold sortedM
  rw [dif_pos hx]
  have g := e.symm.trans hx.choose_spec.1
  rw [← map_inj (fun _ _ => su_inj) (Option.some.inj g)]
section
variable {κ : Kl} {C : Pl.Ctx} {E : ER} {Γ : Pl.Env} {Λ : Cells} {Pn : List D → Cells → Prop} {pos p : Pos} {e : Expr}
def rSortA (K : PySem.W.Frag) : List V → Hp → VK → Prop := fun vs H Q => rSortT K vs H Q ∨ rSortedS K vs H Q
theorem cr_sortA {X : Cx} (hu : X.A.units + 200 < cLine) : CallR X (.builtin "sorted") (rSortA X.K) := by
  intro pins z σ H vs us Q I r h
  rcases h with h | h
  · exact cr_sortT hu pins z σ H vs us Q I r h
  · exact cr_sortedS pins z σ H vs us Q I r h
theorem ems_ltU (ls : List Lt) : ems κ (ls.map ltU) = ls.map fun l => D.str l.s := by rw [ems_map, List.map_map]; rfl
theorem wn_sortedM (hj : GlAt C "sorted") (hm : C.mg "sorted" = none) (h : Op1n κ C E Γ Λ e sortedM Pn) (he : plainE e = true := by rfl) : WN C E Γ Λ (.Call (.Name "sorted" p) [e] [] pos) Pn :=
  wn_callB (r := rSortA C.K) (fun X is => crK rSortA is (cr_sortA is.u200)) hj hm boot_sorted' (wa_cons (we_mono h fun x Λ1 ⟨u, hx, h⟩ => wa_nil (by
    intro F B α σ H vs Q S rs q
    obtain ⟨v, rfl, rv⟩ := reps1 rs
    unfold sortedM at h
    split at h
    · rename_i hs
      obtain ⟨h1, h2⟩ := hs.choose_spec
      generalize hs.choose = ss at h h1 h2
      have h3 : Pn (ems κ ((sortS ss).map su)) Λ1 := h
      have h1 : lstD Λ1 x = some (ss.map Sy.pv) := by rw [items_of hx h1, ems_su]
      rw [ems_su] at h3
      obtain ⟨a, ws, rfl, g1, g2⟩ := S.seqL rv h1
      obtain ⟨z1, z2⟩ := reps_zip g2
      refine .inl ⟨a, ws, ss, rfl, g1, z1, fun y hy => ?_, fun ys t l1 l2 ht => ?_⟩
      · have ry := z2 y hy
        refine ⟨Rep.dp S.bh _ _ (Sy.pv_plain _) ry, ?_, h2 _ (List.of_mem_zip hy).2⟩
        obtain ⟨ds, e⟩ := Sy.pv_tup y.2
        rw [e] at ry
        unfold Rep at ry
        obtain ⟨b, _, hb, _⟩ := ry
        exact ⟨b, hb⟩
      · exact q _ Λ1 t ys B α _ h3 (S.grow (Ex.new ht)) (Ex.refl B) (List.prefix_refl _) upd_same (S.bh.back ht) (S.dm t ht) (fun ha => (S.ah t ha).1 ht) (zip_reps l1 fun y hy => z2 y (l2 y hy))
    · split at h
      · rename_i hs
        obtain ⟨h1, h2⟩ := hs.choose_spec
        generalize hs.choose = ls at h h1 h2
        have h3 : Pn (ems κ ((sortL ls).map ltU)) Λ1 := h
        have h1 : lstD Λ1 x = some (ls.map fun l => D.str l.s) := by rw [items_of hx h1, ems_ltU]
        rw [ems_ltU] at h3
        obtain ⟨a, ws, rfl, g1, g2⟩ := S.seqL rv h1
        have hw : ws = (ls.map Lt.s).map V.str := by
          have key : ∀ (ls : List Lt) (ws : List V), Reps C.K B α (ls.map fun l => D.str l.s) ws → ws = (ls.map Lt.s).map V.str := by
            intro ls
            induction ls with
            | nil => intro ws h; unfold Reps at h; subst h; rfl
            | cons l ls ih =>
              intro ws h
              rw [List.map_cons] at h
              unfold Reps at h
              obtain ⟨v, r, rfl, a1, a2⟩ := h
              unfold Rep at a1
              rw [a1, ih r a2]; rfl
          exact key ls ws g2
        subst hw
        refine .inr ⟨a, ls.map Lt.s, rfl, g1, by rw [List.length_map]; exact h2, fun ys t l1 l2 ht => ?_⟩
        have e := perm_L l1 l2
        subst e
        have hr : Reps C.K B α ((sortL ls).map fun l => D.str l.s) (((sortL ls).map Lt.s).map V.str) := by
          generalize sortL ls = ms
          induction ms with
          | nil => exact .nil
          | cons m ms ih => exact .cons (by unfold Rep; rfl) ih
        exact q _ Λ1 t _ B α _ h3 (S.grow (Ex.new ht)) (Ex.refl B) (List.prefix_refl _) upd_same (S.bh.back ht) (S.dm t ht) (fun ha => (S.ah t ha).1 ht) hr
      · exact h.elim)) he) (he := he)
end
end Sh

/-! Sh6: more that is walked: enumerate, zip, reversed, ranges down. -/
namespace Sh
open PySem L2 Pl PyProof.Rows
section
variable {K : PySem.W.Frag} {B : Hp}
theorem Reps.at {α : List Addr} {ds : List D} {vs : List V} {i : Nat} {d : D} {x : V} (r : Reps K B α ds vs) (h : ds[i]? = some d) (hx : vs[i]? = some x) : Rep K B α d x := by
  obtain ⟨v, h1, h2⟩ := r.get h
  rw [hx] at h1; cases h1; exact h2
end
/-! the pure side -/
def enumU (us : List U) : List U := us.mapIdx fun i u => .tup [.int (i : Nat), u]
def zipU (us vs : List U) : List U := List.zipWith (fun a b => .tup [a, b]) us vs
def enumM (x : U) : M (List U) := match itemsL x with
  | some us => .ok (enumU us)
  | none => .stuck
def zipM (x y : U) : M (List U) := match itemsL x, itemsL y with
  | some us, some vs => .ok (zipU us vs)
  | _, _ => .stuck
def revM (x : U) : M (List U) := match itemsL x with
  | some us => .ok us.reverse
  | none => .stuck
section
variable {κ : Kl} {C : Pl.Ctx} {E : ER} {Γ : Pl.Env} {Λ : Cells} {Pn : List D → Cells → Prop} {pos p tpos : Pos} {e e2 tg : Expr} {elts : List Expr} {kk : Nat}
end
end Sh

/-! Sh7: cells handed, cells handed back; tuples of owned lists. -/
namespace Sh
open PySem L2 Pl PyProof.Rows
section
variable {κ : Kl} {Λ : Cells}
/-- looked through all cells, d is u -/
def Vx (κ : Kl) (Λ : Cells) (d : D) (u : U) : Prop := dv Λ d = em κ u
theorem Vx.cell {n : Nat} {us : List U} (h : Λ[n]? = some (.lst (ems κ us))) : Vx κ Λ (.loc n) (.lst us) := by
  unfold Vx dv; rw [h]; rfl
theorem Vx.tup {ds : List D} {us : List U} (h : dvs Λ ds = ems κ us) : Vx κ Λ (.tup ds) (.tup us) := by
  unfold Vx dv; rw [h]; rfl
theorem Vx.lst {ds : List D} {us : List U} (h : dvs Λ ds = ems κ us) : Vx κ Λ (.lst ds) (.lst us) := by
  unfold Vx dv; rw [h]; rfl
theorem Vx.nil : dvs Λ [] = ems κ [] := rfl
theorem Vx.cons {d : D} {u : U} {ds : List D} {us : List U} (h : Vx κ Λ d u) (h2 : dvs Λ ds = ems κ us) : dvs Λ (d :: ds) = ems κ (u :: us) := by
  rw [dvs, ems, h2]; unfold Vx at h; rw [h]
end
section
variable {κ : Kl} {C : Pl.Ctx} {E : ER} {Γ : Pl.Env} {Λ : Cells} {P : D → Cells → Prop} {Pt : Bool → Cells → Prop} {Pn : List D → Cells → Prop} {pos p : Pos} {a b e e2 : Expr}
/-- an operation that is known -/
theorem known {α β : Type} {Q : α → Prop} {Eh : Str → List U → Prop} {m : M β} {v : β} {k : β → M α} {A : Prop} (e : m = .ok v) (h : wp (m.bind k) Q Eh) (i : wp (k v) Q Eh → A) : A := by subst e; exact i h
end
/-! ### promises with cells -/
def spK (κ : Kl) {α γ β : Type} (Dd : α → List D) (L : α → Cells) (f : α → M γ) (g : γ → M β) (R : β → Res) (L' : α → β → Cells) : Pl.Spec := fun ds Λ Q _ => ∃ a, ds = Dd a ∧ Λ = L a ∧ wp (f a) (fun z => wp (g z) (fun w => Q (R w) (L' a w)) no) no
section
variable {κ : Kl} {α γ β : Type} {Dd : α → List D} {L : α → Cells} {f : α → M γ} {g : γ → M β} {R : β → Res} {L' : α → β → Cells}
variable {C : Pl.Ctx} {E : ER} {Γ : Pl.Env} {Λ : Cells} {pos p : Pos}
/-- the end of a call with cells -/
theorem kc {n : Nat} {ds : List D} {Pr : Res → Cells → Prop} (ls : List Nat) (a : α) (r2 : β → Res) (Λ2 : β → Cells) (h0 : Hand Λ ls) (h1 : ds = rens (gI ls Λ.length) (Dd a)) (h2 : ltDs ls.length (Dd a) = true) (h3 : (Dd a).length = n) (h4 : cellsAt Λ ls = L a)
    (h5 : ∀ w, (L' a w).all nlC = true) (h6 : ∀ w, match R w with | .val d => r2 w = .val (ren (gI ls Λ.length) d) | .new ds => nls ds = true ∧ r2 w = .new ds) (h7 : ∀ w, putB Λ ls (L' a w) = Λ2 w)
    (h : wp (f a) (fun z => wp (g z) (fun w => Pr (r2 w) (Λ2 w)) no) no) : CallC n (spK κ Dd L f g R L') E Γ Λ ds Pr := by
  refine ⟨ls, Dd a, h0, h1, h2, h3, a, rfl, h4, wp_mono h (fun z h => wp_mono h (fun w h => ⟨h5 w, ?_⟩) fun _ _ h => h) fun _ _ h => h⟩
  have h6 := h6 w
  rw [h7]
  cases e : R w with
  | val d => rw [e] at h6; dsimp only at h6 ⊢; rw [← h6]; exact h
  | new ds => rw [e] at h6; dsimp only at h6 ⊢; rw [← h6.2]; exact ⟨h6.1, h⟩
end
/-! defs -/
section
variable {κ : Kl} {G : Gl} {α γ β : Type} {Dd : α → List D} {L : α → Cells} {f : α → M γ} {g : γ → M β} {R : β → Res} {L' : α → β → Cells}
variable {L0 Λ : Cells} {L1 : β → Cells} {Q : β → Prop}
end
/-! results that are taken apart -/
def gL2 : U → M (List U × List U)
  | .tup [.lst a, .lst b] => .ok (a, b)
  | _ => .stuck
end Sh
namespace Sh
open PySem L2 Pl PyProof.Rows
/-! the cells chosen anew between two statements -/
end Sh
namespace Sh
open PySem L2 Pl PyProof.Rows
end Sh

/-! Sh8: a def sees owned things, and hands back a bare word, number or truth. -/
namespace Sh
open PySem L2 Pl PyProof.Rows
mutual
/-- looked through all cells, dicts too -/
def fv (Λ : Cells) : D → D
  | .loc n => match Λ[n]? with
    | some (.lst ds) => .lst ds
    | some (.dic ks ds) => .dic ks ds
    | _ => .loc n
  | .tup ds => .tup (fvs Λ ds)
  | .lst ds => .lst (fvs Λ ds)
  | .fzl ds => .fzl (fvs Λ ds)
  | d => d
def fvs (Λ : Cells) : List D → List D
  | [] => []
  | d :: ds => fv Λ d :: fvs Λ ds
end
section
variable {K : PySem.W.Frag} {F : Fm} {B : Hp} {α : List Addr} {Γ : Pl.Env} {Λ : Cells} {σ : L2.St} {H : Hp}
end
/-- bare things -/
def atomM : U → M U
  | .non => .ok .non
  | .bl b => .ok (.bl b)
  | .int i => .ok (.int i)
  | .str s => .ok (.str s)
  | _ => .stuck
@[simp] theorem atomM_bl {b : Bool} : atomM (.bl b) = .ok (.bl b) := rfl
@[simp] theorem atomM_int {b : Int} : atomM (.int b) = .ok (.int b) := rfl
@[simp] theorem atomM_str {b : Str} : atomM (.str b) = .ok (.str b) := rfl
@[simp] theorem atomM_non : atomM .non = .ok .non := rfl
section
variable {κ : Kl} {C : Pl.Ctx} {E : ER} {Γ : Pl.Env} {Λ : Cells} {pos p : Pos}
end
end Sh

/-! Sh9: reckoning with the pure reading. -/
namespace Sh
open PySem L2 Pl Law
@[simp] theorem ofS_inj {a b : String} : (Str.ofString a = Str.ofString b) = (a = b) := by
  apply propext; constructor
  · intro h
    rw [Str.ofString_eq_toList, Str.ofString_eq_toList] at h
    have h1 : (a.toList.map Char.toNat) = b.toList.map Char.toNat := by
      have := congrArg (fun s : Str => s.cps.toList) h
      simpa using this
    have h2 : a.toList = b.toList := map_inj (fun c d e => Char.ext (UInt32.toNat_inj.mp e)) h1
    exact String.toList_injective h2
  · intro h; rw [h]
section
variable {i j : Int} {s t : Str} {us vs : List U}
@[simp] theorem addM_int : addM (.int i) (.int j) = .ok (.int (i + j)) := rfl
@[simp] theorem subM_int : subM (.int i) (.int j) = .ok (.int (i - j)) := rfl
@[simp] theorem negM_int : negM (.int i) = .ok (.int (-i)) := rfl
@[simp] theorem modM_int (h : 0 < j) : modM (.int i) (.int j) = .ok (.int (i % j)) := if_pos h
theorem p64 : (2 : Int) ^ 64 = 18446744073709551616 := by decide
theorem p64n : (2 : Nat) ^ 64 = 18446744073709551616 := by decide
theorem p62 : (2 : Int) ^ 62 = 4611686018427387904 := by decide
@[simp] theorem fdivM_int (h : 0 < j) (h2 : j < 18446744073709551616) : fdivM (.int i) (.int j) = .ok (.int (i / j)) := by
  have h3 : j < 2 ^ 8999 := Int.lt_of_lt_of_le h2 (by
    rw [← p64]
    have e : (2 : Int) ^ 8999 = 2 ^ 64 * 2 ^ 8935 := by rw [← Int.pow_add]
    rw [e]
    have : (0 : Int) < 2 ^ 8935 := Int.pow_pos (by decide)
    generalize (2 : Int) ^ 8935 = m at this
    rw [p64]; omega)
  exact if_pos (by rw [Bool.and_eq_true, decide_eq_true_eq, decide_eq_true_eq]; exact ⟨h, h3⟩)
theorem small_of (h : -18446744073709551616 < i) (h2 : i < 18446744073709551616) : small i = true := by
  unfold small; rw [Bool.and_eq_true, decide_eq_true_eq, decide_eq_true_eq, p64]; exact ⟨h, h2⟩
theorem mulM_r (h : -18446744073709551616 < j) (h2 : j < 18446744073709551616) : mulM (.int i) (.int j) = .ok (.int (i * j)) :=
  if_pos (by rw [small_of h h2, Bool.or_true])
theorem mulM_l (h : -18446744073709551616 < i) (h2 : i < 18446744073709551616) : mulM (.int i) (.int j) = .ok (.int (i * j)) :=
  if_pos (by rw [small_of h h2, Bool.true_or])
theorem powM_int (h : 0 ≤ j) (h2 : j ≤ 1000000) (h3 : i.natAbs < 18446744073709551616) : powM (.int i) (.int j) = .ok (.int (i ^ j.toNat)) :=
  if_pos (by rw [Bool.and_eq_true, Bool.and_eq_true, decide_eq_true_eq, decide_eq_true_eq, decide_eq_true_eq, p64n]; exact ⟨h, h2, h3⟩)
@[simp] theorem pow10_1 : powM (.int 10) (.int 1) = .ok (.int 10) := (powM_int (by decide) (by decide) (by decide)).trans (congrArg (fun z => M.ok (U.int z)) (by decide))
@[simp] theorem pow10_2 : powM (.int 10) (.int 2) = .ok (.int 100) := (powM_int (by decide) (by decide) (by decide)).trans (congrArg (fun z => M.ok (U.int z)) (by decide))
@[simp] theorem pow10_3 : powM (.int 10) (.int 3) = .ok (.int 1000) := (powM_int (by decide) (by decide) (by decide)).trans (congrArg (fun z => M.ok (U.int z)) (by decide))
@[simp] theorem pow10_4 : powM (.int 10) (.int 4) = .ok (.int 10000) := (powM_int (by decide) (by decide) (by decide)).trans (congrArg (fun z => M.ok (U.int z)) (by decide))
@[simp] theorem pow10_5 : powM (.int 10) (.int 5) = .ok (.int 100000) := (powM_int (by decide) (by decide) (by decide)).trans (congrArg (fun z => M.ok (U.int z)) (by decide))
@[simp] theorem pow10_6 : powM (.int 10) (.int 6) = .ok (.int 1000000) := (powM_int (by decide) (by decide) (by decide)).trans (congrArg (fun z => M.ok (U.int z)) (by decide))
@[simp] theorem pow10_7 : powM (.int 10) (.int 7) = .ok (.int 10000000) := (powM_int (by decide) (by decide) (by decide)).trans (congrArg (fun z => M.ok (U.int z)) (by decide))
@[simp] theorem pow10_8 : powM (.int 10) (.int 8) = .ok (.int 100000000) := (powM_int (by decide) (by decide) (by decide)).trans (congrArg (fun z => M.ok (U.int z)) (by decide))
@[simp] theorem pow10_9 : powM (.int 10) (.int 9) = .ok (.int 1000000000) := (powM_int (by decide) (by decide) (by decide)).trans (congrArg (fun z => M.ok (U.int z)) (by decide))
@[simp] theorem pow10_12 : powM (.int 10) (.int 12) = .ok (.int 1000000000000) := (powM_int (by decide) (by decide) (by decide)).trans (congrArg (fun z => M.ok (U.int z)) (by decide))
@[simp] theorem pow10_15 : powM (.int 10) (.int 15) = .ok (.int 1000000000000000) := (powM_int (by decide) (by decide) (by decide)).trans (congrArg (fun z => M.ok (U.int z)) (by decide))
@[simp] theorem pow10_18 : powM (.int 10) (.int 18) = .ok (.int 1000000000000000000) := (powM_int (by decide) (by decide) (by decide)).trans (congrArg (fun z => M.ok (U.int z)) (by decide))
@[simp] theorem pow10_20 : powM (.int 10) (.int 20) = .ok (.int 100000000000000000000) := (powM_int (by decide) (by decide) (by decide)).trans (congrArg (fun z => M.ok (U.int z)) (by decide))
@[simp] theorem pow10_24 : powM (.int 10) (.int 24) = .ok (.int 1000000000000000000000000) := (powM_int (by decide) (by decide) (by decide)).trans (congrArg (fun z => M.ok (U.int z)) (by decide))
@[simp] theorem pow10_30 : powM (.int 10) (.int 30) = .ok (.int 1000000000000000000000000000000) := (powM_int (by decide) (by decide) (by decide)).trans (congrArg (fun z => M.ok (U.int z)) (by decide))
@[simp] theorem ltM_int : ltM (.int i) (.int j) = .ok (decide (i < j)) := rfl
@[simp] theorem leM_int : leM (.int i) (.int j) = .ok (decide (i ≤ j)) := rfl
@[simp] theorem gtM_int : gtM (.int i) (.int j) = .ok (decide (j < i)) := rfl
@[simp] theorem geM_int : geM (.int i) (.int j) = .ok (decide (j ≤ i)) := rfl
@[simp] theorem eqM_int : eqM (.int i) (.int j) = .ok (decide (i = j)) := by
  unfold eqM
  rw [if_pos (by simp [pl, dp, pyU, PyData.plain, PyData.depth])]
  simp only [pyU, PyData.eqv]; by_cases h : i = j <;> simp [h]
@[simp] theorem eqM_str : eqM (.str s) (.str t) = .ok (decide (s = t)) := by
  unfold eqM
  rw [if_pos (by simp [pl, dp, pyU, PyData.plain, PyData.depth])]
  simp only [pyU]; rw [Law.Sy.strs_eqv]
@[simp] theorem eqM_bl {a b : Bool} : eqM (.bl a) (.bl b) = .ok (decide (a = b)) := by
  unfold eqM
  rw [if_pos (by simp [pl, dp, pyU, PyData.plain, PyData.depth])]
  have e : PyData.eqv (pyU (.bl a)) (pyU (.bl b)) = decide (a = b) := bl_eqv a b
  rw [e]
@[simp] theorem boolM_bl {b : Bool} : boolM (.bl b) = .ok b := rfl
@[simp] theorem endM_int : endM (.int i) = .ok (some i) := rfl
@[simp] theorem isM_non {x : U} : isM x .non = .ok (isNone x) := by cases x <;> rfl
@[simp] theorem isntM_non {x : U} : isntM x .non = .ok (!isNone x) := by cases x <;> rfl
@[simp] theorem isM_bl {a b : Bool} : isM (.bl a) (.bl b) = .ok (decide (a = b)) := rfl
@[simp] theorem lenM_lst : lenM (.lst us) = .ok (.int us.length) := rfl
@[simp] theorem lenM_fzl : lenM (.fzl us) = .ok (.int us.length) := rfl
@[simp] theorem lenM_tup : lenM (.tup us) = .ok (.int us.length) := rfl
@[simp] theorem iterL_lst : iterL (.lst us) = .ok us := rfl
@[simp] theorem iterL_fzl : iterL (.fzl us) = .ok us := rfl
@[simp] theorem iterT_tup : iterT (.tup us) = .ok us := rfl
@[simp] theorem iterS_str : iterS (.str s) = .ok (s.cps.toList.map fun c => .str ⟨#[c]⟩) := rfl
@[simp] theorem listM_lst : listM (.lst us) = .ok us := rfl
@[simp] theorem listM_fzl : listM (.fzl us) = .ok us := rfl
@[simp] theorem listM_tup : listM (.tup us) = .ok us := rfl
@[simp] theorem tupleM_lst : tupleM (.lst us) = .ok (.tup us) := rfl
@[simp] theorem tupleM_tup : tupleM (.tup us) = .ok (.tup us) := rfl
@[simp] theorem range1M_int (h : -4611686018427387904 ≤ i) (h2 : i < 4611686018427387904) : range1M (.int i) = .ok (rangeU 0 i.toNat) :=
  if_pos (by rw [Bool.and_eq_true, decide_eq_true_eq, decide_eq_true_eq, p62]; exact ⟨h, h2⟩)
@[simp] theorem isi_tup : isiM (.tup us) "tuple" = .ok (.bl true) := rfl
@[simp] theorem isi_lst : isiM (.lst us) "list" = .ok (.bl true) := rfl
@[simp] theorem isi_bl {b : Bool} : isiM (.bl b) "bool" = .ok (.bl true) := rfl
@[simp] theorem isi_str : isiM (.str s) "str" = .ok (.bl true) := rfl
@[simp] theorem isi_int : isiM (.int i) "int" = .ok (.bl true) := rfl
@[simp] theorem isi_st : isiM (.str s) "tuple" = .ok (.bl false) := rfl
@[simp] theorem isi_ts : isiM (.tup us) "str" = .ok (.bl false) := rfl
@[simp] theorem isi_ib : isiM (.int i) "bool" = .ok (.bl false) := rfl
/-! subscripts -/
theorem ixM_seq {x : U} (hx : seqU x = some us) : ixM x (.int i) = match atI us i with | some u => .ok u | none => .stuck := by
  cases x <;> first | (cases hx; done) | (simp only [seqU, Option.some.injEq] at hx; subst hx; rfl)
theorem ixM_at {u : U} {x : U} (hx : seqU x = some us) (h : atI us i = some u) : ixM x (.int i) = .ok u := by rw [ixM_seq hx, h]
theorem ixM_get {k : Nat} {u : U} {x : U} (hx : seqU x = some us) (h : us[k]? = some u) : ixM x (.int (k : Int)) = .ok u := by
  have hk := (List.getElem?_eq_some_iff.mp h).1
  have e : ixN us.length (k : Int) = some k := by
    unfold L2.ixN
    rw [if_pos (by omega), if_pos (by exact_mod_cast hk)]; simp
  exact ixM_at hx (by unfold L2.atI; rw [e]; exact h)
@[simp] theorem ix_t0 {a : U} : ixM (.tup (a :: us)) (.int 0) = .ok a := ixM_get (k := 0) rfl rfl
@[simp] theorem ix_t1 {a b : U} : ixM (.tup (a :: b :: us)) (.int 1) = .ok b := ixM_get (k := 1) rfl rfl
@[simp] theorem ix_t2 {a b c : U} : ixM (.tup (a :: b :: c :: us)) (.int 2) = .ok c := ixM_get (k := 2) rfl rfl
@[simp] theorem ix_t3 {a b c d : U} : ixM (.tup (a :: b :: c :: d :: us)) (.int 3) = .ok d := ixM_get (k := 3) rfl rfl
@[simp] theorem ix_l0 {a : U} : ixM (.lst (a :: us)) (.int 0) = .ok a := ixM_get (k := 0) rfl rfl
@[simp] theorem ix_l1 {a b : U} : ixM (.lst (a :: b :: us)) (.int 1) = .ok b := ixM_get (k := 1) rfl rfl
@[simp] theorem ix_l2 {a b c : U} : ixM (.lst (a :: b :: c :: us)) (.int 2) = .ok c := ixM_get (k := 2) rfl rfl
/-- the last one -/
@[simp] theorem ix_last {u : U} : ixM (.lst (us ++ [u])) (.int (-1)) = .ok u := by
  refine ixM_at rfl ?_
  unfold L2.atI L2.ixN
  rw [if_neg (by omega), if_pos (by rw [List.length_append]; simp only [List.length_cons, List.length_nil]; omega)]
  have e : (-1 + ((us ++ [u]).length : Int)).toNat = us.length := by rw [List.length_append]; simp only [List.length_cons, List.length_nil]; omega
  rw [e]; simp
/-- an index that is known to be within -/
theorem ixM_any {x : U} (hx : seqU x = some us) (h1 : 0 ≤ i) (h2 : i < us.length) : ∃ u ∈ us, ixM x (.int i) = .ok u := by
  obtain ⟨k, rfl⟩ := Int.eq_ofNat_of_zero_le h1
  have hk : k < us.length := by exact_mod_cast h2
  exact ⟨us[k], List.getElem_mem _, ixM_get hx (List.getElem?_eq_getElem hk)⟩
/-! lists that are owned -/
theorem appM_ok {x : U} (h : us.length < 10000000) : appM us x = .ok (us ++ [x]) := sz_ok h
@[simp] theorem popM_last {x : U} : popM (us ++ [x]) = .ok (x, us) := by unfold popM; simp
theorem extM_ok (h : us.length + vs.length < 10000000) : extM us (.lst vs) = .ok (us ++ vs) := sz_ok h
@[simp] theorem setM_last {x y : U} : setM (us ++ [x]) (.int (-1)) y = .ok (us ++ [y]) := by
  unfold setM
  have e : ixN (us ++ [x]).length (-1) = some us.length := by
    unfold L2.ixN
    rw [if_neg (by omega), if_pos (by simp only [List.length_append, List.length_cons, List.length_nil]; omega)]
    congr 1
    simp only [List.length_append, List.length_cons, List.length_nil]; omega
  dsimp only; rw [e]; simp
@[simp] theorem gL2_ok {a b : List U} : gL2 (.tup [.lst a, .lst b]) = .ok (a, b) := rfl
end
@[simp] theorem nB_ok {f : U → U → M Bool} {u v : U} : nB f u v = (f u v).bind fun b => .ok (!b) := rfl
@[simp] theorem vB_ok {f : U → U → M Bool} {u v : U} : vB f u v = (f u v).bind fun b => .ok (.bl b) := rfl
/-! total: m comes to something -/
def Ok {α : Type} (m : M α) (P : α → Prop) : Prop := ∃ a, m = .ok a ∧ P a
theorem Ok.bind {α β : Type} {m : M α} {k : α → M β} {P : α → Prop} {Q : β → Prop} (h : Ok m P) (i : ∀ a, P a → Ok (k a) Q) : Ok (m.bind k) Q := by
  obtain ⟨a, rfl, p⟩ := h; exact i a p
theorem Ok.ret {α : Type} {a : α} {P : α → Prop} (h : P a) : Ok (.ok a) P := ⟨a, rfl, h⟩
theorem Ok.of {α : Type} {m : M α} {a : α} {P : α → Prop} (e : m = .ok a) (h : P a) : Ok m P := ⟨a, e, h⟩
theorem Ok.mono {α : Type} {m : M α} {P P' : α → Prop} (h : Ok m P) (i : ∀ a, P a → P' a) : Ok m P' := by
  obtain ⟨a, e, p⟩ := h; exact ⟨a, e, i a p⟩
theorem Ok.calm {α : Type} {m : M α} {P : α → Prop} (h : Ok m P) : Ok m.calm P := by
  obtain ⟨a, rfl, p⟩ := h; exact ⟨a, rfl, p⟩
theorem Ok.ite {α : Type} {c : Bool} {m m' : M α} {P : α → Prop} (h1 : c = true → Ok m P) (h2 : c = false → Ok m' P) : Ok (if c = true then m else m') P := by
  cases c
  · rw [if_neg (by simp)]; exact h2 rfl
  · rw [if_pos rfl]; exact h1 rfl
/-! loops -/
section
variable {σ ρ : Type}
theorem forN_inv {f : σ → U → M σ} (I : Nat → σ → Prop) : ∀ (xs : List U) (n : Nat) (s : σ), I n s → (∀ k x s, n ≤ k → xs[k - n]? = some x → I k s → Ok (f s x) (I (k + 1))) → Ok (forN f xs s) (I (n + xs.length))
  | [], n, s, h, _ => ⟨s, rfl, h⟩
  | x :: xs, n, s, h, i => by
    obtain ⟨s', e, h'⟩ := i n x s (Nat.le_refl _) (by simp) h
    have := forN_inv I xs (n + 1) s' h' fun k x s hk hx hs => i k x s (by omega) (by
      have e : k - n = (k - (n + 1)) + 1 := by omega
      rw [e]; simpa using hx) hs
    obtain ⟨s2, e2, h2⟩ := this
    refine ⟨s2, by rw [forN, e]; exact e2, ?_⟩
    have e3 : n + 1 + xs.length = n + (x :: xs).length := by simp; omega
    rw [e3] at h2; exact h2
theorem whN_down {c : σ → M Bool} {f : σ → M σ} (I : σ → Prop) (P : σ → Prop) (v : σ → Nat) (hc : ∀ s, I s → Ok (c s) fun b => if b = true then Ok (f s) (fun s' => I s' ∧ v s' < v s) else P s) : ∀ (n : Nat) (s : σ), I s → v s < n → Ok (whN c f n s) P
  | 0, s, _, h => absurd h (Nat.not_lt_zero _)
  | n + 1, s, hs, h => by
    obtain ⟨b, e, p⟩ := hc s hs
    cases b with
    | false => exact ⟨s, by rw [whN, e]; rfl, p⟩
    | true =>
      obtain ⟨s', e2, p1, p2⟩ := p
      obtain ⟨s2, e3, p3⟩ := whN_down I P v hc n s' p1 (by omega)
      exact ⟨s2, by rw [whN, e, M.bind_ok, if_pos rfl, e2]; exact e3, p3⟩
end
/-! comprehensions -/
theorem mapC_ok {β : Type} {f : U → M U} (g : β → U) (h : β → U) : ∀ {xs : List β}, (∀ x ∈ xs, f (g x) = .ok (h x)) → mapC f (xs.map g) = .ok (xs.map h)
  | [], _ => rfl
  | x :: xs, i => by
    rw [List.map_cons, mapC, i x (List.mem_cons_self ..), mapC_ok g h fun x hx => i x (List.mem_cons_of_mem _ hx)]; rfl
theorem compM_ok {β : Type} {f : U → M U} (g : β → U) (h : β → U) {xs : List β} (hl : xs.length < 10000000) (i : ∀ x ∈ xs, f (g x) = .ok (h x)) : compM f (xs.map g) = .ok (xs.map h) := by
  unfold compM; rw [sz_ok (by rw [List.length_map]; exact hl)]; exact mapC_ok g h i
theorem filC_ok {β : Type} {c : U → M Bool} {f : U → M U} (g : β → U) (p : β → Bool) (h : β → U) : ∀ {xs : List β}, (∀ x ∈ xs, c (g x) = .ok (p x)) → (∀ x ∈ xs, p x = true → f (g x) = .ok (h x)) → filC c f (xs.map g) = .ok ((xs.filter p).map h)
  | [], _, _ => rfl
  | x :: xs, i, j => by
    have ih := filC_ok g p h (fun x hx => i x (List.mem_cons_of_mem _ hx)) fun x hx => j x (List.mem_cons_of_mem _ hx)
    rw [List.map_cons, filC, i x (List.mem_cons_self ..)]
    simp only [M.calm_ok, M.bind_ok]
    cases e : p x with
    | false => rw [if_neg (by simp), ih, List.filter_cons_of_neg (by simp [e])]
    | true => rw [if_pos rfl, j x (List.mem_cons_self ..) e, ih, List.filter_cons_of_pos e]; rfl
theorem compF_ok {β : Type} {c : U → M Bool} {f : U → M U} (g : β → U) (p : β → Bool) (h : β → U) {xs : List β} (hl : xs.length < 10000000) (i : ∀ x ∈ xs, c (g x) = .ok (p x)) (j : ∀ x ∈ xs, p x = true → f (g x) = .ok (h x)) : compF c f (xs.map g) = .ok ((xs.filter p).map h) := by
  unfold compF; rw [sz_ok (by rw [List.length_map]; exact hl)]; exact filC_ok g p h i j
/-- items that are told by a word only -/
theorem mapC_all {β γ : Type} {f : U → M U} (g : β → U) (h : γ → U) (R : β → γ → Prop) : ∀ {xs : List β}, (∀ x ∈ xs, ∃ z, f (g x) = .ok (h z) ∧ R x z) → ∃ zs, mapC f (xs.map g) = .ok (zs.map h) ∧ All2 R xs zs
  | [], _ => ⟨[], rfl, .nil⟩
  | x :: xs, i => by
    obtain ⟨z, e, r⟩ := i x (List.mem_cons_self ..)
    obtain ⟨zs, e2, r2⟩ := mapC_all g h R fun x hx => i x (List.mem_cons_of_mem _ hx)
    exact ⟨z :: zs, by rw [List.map_cons, mapC, e, e2]; rfl, .cons r r2⟩
theorem compM_all {β γ : Type} {f : U → M U} (g : β → U) (h : γ → U) (R : β → γ → Prop) {xs : List β} (hl : xs.length < 10000000) (i : ∀ x ∈ xs, ∃ z, f (g x) = .ok (h z) ∧ R x z) : ∃ zs, compM f (xs.map g) = .ok (zs.map h) ∧ All2 R xs zs := by
  unfold compM; rw [sz_ok (by rw [List.length_map]; exact hl)]; exact mapC_all g h R i
theorem All2.right {β γ : Type} {P : γ → Prop} {xs : List β} {ys : List γ} (h : All2 (fun _ z => P z) xs ys) : ∀ z ∈ ys, P z := by
  induction h with
  | nil => intro z hz; simp at hz
  | cons h1 _ ih =>
    intro z hz
    rcases List.mem_cons.mp hz with rfl | hz
    · exact h1
    · exact ih z hz
/-! sayings -/
theorem pl_su (s : Sy) : pl (su s) = true := by unfold pl; rw [pyU_su]; exact Sy.pv_plain s
theorem dp_su (s : Sy) : dp (su s) ≤ s.ht := by unfold dp; rw [pyU_su]; exact Sy.pv_depth s
theorem eqM_su {s t : Sy} (h : min s.ht t.ht ≤ 190) : eqM (su s) (su t) = .ok (decide (s = t)) := by
  unfold eqM
  have h1 := dp_su s; have h2 := dp_su t
  rw [if_pos (by rw [pl_su, pl_su]; simp only [Bool.true_and, decide_eq_true_eq]; omega), pyU_su, pyU_su, Sy.eqv_pv]
theorem pls_su (ss : List Sy) : PyData.plainAll (pyUs (ss.map su)) = true := by
  induction ss with
  | nil => rfl
  | cons s ss ih => rw [List.map_cons, pyUs, PyData.plainAll, ih, Bool.and_true]; exact pl_su s
theorem dps_su {ss : List Sy} {n : Nat} (h : ∀ s ∈ ss, s.ht ≤ n) : PyData.depthAll (pyUs (ss.map su)) ≤ n := by
  induction ss with
  | nil => simp [pyUs, PyData.depthAll]
  | cons s ss ih =>
    rw [List.map_cons, pyUs, PyData.depthAll]
    have h1 := dp_su s; unfold dp at h1
    have h2 := h s (List.mem_cons_self ..)
    have h3 := ih fun s hs => h s (List.mem_cons_of_mem _ hs)
    omega
/-- == of what bears no dicts and is not deep -/
theorem eqM_py {x y : U} (h1 : pl x = true) (h2 : pl y = true) (h3 : min (dp x) (dp y) ≤ 190) : eqM x y = .ok (PyData.eqv (pyU x) (pyU y)) := by
  unfold eqM; rw [if_pos (by rw [h1, h2]; simpa using h3)]
theorem eqM_rfl {x : U} (h1 : pl x = true) (h3 : dp x ≤ 190) : eqM x x = .ok true := by
  rw [eqM_py h1 h1 (by omega), PySem.SeqAt.eqv_refl_plain _ h1]
theorem pl_lst {us : List U} (h : PyData.plainAll (pyUs us) = true) : pl (.lst us) = true := by unfold pl pyU; rw [PyData.plain]; exact h
theorem dp_lst {us : List U} {n : Nat} (h : PyData.depthAll (pyUs us) ≤ n) : dp (.lst us) ≤ n + 1 := by unfold dp pyU; rw [PyData.depth]; omega
theorem inM_su {s : Sy} {ss : List Sy} {x : U} (hx : itemsL x = some (ss.map su)) (h : s.ht ≤ 190) : inM (su s) x = .ok (decide (s ∈ ss)) := by
  have key : ∀ us, seqU x = some us → us = ss.map su → inM (su s) x = .ok (decide (s ∈ ss)) := by
    intro us hs e
    subst e
    unfold inM
    have hnd : ∀ (ks : List Key) (us : List U), x ≠ .dic ks us := by rintro ks us rfl; cases hx
    have hns : ∀ t, x ≠ .str t := by rintro t rfl; cases hx
    split
    · exact absurd rfl (hns _)
    · exact absurd rfl (hnd _ _)
    · rw [hs]
      dsimp only
      rw [if_pos (by rw [pls_su, pl_su]; simp only [Bool.true_and, decide_eq_true_eq]; have := dp_su s; omega)]
      congr 1
      rw [List.any_map, Bool.eq_iff_iff, List.any_eq_true, decide_eq_true_eq]
      constructor
      · rintro ⟨t, ht, e⟩
        have e : PyData.eqv (pyU (su t)) (pyU (su s)) = true := e
        rw [pyU_su, pyU_su, Sy.eqv_pv, decide_eq_true_eq] at e
        rw [← e]; exact ht
      · intro hm
        exact ⟨s, hm, by show PyData.eqv (pyU (su s)) (pyU (su s)) = true; rw [pyU_su, Sy.eqv_pv]; simp⟩
  cases x <;> simp only [itemsL, Option.some.injEq, reduceCtorEq] at hx <;> subst hx <;> exact key _ rfl rfl
/-! folds -/
section
variable {σ ρ τ β : Type}
theorem forN_fold' {f : σ → U → M σ} (enc : τ → σ) (g : β → U) (step : τ → β → τ) (N : Nat) (I : Nat → τ → Prop) : ∀ (xs : List β) (n : Nat) (s : τ), n + xs.length = N → I n s → (∀ n s x, n < N → I n s → x ∈ xs → f (enc s) (g x) = .ok (enc (step s x)) ∧ I (n + 1) (step s x)) → forN f (xs.map g) (enc s) = .ok (enc (xs.foldl step s))
  | [], _, _, _, _, _ => rfl
  | x :: xs, n, s, hN, h, i => by
    rw [List.length_cons] at hN
    obtain ⟨e, h'⟩ := i n s x (by omega) h (List.mem_cons_self ..)
    rw [List.map_cons, forN, e, List.foldl_cons]
    exact forN_fold' enc g step N I xs (n + 1) (step s x) (by omega) h' fun n s y hn hs hy => i n s y hn hs (List.mem_cons_of_mem _ hy)
theorem forN_fold {f : σ → U → M σ} (enc : τ → σ) (g : β → U) (step : τ → β → τ) (I : Nat → τ → Prop) (xs : List β) (s : τ) (h : I 0 s) (i : ∀ n s x, n < xs.length → I n s → x ∈ xs → f (enc s) (g x) = .ok (enc (step s x)) ∧ I (n + 1) (step s x)) : forN f (xs.map g) (enc s) = .ok (enc (xs.foldl step s)) :=
  forN_fold' enc g step xs.length I xs 0 s (by omega) h i
end
theorem rangeU_len {lo : Int} {n : Nat} : (rangeU lo n).length = n := by unfold rangeU; simp
theorem rangeU_mem {lo : Int} {n : Nat} {x : U} (h : x ∈ rangeU lo n) : ∃ i : Nat, i < n ∧ x = .int (lo + i) := by
  unfold rangeU at h
  obtain ⟨i, hi, rfl⟩ := List.mem_map.mp h
  exact ⟨i, List.mem_range.mp hi, rfl⟩
/-- a list that is not empty ends with an item -/
theorem snoc_of {β : Type} {xs : List β} (h : xs ≠ []) : ∃ ys y, xs = ys ++ [y] := ⟨xs.dropLast, xs.getLast h, (List.dropLast_concat_getLast h).symm⟩
theorem snoc2_of {β : Type} {xs : List β} (h : 2 ≤ xs.length) : ∃ ys y z, xs = ys ++ [y] ++ [z] := by
  obtain ⟨ys, z, rfl⟩ := snoc_of (xs := xs) (by intro e; subst e; simp at h)
  obtain ⟨ws, y, rfl⟩ := snoc_of (xs := ys) (by intro e; subst e; simp at h)
  exact ⟨ws, y, z, rfl⟩
theorem forC_unit {ρ : Type} {f : Unit → U → M (Ct Unit ρ)} : ∀ {xs : List U}, (∀ x ∈ xs, f () x = .ok (.nx ())) → forC f xs () = .ok (.nx ())
  | [], _ => rfl
  | x :: xs, i => by
    rw [forC, i x (List.mem_cons_self ..), M.bind_ok]
    exact forC_unit fun x hx => i x (List.mem_cons_of_mem _ hx)
theorem pl_tup {us : List U} (h : PyData.plainAll (pyUs us) = true) : pl (.tup us) = true := by unfold pl pyU; rw [PyData.plain]; exact h
theorem dp_tup {us : List U} {n : Nat} (h : PyData.depthAll (pyUs us) ≤ n) : dp (.tup us) ≤ n + 1 := by unfold dp pyU; rw [PyData.depth]; omega
theorem pv_ht {s : Sy} {n : Nat} (h : s.size ≤ n) : s.ht ≤ n := Nat.le_trans (Sy.ht_size s) h
theorem eqM_nil {us : List U} (h : PyData.plainAll (pyUs us) = true) (hn : us ≠ []) : eqM (.lst us) (.lst []) = .ok false := by
  rw [eqM_py (pl_lst h) rfl (by have : dp (.lst []) = 1 := rfl; omega)]
  cases us with
  | nil => exact absurd rfl hn
  | cons a as => rfl
theorem two_pl {a b : List Sy} : PyData.plainAll (pyUs [.lst (a.map su), .lst (b.map su)]) = true := by
  simp only [pyUs, pyU, PyData.plainAll, PyData.plain, pls_su, Bool.and_self]
theorem two_dp {a b : List Sy} {n : Nat} (h : ∀ s ∈ a, s.ht ≤ n) (h2 : ∀ s ∈ b, s.ht ≤ n) : PyData.depthAll (pyUs [.lst (a.map su), .lst (b.map su)]) ≤ n + 1 := by
  have := dps_su h; have := dps_su h2
  simp only [pyUs, pyU, PyData.depthAll, PyData.depth]; omega
theorem Ok.bindw {α β : Type} {m : M α} {k : α → M β} {Q : β → Prop} (h : Ok m fun a => Ok (k a) Q) : Ok (m.bind k) Q := h.bind fun _ h => h
theorem Ok_ok {α : Type} {a : α} {P : α → Prop} : Ok (.ok a) P = P a := propext ⟨fun ⟨_, e, p⟩ => by cases e; exact p, fun h => ⟨a, rfl, h⟩⟩
theorem Ok_ite {α : Type} {c : Bool} {m m' : M α} {P : α → Prop} : Ok (if c = true then m else m') P = ((c = true → Ok m P) ∧ (c = false → Ok m' P)) := by
  cases c <;> simp
theorem Ok_itd {α : Type} {c : Prop} [Decidable c] {m m' : M α} {P : α → Prop} : Ok (if c then m else m') P = ((c → Ok m P) ∧ (¬ c → Ok m' P)) := by
  by_cases h : c <;> simp [h]
theorem Ok_bind {α β : Type} {m : M α} {k : α → M β} {Q : β → Prop} : Ok (m.bind k) Q = Ok m fun a => Ok (k a) Q := by
  apply propext; constructor
  · rintro ⟨b, e, q⟩
    cases m with
    | ok a => exact ⟨a, rfl, b, e, q⟩
    | stuck => cases e
    | err c us => cases e
  · exact Ok.bindw
theorem Ok_calm {α : Type} {m : M α} {P : α → Prop} : Ok m.calm P = Ok m P := by
  apply propext; constructor
  · rintro ⟨a, e, p⟩
    cases m with
    | ok b => exact ⟨a, e, p⟩
    | stuck => cases e
    | err c us => cases e
  · exact Ok.calm
end Sh

/-! Sh10: sorted lists of sayings, each once. -/
namespace Law
open PySem L2 Pl Sh
/-- rising -/
def Rise (l : List Sy) : Prop := l.Pairwise fun a b => Sy.ltS a b = true
theorem ltS_irr (a : Sy) : Sy.ltS a a = false := by
  cases h : Sy.ltS a a with
  | false => rfl
  | true => have := lexN_asym _ _ h; rw [show lexN (Sy.code a) (Sy.code a) = Sy.ltS a a from rfl, h] at this; exact this
theorem rise_ext {l m : List Sy} (h : Rise l) (h2 : Rise m) (e : ∀ s, s ∈ l ↔ s ∈ m) : l = m := by
  have nd : ∀ {l : List Sy}, Rise l → l.Nodup := fun h => h.imp fun {a b} h e => by subst e; rw [ltS_irr] at h; cases h
  have p : l.Perm m := (List.perm_ext_iff_of_nodup (nd h) (nd h2)).mpr e
  refine List.Perm.eq_of_pairwise (le := fun a b => Sy.ltS a b = true) (fun a b _ _ h g => ?_) h h2 p
  have := lexN_asym _ _ h
  rw [show lexN (Sy.code b) (Sy.code a) = Sy.ltS b a from rfl, g] at this; cases this
theorem onceS_iff {x : Sy} {l : List Sy} : x ∈ onceS l ↔ x ∈ l := by
  refine ⟨onceS_mem, ?_⟩
  have key : ∀ (l acc : List Sy), (x ∈ acc ∨ x ∈ l) → x ∈ l.foldl (fun told one => if told.getLast? = some one then told else told ++ [one]) acc := by
    intro l
    induction l with
    | nil => intro acc h; rcases h with h | h
             · exact h
             · simp at h
    | cons y l ih =>
      intro acc h
      rw [List.foldl_cons]
      apply ih
      rcases h with h | h
      · left; split
        · exact h
        · exact List.mem_append_left _ h
      · rcases List.mem_cons.mp h with rfl | h
        · left; split
          · rename_i e; exact List.mem_of_getLast? e
          · simp
        · exact .inr h
  exact fun h => key l [] (.inr h)
theorem leS_of_not {a b : Sy} (h : leS a b = true) (n : a ≠ b) : Sy.ltS a b = true := by
  cases e : Sy.ltS a b with
  | true => rfl
  | false => exact absurd (leS_anti h (by unfold leS; rw [e]; rfl)) n
theorem once_rise {l : List Sy} (h : l.Pairwise fun a b => leS a b = true) : Rise (onceS l) := by
  have key : ∀ (n : Nat) (l : List Sy), l.length = n → (l.Pairwise fun a b => leS a b = true) → Rise (onceS l) := by
    intro n
    induction n with
    | zero => intro l hl _; rw [List.length_eq_zero_iff.mp hl]; exact List.Pairwise.nil
    | succ n ih =>
      intro l hl h
      obtain ⟨l, x, rfl⟩ := snoc_of (xs := l) (by intro e; subst e; simp at hl)
      rw [List.pairwise_append] at h
      obtain ⟨h1, _, h3⟩ := h
      have ih := ih l (by simpa using hl) h1
      rw [onceS_snoc]
      split
      · exact ih
      · rename_i hne
        refine List.pairwise_append.mpr ⟨ih, List.pairwise_singleton .., fun a ha b hb => ?_⟩
        rw [List.mem_singleton] at hb; subst hb
        refine leS_of_not (h3 a (onceS_mem ha) b (by simp)) fun e => ?_
        subst e
        obtain ⟨ys, z, e2⟩ := snoc_of (xs := onceS l) (by intro e; rw [e] at ha; simp at ha)
        rw [e2] at hne ha ih
        rcases List.mem_append.mp ha with q | q
        · have h4 := (List.pairwise_append.mp ih).2.2 a q z (by simp)
          have h5 := h3 z (onceS_mem (by rw [e2]; simp)) a (by simp)
          unfold leS at h5; rw [h4] at h5; cases h5
        · rw [List.mem_singleton] at q; subst q
          simp at hne
  exact key _ l rfl h
/-- the sayings, sorted, each once -/
def setS (l : List Sy) : List Sy := onceS (sortS l)
theorem setS_rise (l : List Sy) : Rise (setS l) := once_rise (sortS_pw l)
theorem setS_iff {x : Sy} {l : List Sy} : x ∈ setS l ↔ x ∈ l := onceS_iff.trans (sortS_perm l).mem_iff
theorem setS_ext {l m : List Sy} (e : ∀ s, s ∈ l ↔ s ∈ m) : setS l = setS m := rise_ext (setS_rise l) (setS_rise m) fun s => setS_iff.trans ((e s).trans setS_iff.symm)
theorem setS_len (l : List Sy) : (setS l).length ≤ l.length := by
  have := onceS_len (sortS l); have := (sortS_perm l).length_eq; unfold setS; omega
def isShown : Sy → Bool
  | .shown _ => true
  | _ => false
end Law
namespace Sh
open PySem L2 Pl Law
@[simp] theorem addM_lst {us vs : List U} (h : us.length + vs.length < 10000000) : addM (.lst us) (.lst vs) = .ok (.lst (us ++ vs)) := sz_ok h
@[simp] theorem slM_tail {us : List U} {a : U} : slM (.tup (a :: us)) (some 1) none = .ok (.tup us) := by
  show M.ok _ = _
  congr 2
  unfold cutU
  have e1 : HT.sIx (a :: us).length 0 (some 1) = 1 := by unfold HT.sIx; simp
  have e2 : HT.sIx (a :: us).length (a :: us).length none = us.length + 1 := by unfold HT.sIx; simp
  rw [e1, e2]; simp
/-- the first word of a saying -/
def wd : Sy → Str
  | .no => "no"
  | .lt _ => "letter"
  | .not _ => "not"
  | .shown _ => "shown"
  | .bin o _ _ => o.s
/-- what stands behind it -/
def tl : Sy → List U
  | .no => []
  | .lt l => [.str l.s]
  | .not a => [su a]
  | .shown a => [su a]
  | .bin _ a b => [su a, su b]
theorem su_tup (s : Sy) : su s = .tup (.str (wd s) :: tl s) := by cases s <;> rfl
@[simp] theorem ix_su0 {s : Sy} : ixM (su s) (.int 0) = .ok (.str (wd s)) := by rw [su_tup]; exact ix_t0
theorem sl_su {s : Sy} : slM (su s) (some 1) none = .ok (.tup (tl s)) := by rw [su_tup]; exact slM_tail
@[simp] theorem wd_shown {s : Sy} : (wd s = Str.ofString "shown") = (isShown s = true) := by
  cases s with
  | bin o a b => cases o <;> simp [wd, isShown, Bop.s]
  | _ => simp [wd, isShown]
end Sh
namespace Sh
open PySem L2 Pl Law
/-- lists that are put behind one another -/
theorem forN_ext {f : List U → U → M (List U)} (g : Sy → List Sy) : ∀ (xs : List Sy) (acc : List U), (∀ (acc : List U) (x : Sy), x ∈ xs → acc.length + (g x).length < 10000000 → f acc (su x) = .ok (acc ++ (g x).map su)) → acc.length + (xs.flatMap g).length < 10000000 → forN f (xs.map su) acc = .ok (acc ++ (xs.flatMap g).map su)
  | [], acc, _, _ => by simp [forN]
  | x :: xs, acc, h, hl => by
    rw [List.flatMap_cons, List.length_append] at hl
    rw [List.map_cons, forN, h acc x (by simp) (by omega), M.bind_ok, forN_ext g xs _ (fun acc y hy => h acc y (by simp [hy])) (by rw [List.length_append, List.length_map]; omega)]
    simp
@[simp] theorem un2_ok {a b : U} : un2 (.tup [a, b]) = .ok (a, b) := rfl
@[simp] theorem un3_ok {a b c : U} : un3 (.tup [a, b, c]) = .ok (a, b, c) := rfl
@[simp] theorem zipM_lst {us vs : List U} : zipM (.lst us) (.lst vs) = .ok (zipU us vs) := rfl
@[simp] theorem enumM_lst {us : List U} : enumM (.lst us) = .ok (enumU us) := rfl
@[simp] theorem revM_lst {us : List U} : revM (.lst us) = .ok us.reverse := rfl
theorem allM_bls {bs : List Bool} : allM (.lst (bs.map .bl)) = .ok (.bl (bs.all id)) := by
  have : ∀ bs : List Bool, asBls (bs.map .bl) = some bs := by
    intro bs; induction bs with
    | nil => rfl
    | cons b bs ih => rw [List.map_cons, asBls, ih]; rfl
  unfold allM itemsL; dsimp only; rw [this]
end Sh
namespace Sh
open PySem L2 Pl Law
theorem cut_take {us : List U} {i : Int} (h : 0 ≤ i) : cutU us none (some i) = us.take i.toNat := by
  unfold cutU HT.sIx
  dsimp only
  rw [if_neg (by omega), Nat.sub_zero, List.drop_zero]
  rcases Nat.le_total i.toNat us.length with z | z
  · congr 1; omega
  · rw [List.take_of_length_le z, List.take_of_length_le (by omega)]
theorem slM_take {us : List U} {i : Int} (h : 0 ≤ i) : slM (.lst us) none (some i) = .ok (.lst (us.take i.toNat)) := by rw [← cut_take h]; rfl
end Sh
namespace Law
open PySem L2 Pl Sh
def words : List Str := ["and", "if", "letter", "no", "not", "or", "shown"]
end Law
namespace Sh
open PySem L2 Pl Law
@[simp] theorem ltM_str {s t : Str} : ltM (.str s) (.str t) = .ok (decide (s.cps.toList < t.cps.toList)) := rfl
end Sh
namespace Sh
open PySem L2 Pl Law
end Sh

/-! Sh11: index; dicts. -/
namespace Sh
open PySem L2 Pl PyProof.Rows Law
/-- a dict's keys and what stands under them -/
abbrev Dc := List Key × List U
section
variable {κ : Kl} {C : Pl.Ctx} {E : ER} {Γ : Pl.Env} {Λ : Cells} {P : D → Cells → Prop} {pos apos cpos p : Pos} {o e f : Expr}
variable {R : Rs} {pos' : Pos} {i : Expr}
end
end Sh
namespace Sh
open PySem L2 Pl PyProof.Rows Law
section
variable {κ : Kl} {Λ : Cells} {α : Type} {Q : α → Prop} {Eh : Str → List U → Prop} {x : D}
def asD : U → M Dc
  | .dic ks us => .ok (ks, us)
  | _ => .stuck
@[simp] theorem asD_ok {ks : List Key} {us : List U} : asD (.dic ks us) = .ok (ks, us) := rfl
end
end Sh
namespace Law
open PySem L2 Pl Sh
theorem canLay_su : ∀ s : Sy, (pyU (su s)).canLay0 = true
  | .no => by show (PyData.tuple [.str "no"]).canLay0 = true; decide +kernel
  | .lt l => by cases l <;> (show (PyData.tuple [.str "letter", .str _]).canLay0 = true) <;> decide +kernel
  | .not a => by
    have h : PyData.canLay0 (.str "not") = true := by decide +kernel
    show (PyData.tuple [.str "not", pyU (su a)]).canLay0 = true
    simp only [PyData.canLay0, PyData.canLayAll0, canLay_su a, Bool.and_true]
    simpa only [PyData.canLay0] using h
  | .shown a => by
    have h : PyData.canLay0 (.str "shown") = true := by decide +kernel
    show (PyData.tuple [.str "shown", pyU (su a)]).canLay0 = true
    simp only [PyData.canLay0, PyData.canLayAll0, canLay_su a, Bool.and_true]
    simpa only [PyData.canLay0] using h
  | .bin o a b => by
    have h : ∀ o : Bop, PyData.canLay0 (.str o.s) = true := by intro o; cases o <;> decide +kernel
    have h := h o
    show (PyData.tuple [.str o.s, pyU (su a), pyU (su b)]).canLay0 = true
    simp only [PyData.canLay0, PyData.canLayAll0, canLay_su a, canLay_su b, Bool.and_true]
    simpa only [PyData.canLay0] using h
theorem canLay_lt (l : Lt) : (pyU (ltU l)).canLay0 = true := by cases l <;> (show (PyData.str _).canLay0 = true) <;> decide +kernel
/-- a letter or a saying, not deep -/
def Th (n : Nat) (u : U) : Prop := (∃ l : Lt, u = ltU l) ∨ ∃ s : Sy, u = su s ∧ s.ht ≤ n
theorem Th.lay {n : Nat} {u : U} (h : Th n u) : (pyU u).canLay0 = true ∧ (pyU u).depth ≤ n ∧ pl u = true := by
  rcases h with ⟨l, rfl⟩ | ⟨s, rfl, hs⟩
  · exact ⟨canLay_lt l, Nat.zero_le _, by cases l <;> rfl⟩
  · have := dp_su s; unfold dp at this
    exact ⟨canLay_su s, by omega, pl_su s⟩
theorem Th.refl {n : Nat} {u : U} (h : Th n u) : PyData.eqv (pyU u) (pyU u) = true := PySem.SeqAt.eqv_refl_plain _ h.lay.2.2
end Law

/-! Sh12: classes: made, their fields, their methods. -/
namespace Sh
open PySem L2 Pl PyProof.Rows Law
/-- a class of the module with plain fields -/
structure ClsAt (K : PySem.W.Frag) (mg : Str → Option Value) (x : Str) (Cl : Addr) (ns : List Str) : Prop where
  gl : mg x = some (.ref Cl)
  cl : Cls K Cl
  nf : ∀ f ∈ ns, NoAttr K Cl f
structure MethAt (K : PySem.W.Frag) (Cl : Addr) (m qual : Str) (st : Stmt) (ps : List Str) : Prop where
  ex : ∃ f fd, Fun K m qual st f fd ∧ Meth K Cl m f ∧ ∀ us : List Value, us.length = ps.length → bindArgs fd ⟨us, []⟩ = pure (ps.zip us)
structure InitAt (K : PySem.W.Frag) (Cl : Addr) (qual : Str) (st : Stmt) (ps : List Str) : Prop where
  ex : ∃ f fd, Fun K "__init__" qual st f fd ∧ Mk K Cl f ∧ ∀ us : List Value, us.length = ps.length → bindArgs fd ⟨us, []⟩ = pure (ps.zip us)
/-- a method's promise, an __init__'s -/
structure Mt (P : Program) (w : World) (K : PySem.W.Frag) (mg : Str → Option Value) (base : Heap) (k : Nat) (Cl : Addr) (m : Str) (n : Nat) (S : Pl.Spec) : Prop where
  ex : ∃ f fd ps, FnG P w K mg base (L2.CX P w) k f fd ps (spOf K n S) ∧ Meth K Cl m f ∧ Binds K fd ps []
structure It (P : Program) (w : World) (K : PySem.W.Frag) (mg : Str → Option Value) (base : Heap) (k : Nat) (Cl : Addr) (n : Nat) (S : Pl.Spec) : Prop where
  ex : ∃ f fd ps, FnG P w K mg base (L2.CX P w) k f fd ps (spOf K n S) ∧ Mk K Cl f ∧ Binds K fd ps []
abbrev it (C : Pl.Ctx) := It C.P C.w C.K C.mg C.base
section
variable {K : PySem.W.Frag} {F : Fm} {B : Hp} {α : List Addr} {Γ : Pl.Env} {Λ : Cells} {σ : L2.St} {H : Hp}
end
section
variable {κ : Kl} {C : Pl.Ctx} {E : ER} {Γ : Pl.Env} {Λ : Cells} {pos p apos pos' : Pos} {o e : Expr} {es : List Expr} {f : Str}
variable {R : Rs}
end
/-! defs of classes -/
section
variable {κ : Kl} {G : Gl} {Cl : Addr}
abbrev Glmt (G : Gl) := Mt G.P G.w G.K G.mg G.base
abbrev Glit (G : Gl) := It G.P G.w G.K G.mg G.base
theorem MethAt.fn {m qual : Str} {st : Stmt} {ps : List Str} (h : MethAt G.K Cl m qual st ps) {k : Nat} {S : Pl.Spec} (H : ∀ (f : Addr) (fd : FuncData), Fun G.K m qual st f fd → FnG G.P G.w G.K G.mg G.base (L2.CX G.P G.w) k f fd ps (spOf G.K ps.length S)) : Glmt G k Cl m ps.length S := by
  obtain ⟨f, fd, h1, h2, h3⟩ := h.ex
  exact ⟨f, fd, ps, H f fd h1, h2, .all h3⟩
theorem InitAt.fn {qual : Str} {st : Stmt} {ps : List Str} (h : InitAt G.K Cl qual st ps) {k : Nat} {S : Pl.Spec} (H : ∀ (f : Addr) (fd : FuncData), Fun G.K "__init__" qual st f fd → FnG G.P G.w G.K G.mg G.base (L2.CX G.P G.w) k f fd ps (spOf G.K ps.length S)) : Glit G k Cl ps.length S := by
  obtain ⟨f, fd, h1, h2, h3⟩ := h.ex
  exact ⟨f, fd, ps, H f fd h1, h2, .all h3⟩
end
end Sh

/-! Sh13: a loop over a list of owned lists, its body one expression. -/
namespace Sh
open PySem L2 Pl PyProof.Rows Law
section
variable {C : Pl.Ctx} {Γ : Pl.Env} {Λ : Cells} {R : Rs} {pos pos2 : Pos}
end
end Sh
namespace Sh
open PySem L2 Pl PyProof.Rows Law
section
variable {κ : Kl} {C : Pl.Ctx} {E : ER} {Γ : Pl.Env} {Λ : Cells} {pos : Pos} {a b : Expr} {P : D → Cells → Prop}
end
end Sh
namespace Sh
open PySem L2 Pl PyProof.Rows Law
/-! classes in the text -/
/-- the one field of a thing of the class c -/
def fldM (c : Str) : U → M U
  | .ins c' [k] => if c' = c then .ok k else .stuck
  | _ => .stuck
@[simp] theorem fldM_ok {c : Str} {k : U} : fldM c (.ins c [k]) = .ok k := if_pos rfl
section
variable {κ : Kl} {Λ : Cells} {α : Type} {Q : α → Prop} {Eh : Str → List U → Prop} {c f : Str} {u : U} {k : U → M α}
end
section
variable {G : Gl} {Cl : Addr}
theorem MethAt.none {m qual : Str} {st : Stmt} {ps : List Str} (h : MethAt G.K Cl m qual st ps) {k : Nat} {S : Pl.Spec} (hS : ∀ ds Λ Q E, ¬ S ds Λ Q E) : Glmt G k Cl m ps.length S :=
  h.fn fun f fd F => ⟨fun vs H Q E ⟨_, _, _, _, _, _, _, z⟩ => absurd z (hS _ _ _ _), fun A outer s H args us vs Q E _ _ _ _ ⟨_, _, _, _, _, _, _, z⟩ => absurd z (hS _ _ _ _)⟩
theorem InitAt.none {qual : Str} {st : Stmt} {ps : List Str} (h : InitAt G.K Cl qual st ps) {k : Nat} {S : Pl.Spec} (hS : ∀ ds Λ Q E, ¬ S ds Λ Q E) : Glit G k Cl ps.length S :=
  h.fn fun f fd F => ⟨fun vs H Q E ⟨_, _, _, _, _, _, _, z⟩ => absurd z (hS _ _ _ _), fun A outer s H args us vs Q E _ _ _ _ ⟨_, _, _, _, _, _, _, z⟩ => absurd z (hS _ _ _ _)⟩
end
section
variable {κ : Kl} {C : Pl.Ctx} {E : ER} {Γ : Pl.Env} {Λ : Cells} {P : D → Cells → Prop} {pos apos cpos : Pos} {o e : Expr}
end
end Sh

/-! Sh14: zip of a text with a list. -/
namespace Sh
open PySem L2 Pl PyProof.Rows Law
section
variable {P : Program} {w : World} {K : PySem.W.Frag} {elts : List Expr} {kk : Nat} {tpos : Pos} {b z TI TO i1 i2 : Addr} {x : Str} {tx : Tok}
end
section
variable {K : PySem.W.Frag} {B : Hp}
end
section
variable {κ : Kl} {C : Pl.Ctx} {E : ER} {Γ : Pl.Env} {Λ : Cells} {Pn : List D → Cells → Prop} {pos p tpos : Pos} {e e2 tg : Expr} {elts : List Expr} {kk : Nat}
end
end Sh

/-! Sh15: things of one of several classes; a def read off a class; what is owned looked at by an expression that gives a bare thing. -/
namespace Sh
open PySem L2 Pl PyProof.Rows Law
section
variable {X : Cx} {CX : CXT} {E : XK} {o e : Expr} {es : List Expr} {m : Str} {pos apos : Pos} {ta : TE} {t : TA} {pl : Sem Bool}
end
section
variable {κ : Kl} {C : Pl.Ctx} {E : ER} {Γ : Pl.Env} {Λ : Cells} {pos p apos pos' : Pos} {o e : Expr} {es : List Expr} {f m : Str} {cs : List Str} {k n : Nat}
end
/-! a def read off a class, called with the thing that is being made -/
structure CAt (K : PySem.W.Frag) (mg : Str → Option Value) (x m qual : Str) (st : Stmt) (ps : List Str) : Prop where
  ex : ∃ Cl mc f fd, mg x = some (.ref Cl) ∧ ClX.CRead K Cl mc ∧ PySem.W.findCls K (.ref Cl) mc m = some (.val (.ref f)) ∧ PySem.W.keepIn K (.ref f) = true ∧ Fun K m qual st f fd ∧ ∀ us : List Value, us.length = ps.length → bindArgs fd ⟨us, []⟩ = pure (ps.zip us)
structure Cfn (P : Program) (w : World) (K : PySem.W.Frag) (mg : Str → Option Value) (base : Heap) (k : Nat) (x m : Str) (n : Nat) (S : Pl.Spec) : Prop where
  ex : ∃ Cl mc f fd ps, mg x = some (.ref Cl) ∧ ClX.CRead K Cl mc ∧ PySem.W.findCls K (.ref Cl) mc m = some (.val (.ref f)) ∧ PySem.W.keepIn K (.ref f) = true ∧ FnG P w K mg base (L2.CX P w) k f fd ps (spOf K n S) ∧ Binds K fd ps []
abbrev Glct (G : Gl) := Cfn G.P G.w G.K G.mg G.base
section
variable {κ : Kl} {C : Pl.Ctx} {E : ER} {Γ : Pl.Env} {Λ : Cells} {pos p apos : Pos} {e : Expr} {es : List Expr} {f m x : Str} {k n : Nat} {G : Gl}
theorem CAt.fn {qual : Str} {st : Stmt} {ps : List Str} (h : CAt G.K G.mg x m qual st ps) {S : Pl.Spec} (H : ∀ (f : Addr) (fd : FuncData), Fun G.K m qual st f fd → FnG G.P G.w G.K G.mg G.base (L2.CX G.P G.w) k f fd ps (spOf G.K ps.length S)) : Glct G k x m ps.length S := by
  obtain ⟨Cl, mc, f, fd, h1, h2, h3, h4, h5, h6⟩ := h.ex
  exact ⟨Cl, mc, f, fd, ps, h1, h2, h3, h4, H f fd h5, .all h6⟩
theorem CAt.none {qual : Str} {st : Stmt} {ps : List Str} (h : CAt G.K G.mg x m qual st ps) {S : Pl.Spec} (hS : ∀ ds Λ Q E, ¬ S ds Λ Q E) : Glct G k x m ps.length S :=
  h.fn fun f fd F => ⟨fun vs H Q E ⟨_, _, _, _, _, _, _, z⟩ => absurd z (hS _ _ _ _), fun A outer s H args us vs Q E _ _ _ _ ⟨_, _, _, _, _, _, _, z⟩ => absurd z (hS _ _ _ _)⟩
end
/-! ### an expression that gives a bare thing sees what is owned -/
inductive ThE (κ : Kl) (Λ : Cells) : Pl.Env → Pl.Env → Prop where
  | nil : ThE κ Λ [] []
  | no {o : Option D} {Γ Γ' : Pl.Env} (h : ThE κ Λ Γ Γ') : ThE κ Λ (o :: Γ) (none :: Γ')
  | so {d : D} {u : U} {Γ Γ' : Pl.Env} (h : fv Λ d = em κ u) (h2 : ThE κ Λ Γ Γ') : ThE κ Λ (some d :: Γ) (some (em κ u) :: Γ')
theorem ThE.len {κ : Kl} {Λ : Cells} {Γ Γ' : Pl.Env} (h : ThE κ Λ Γ Γ') : Γ'.length = Γ.length := by
  induction h with
  | nil => rfl
  | no _ ih => simp [ih]
  | so _ _ ih => simp [ih]
theorem ThE.get {κ : Kl} {Λ : Cells} {Γ Γ' : Pl.Env} (h : ThE κ Λ Γ Γ') : ∀ (i : Nat) (d' : D), Γ'[i]? = some (some d') → ∃ d u, Γ[i]? = some (some d) ∧ fv Λ d = em κ u ∧ d' = em κ u := by
  induction h with
  | nil => intro i d' e; simp at e
  | no _ ih => intro i d' e; cases i with
    | zero => simp at e
    | succ i => simpa using ih i d' (by simpa using e)
  | so h _ ih => intro i d' e; cases i with
    | zero => simp at e; exact ⟨_, _, rfl, h, e.symm⟩
    | succ i => simpa using ih i d' (by simpa using e)
section
variable {κ : Kl} {C : Pl.Ctx} {E : ER} {Γ Γ' : Pl.Env} {Λ : Cells} {e : Expr}
/-- all of them bare -/
def bare : U → Bool
  | .non => true
  | .bl _ => true
  | .int _ => true
  | .str _ => true
  | _ => false
end
/-! ### the facts of classes, out of the text -/
def adOf (mg : Str → Option Value) (x : Str) : Addr := match mg x with
  | some (.ref a) => a
  | _ => 0
section
variable {K : PySem.W.Frag} {mg : Str → Option Value} {x : Str} {C : Addr}
theorem adOf_eq (h : mg x = some (.ref C)) : adOf mg x = C := by unfold adOf; rw [h]
theorem gAt (h : mg x = some (.ref C)) : mg x = some (.ref (adOf mg x)) := by rw [adOf_eq h]; exact h
end
section
variable {κ : Kl} {C : Pl.Ctx} {Γ : Pl.Env} {Λ : Cells} {tg : Expr} {ws : List Nat} {Pg : Pl.Env → Prop} {α : Type} {Q : α → Prop} {Eh : Str → List U → Prop}
end
end Sh

/-! Sh16: what is owned, handed to a def that hands back bare things and tuples of such; things made with what is owned. -/
namespace Sh
open PySem L2 Pl PyProof.Rows Law
/-- bare things and tuples of such -/
def imm : U → Bool
  | .non => true
  | .bl _ => true
  | .int _ => true
  | .str _ => true
  | .tup us => imms us
  | _ => false
where imms : List U → Bool
  | [] => true
  | u :: us => imm u && imms us
def immM (u : U) : M U := if imm u = true then .ok u else .stuck
@[simp] theorem immM_int {i : Int} : immM (.int i) = .ok (.int i) := rfl
@[simp] theorem immM_bl {i : Bool} : immM (.bl i) = .ok (.bl i) := rfl
section
variable {K : PySem.W.Frag} {F : Fm} {B : Hp} {α : List Addr} {Γ : Pl.Env} {Λ : Cells} {σ : L2.St} {H : Hp}
variable {H1 B' H2 : Hp} {α' α0 : List Addr} {Γ' : Pl.Env} {Λ' : Cells} {σ' : L2.St} {X : Addr → Prop}
end
section
variable {κ : Kl} {C : Pl.Ctx} {E : ER} {Γ Γ' : Pl.Env} {Λ : Cells} {e : Expr}
end
/-! ### __init__: the field is a new list -/
section
variable {κ : Kl}
end
section
variable {κ : Kl} {G : Gl} {Cl : Addr} {x m : Str} {N : List Str} {vs ls : List Bool} {gl : List Str} {k : Nat} {f : Str} {g : List U → M (List U)} {qual : Str} {st : Stmt} {ps : List Str}
end
section
variable {κ : Kl} {C : Pl.Ctx} {E : ER} {Γ : Pl.Env} {Λ : Cells} {pos p apos : Pos} {e : Expr} {es : List Expr} {f m x c : Str} {k n : Nat}
variable {R : Rs} {o : Expr}
end
end Sh

/-! Sh17: list(reversed(x)), list(range(..)), x.reverse(), isinstance(x, C). -/
namespace Sh
open PySem PySem.Spec L2 Pl PyProof.Rows Law
section
variable {prog : Program} {w : World} {A : Around} {E : Value → Shared → Prop} {s : Shared}
end
section
variable {κ : Kl} {C : Pl.Ctx} {E : ER} {Γ : Pl.Env} {Λ : Cells} {pos p p2 pos2 apos cpos : Pos} {e e2 o : Expr}
/-- isinstance(x, T), x a thing of the class at Ci -/
structure IsiC (K : PySem.W.Frag) (Ci Ct : Addr) : Prop where
  cl : Cls K Ci
  ha : PySem.W.findIn K (.ref Ci) "__class__" = some (some (.builtin "object.__class__"))
  hn : PySem.W.specialIn K (.builtin "object.__class__") "__get__" = some (some (.builtin "getset_descriptor.__get__"))
  htk : PySem.W.takesIn K (.builtin "object.__class__") = some true
  hm : PySem.W.mroIn K Ci (.type "object") = some true
  me : PySem.W.kitOne K (.ref Ci) (.ref Ct) = some true
end
end Sh

/-! Sh18: refusals: raise, try, what was caught. -/
namespace L2
open PySem PySem.Spec PyProof.Rows
section
variable {X : Cx} {pins : List (Addr × Obj)} {σ : St} {H : Hp} {s : Shared}
/-- X(), X an own exception class without own __init__ -/
theorem pmk_own0 {C : Addr} {bmB : List Value} {B newId initId : String} {x : Str} {p pos : Pos} (F : ExcBaseFacts B newId initId bmB) (q : PySem.W.excIn X.K C bmB newId = true) (gC : X.mg x = some (.ref C))
    (kC : PySem.W.keepIn X.K (.ref C) = true) (r : Raises X (.ref C)) (hg : Gl X x) (hdb : (x == ("__debug__" : Str)) = false) :
    PMk X (.Call (.Name x p) [] [] pos) (fun σ H Q => Q (.ref C) none H) := by
  intro pins s σ H Q I h
  refine wpAny_Call_Name_kw (ld_glob I hg gC ?_ hdb)
  refine PySem.W.callWith_K0 (first := []) I.kIn kC ?_
  show wpAny _ _ (call (.ref C) []) _ _ _
  obtain ⟨bm, N, nm, qn, bs, hdct, sn, sub, ab, col, dd, k0, k1, k2, k3, k5, mN, hC, hN, hni, T⟩ := exc_obj I.kIn q
  refine wpAny_call_exc_subT F T hC hN hni (fun h' e hm => ?_) (Nat.zero_le _)
  exact mk_of I hm r h (I.hok.gone hm.new)
theorem excHO_ok {P : Program} {w : World} {h : Heap} {C a : Addr} {d : Option Addr} {oe : Obj} {vs : Array Value} (e : h.get? a = some oe) (z : Zc (.ref C) d oe) (hd : oe.data = .fields vs) : ObjOk P w H h a (Pl.excHO C a d) :=
  ⟨⟨oe, vs, e, z, hd⟩, ⟨oe, e⟩, fun _ _ ⟨o, v, q, r⟩ k => ⟨o, v, k o q, r⟩⟩
/-- an exception that was caught is tracked -/
theorem Inv.track {a C : Addr} {d : Option Addr} {oe : Obj} {vs : Array Value} (I : Inv X pins σ H s) (ha : s.heap.get? a = some oe) (hz : Zc (.ref C) d oe) (hd : oe.data = .fields vs) (na : H a = none) (n0 : X.s_0.heap.get? a = none) (nL : a ≠ X.env.locals)
    (nP : ∀ p ∈ X.pn ++ pins, p.1 ≠ a) : Inv X pins σ (upd H a (Pl.excHO C a d)) s := by
  have ne0 : ∀ b o, X.s_0.heap.get? b = some o → b ≠ a := fun b o e z => by rw [z, n0] at e; cases e
  have neS : ∀ b u, H b = some u → b ≠ a := fun b u e z => by rw [z, na] at e; cases e
  have neC : ∀ x c, X.env.cells.lookup x = some c → c ≠ a := fun x c e z => by
    obtain ⟨v, o, ho, hc⟩ := I.cell x c e
    rw [z, ha] at ho; cases ho
    rw [hd] at hc; cases hc
  refine ⟨I.ok, I.os, I.bare, ⟨fun b o e n hb hq => I.base.keep b o e n hb hq, fun b o e n hb hq => I.base.slot b o e n hb hq, fun b o e n hq => ?_, fun b o e hq => I.base.there b o e hq, fun b xs e => ?_, fun b o u e => ?_, fun b ps e => ?_⟩, I.loc, I.cell, ?_, fun x c e => ?_, fun p hp => ?_, fun b u e => ?_, I.len⟩
  · rw [upd_ne (ne0 b o e)]; exact I.base.free b o e n hq
  · have q := I.base.tups b xs e
    rw [upd_ne (neS b _ q)]; exact q
  · have q := I.base.frzs b o u e
    rw [upd_ne (neS b _ q)]; exact q
  · obtain ⟨m, q⟩ := I.base.tbls b ps e
    exact ⟨m, by rw [upd_ne (neS b _ q)]; exact q⟩
  · rw [upd_ne (Ne.symm nL)]; exact I.free
  · rw [upd_ne (neC x c e)]; exact I.freeC x c e
  · obtain ⟨e, n, r⟩ := I.pin p hp
    exact ⟨e, by rw [upd_ne (nP p hp)]; exact n, r⟩
  · by_cases hb : b = a
    · subst hb
      rw [upd_same] at e; cases e
      exact excHO_ok ha hz hd
    · rw [upd_ne hb] at e
      refine (I.hok b u e).stay (fun c v hc q => q) (fun c q => ?_) fun c xs q => ?_
      · rw [upd_ne (neS c _ q)]; exact q
      · rw [upd_ne (neS c _ q)]; exact q
end
section
variable {X : Cx} {x n y : Str} {c : Value} {i j : Nat} {body : List Stmt} {np np2 yp apos pos pos' : Pos} {tb : WX → TS}
end
end L2

/-! Sh19: refusals in the pure reading. -/
namespace Pl
open PySem L2 PyProof.Rows
/-- the datum of an exception that was caught -/
def excD (C : Addr) (e : Err) : D := match e.fs with
  | none => .exc C [] []
  | some (ns, ds) => .exc C ns ds
section
variable {K : PySem.W.Frag} {F : Fm} {B B' : Hp} {α α' : List Addr} {Γ : Env} {Λ : Cells} {σ : L2.St} {H H' : Hp}
theorem Sat.unset {i : Nat} (S : Sat K F B α Γ Λ σ H) : Sat K F B α (Γ.set i none) Λ (σ.set i none) H := by
  refine S.env (by simpa using S.ln) fun k d h => ?_
  by_cases e : i = k
  · subst e
    by_cases hl : i < Γ.length
    · rw [List.getElem?_set_self hl] at h; cases h
    · rw [List.getElem?_eq_none (by simpa using hl)] at h; cases h
  · rw [List.getElem?_set_ne e] at h ⊢
    exact S.sl k d h
/-- a thing of the heap that is new is seen -/
theorem Sat.seeIf {p : Addr} {o : HO} (S : Sat K F B α Γ Λ σ H) (hp : H p = some o) (h : B p = none → F.H0 p = none ∧ p ∉ α) (hn : NoTbl o := by intro _ q; cases q) : ∃ B1, Sat K F B1 α Γ Λ σ H ∧ Ex B B1 ∧ B1 p = some o := by
  cases e : B p with
  | none => exact ⟨_, S.see hp e (h e).1 (h e).2 hn, Ex.new e, upd_same⟩
  | some u =>
    have := S.bh p u e
    rw [hp] at this; cases this
    exact ⟨B, S, Ex.refl B, e⟩
theorem Sat.caught {e : Err} {C a : Addr} {d : Option Addr} (S : Sat K F B α Γ Λ σ H) (ea : ErrAt K F B α H e (.ref C) d) (ha : H a = none) : ∃ B1, Sat K F B1 α Γ Λ σ (upd H a (excHO C a d)) ∧ Ex B B1 ∧ Rep K B1 α (excD C e) (.ref a) := by
  obtain ⟨_, e2⟩ := ea
  unfold excD
  cases hf : e.fs with
  | none =>
    rw [hf] at e2
    have hB : B a = none := S.bh.back ha
    refine ⟨_, S.lay ha, Ex.new hB, ?_⟩
    unfold Rep
    exact ⟨a, d, [], rfl, upd_same, .nil, rfl, (fun _ => rfl), fun dx q => by rw [e2] at q; cases q⟩
  | some z =>
    obtain ⟨ns, ds⟩ := z
    rw [hf] at e2
    obtain ⟨p, vs, q1, q2, q3, q4, q5⟩ := e2
    obtain ⟨B1, S1, x1, h1⟩ := S.seeIf q2 q5
    have hB : B1 a = none := S1.bh.back ha
    have x2 : Ex B1 (upd B1 a (excHO C a d)) := Ex.new hB
    refine ⟨_, S1.lay ha, x1.trans x2, ?_⟩
    dsimp only
    unfold Rep
    exact ⟨a, d, vs, rfl, upd_same, q3.mono (x1.trans x2) (List.prefix_refl _), q4, (fun z => by rw [q1] at z; cases z), fun dx q => by rw [q1] at q; cases q; exact x2 _ _ h1⟩
end
section
variable {C : Ctx} {Γ : Env} {Λ : Cells} {R : Rs} {x n y : Str} {CA : Addr} {i j : Nat} {body : List Stmt} {np np2 yp apos pos pos' : Pos}
/-- raise x() -/
theorem ws_raise0 [Cool C] (hg : GlAt C x) (hm : C.mg x = some (.ref CA)) (hq : PySem.W.excIn C.K CA [.type "ValueError", .type "Exception", .type "BaseException", .type "object"] "ValueError.__new__" = true) (hk : PySem.W.keepIn C.K (.ref CA) = true)
    (hb : PySem.W.subIn C.K (.ref CA) (.type "BaseException") = some true) (ht : PySem.W.typeIn C.K (.ref CA) = some (.type "type")) (h : R.er ⟨.ref CA, none⟩ Γ Λ) (hd : (x == ("__debug__" : Str)) = false := by decide) :
    WS C Γ Λ (.Raise (some (.Call (.Name x np) [] [] pos)) none pos') R := fun X F W is hm' tk => by
  have e1 := is.K; have e2 := is.mg
  refine ps_imp (ps_raise is.calm tk (pmk_own0 PySem.F.excBase_ValueError (by rw [e1]; exact hq) (by rw [e2]; exact hm) (by rw [e1]; exact hk) (raises_own (by rw [e1]; exact hb) (by rw [e1]; exact ht)) (is.gl hg) hd)) fun D σ H ⟨B, α, S, q⟩ => ?_
  exact q.er ⟨.ref CA, none⟩ Γ Λ B α σ H (.ref CA) none h S (Ex.refl B) ⟨rfl, rfl⟩
end
end Pl
namespace Sh
open PySem L2 Pl PyProof.Rows
/-- k1 behind what goes well; refusals of the classes cs (each with its number of fields) are caught -/
def tryK {α σ : Type} (cs : List (Str × Nat)) (m : M σ) (k1 : σ → M α) (k2 : Str → List U → M α) : M α := match m with
  | .ok s => k1 s
  | .err c us => if cs.contains (c, us.length) then k2 c us else .stuck
  | .stuck => .stuck
@[simp] theorem tryK_ok {α σ : Type} {cs : List (Str × Nat)} {k1 : σ → M α} {k2 : Str → List U → M α} (a : σ) : tryK cs (.ok a) k1 k2 = k1 a := rfl
@[simp] theorem tryK_err {α σ : Type} {cs : List (Str × Nat)} {k1 : σ → M α} {k2 : Str → List U → M α} (c : Str) (us : List U) : tryK cs (.err c us) k1 k2 = if cs.contains (c, us.length) then k2 c us else .stuck := rfl
/-- .. at this state -/
def EIa (κ : Kl) (Eh : Str → List U → Prop) (E : ER) (Γ : Pl.Env) (Λ : Cells) : Prop := ∀ c us, Eh c us → E (errD κ c us) Γ Λ
theorem EI.at {κ : Kl} {Eh : Str → List U → Prop} {E : ER} {Γ : Pl.Env} {Λ : Cells} (h : EI κ Eh E) : EIa κ Eh E Γ Λ := fun c us q => h c us Γ Λ q
/-- .. where the first m cells are told -/
def EIm (κ : Kl) (m : Nat) (Eh : Str → List U → Prop) (E : ER) : Prop := ∀ c us Γ Λ, m ≤ Λ.length → (Λ.take m).all nlC = true → Eh c us → E (errD κ c us) Γ Λ
theorem EIm.at {κ : Kl} {m : Nat} {Eh : Str → List U → Prop} {E : ER} {Γ : Pl.Env} {Λ : Cells} (h : EIm κ m Eh E) (h1 : m ≤ Λ.length) (h2 : (Λ.take m).all nlC = true) : EIa κ Eh E Γ Λ := fun c us q => h c us Γ Λ h1 h2 q
theorem EI.m {κ : Kl} {m : Nat} {Eh : Str → List U → Prop} {E : ER} (h : EI κ Eh E) : EIm κ m Eh E := fun c us Γ Λ _ _ q => h c us Γ Λ q
/-- the wish of a try's body -/
def erT (κ : Kl) (Eh : Str → List U → Prop) (Γ : Pl.Env) (Λ : Cells) : ER := fun e Γ' Λ' => Γ' = Γ ∧ Λ' = Λ ∧ ∃ c us, e = errD κ c us ∧ Eh c us
theorem EIa.erT {κ : Kl} {Eh : Str → List U → Prop} {Γ : Pl.Env} {Λ : Cells} : EIa κ Eh (erT κ Eh Γ Λ) Γ Λ := fun c us h => ⟨rfl, rfl, c, us, rfl, h⟩
theorem excD_err {κ : Kl} {c : Str} {us : List U} (h : (κ.fs c).length = us.length) : excD (κ.ad c) (errD κ c us) = em κ (.exc c us) := by
  unfold excD errD
  dsimp only
  cases e : κ.fs c with
  | nil =>
    rw [e] at h
    have : us = [] := List.length_eq_zero_iff.mp h.symm
    subst this
    show D.exc _ [] [] = em κ (.exc c [])
    rw [em, e]; rfl
  | cons a b =>
    show D.exc _ _ _ = _
    rw [em, e]
theorem finFt {α β : Type} {κ : Kl} {Q : α → Prop} {Eh : Str → List U → Prop} {n : Nat} {f : List U → M β} {E : ER} {Γ : Pl.Env} {Λ : Cells} {ds : List D} {k : β → M α} {P : β → Prop} (us : List U) (hd : ds = ems κ us) (hn : us.length = n) (hE : EIa κ Eh E Γ Λ) (h : wp ((f us).bind k) Q Eh) (i : ∀ z, wp (k z) Q Eh → P z) : ∃ us, ds = ems κ us ∧ us.length = n ∧ wp (f us) P (fun c es => E (errD κ c es) Γ Λ) :=
  ⟨us, hd, hn, wp_mono (wp_bind h) i fun c es h => hE _ _ h⟩
/-- a class of refusals that a def raises without fields -/
structure ExcK (K : PySem.W.Frag) (mg : Str → Option Value) (κ : Kl) (c : Str) : Prop where
  g : mg c = some (.ref (κ.ad c))
  q : PySem.W.excIn K (κ.ad c) [.type "ValueError", .type "Exception", .type "BaseException", .type "object"] "ValueError.__new__" = true
  k : PySem.W.keepIn K (.ref (κ.ad c)) = true
  b : PySem.W.subIn K (.ref (κ.ad c)) (.type "BaseException") = some true
  t : PySem.W.typeIn K (.ref (κ.ad c)) = some (.type "type")
  f : κ.fs c = []
section
variable {κ : Kl} {C : Pl.Ctx} {E : ER} {Γ : Pl.Env} {Λ : Cells} {R : Rs} {pos pos' np : Pos} {x n y : Str} {Eh : Str → List U → Prop}
theorem errD0 {c : Str} (h : κ.fs c = []) : errD κ c [] = ⟨.ref (κ.ad c), none⟩ := by unfold errD; rw [h]
theorem ws_raiseM [Cool C] {α : Type} {Q : α → Prop} (hg : GlAt C x) (T : ExcK C.K C.mg κ x) (hE : EIa κ Eh R.er Γ Λ) (h : wp (M.err x [] : M α) Q Eh) (hd : (x == ("__debug__" : Str)) = false := by decide) :
    WS C Γ Λ (.Raise (some (.Call (.Name x np) [] [] pos)) none pos') R :=
  ws_raise0 hg T.g T.q T.k T.b T.t (by rw [← errD0 T.f]; exact hE x [] h) hd
theorem tryK_key {α σ : Type} {Q : α → Prop} {cs : List (Str × Nat)} {m : M σ} {k1 : σ → M α} {k2 : Str → List U → M α} (h : wp (tryK cs m k1 k2) Q Eh) : wp m (fun st => wp (k1 st) Q Eh) (fun c us => (c, us.length) ∈ cs ∧ wp (k2 c us) Q Eh) := by
  unfold tryK at h
  cases m with
  | stuck => exact h
  | ok a => exact h
  | err c us =>
    dsimp only at h
    split at h
    · rename_i hc
      exact ⟨List.contains_iff_mem.mp hc, h⟩
    · exact h.elim
end
/-! ### defs that are handed cells and may refuse -/
section
variable {κ : Kl} {mu : Bool} {α γ β : Type} {Dd : α → List D} {L : α → Cells} {f : α → M γ} {g : γ → M β} {R : β → Res} {L' : α → β → Cells}
theorem setAll_all : ∀ {Λ : Cells} {ls : List Nat} {cs : Cells}, Λ.all nlC = true → cs.all nlC = true → (setAll Λ ls cs).all nlC = true
  | _, [], _, h, _ => by cases ‹Cells› <;> exact h
  | _, _ :: _, [], h, _ => h
  | Λ, n :: ls, c :: cs, h, k => by
    rw [List.all_cons, Bool.and_eq_true] at k
    show (setAll (Λ.set n c) ls cs).all nlC = true
    refine setAll_all ?_ k.2
    rw [List.all_eq_true] at h ⊢
    intro x hx
    rcases List.mem_or_eq_of_mem_set hx with z | z
    · exact h x z
    · rw [z]; exact k.1
end
end Sh

/-! Sh20: what was caught is asked: isinstance, fields; calls with cells that refuse. -/
namespace L2
open PySem PySem.Spec PyProof.Rows
section
variable {X : Cx}
theorem exc_inst {pins : List (Addr × Obj)} {σ : St} {H : Hp} {s : Shared} {a C : Addr} {d : Option Addr} (I : Inv X pins σ H s) (ha : H a = some (Pl.excHO C a d)) (hd : ∀ dx, d = some dx → ∃ fs, H dx = some (.xd fs)) :
    ∃ oe od, PySem.W.InstAt s.heap a oe C od ∧ oe.dict = d ∧ ∀ dx, d = some dx → ∃ o, od = some o ∧ s.heap.get? dx = some o := by
  obtain ⟨⟨oe, vs, h1, hz, h2⟩, _⟩ := I.hok a _ ha
  have no : PySem.W.notCls oe = true := by unfold PySem.W.notCls; rw [h2] <;> rfl
  cases hd' : d with
  | none => exact ⟨oe, none, ⟨h1, hz.1, no, by rw [hz.2, hd']; trivial⟩, by rw [hz.2, hd'], fun dx z => by cases z⟩
  | some dx =>
    obtain ⟨fs, ea⟩ := hd dx hd'
    obtain ⟨mA, hns, hr⟩ := I.hok dx _ ea
    obtain ⟨od, ho, hl⟩ := lookIn_ns hns
    exact ⟨oe, some od, ⟨h1, hz.1, no, by rw [hz.2, hd']; exact ho⟩, by rw [hz.2, hd'], fun dx' z => by cases z; exact ⟨od, rfl, ho⟩⟩
theorem call_isExc : CallR X (.builtin "isinstance") fun xs H Q => ∃ (a C : Addr) (d : Option Addr) (c : V) (cv : Value) (b : Bool), xs = [.ref a, c] ∧ H a = some (Pl.excHO C a d) ∧ (∀ dx, d = some dx → ∃ fs, H dx = some (.xd fs)) ∧ ExcC X.K C ∧ (∀ u, RelV c u → u = cv) ∧ PySem.W.kitOne X.K (.ref C) cv = some b ∧ Q (.bl b) H := by
  intro pins s σ H xs us Q I r h
  obtain ⟨a, C, d, c, cv, b, rfl, ha, hd, T, hcv, e, q⟩ := h
  cases r with
  | cons rx rr =>
    cases rr with
    | cons rt rr =>
      cases rr
      cases rx
      have ec := hcv _ rt
      subst ec
      obtain ⟨oe, od, J, _, _⟩ := exc_inst I ha hd
      obtain ⟨cd, hc, _⟩ := PySem.W.any_some T.hd
      exact PySem.W.kia_one (PySem.W.kitx_exc (by rw [hc]; rfl) T.hg T.hk T.hs T.ha T.hn T.ht T.hm) I.kIn J e (fun z => nomatch z) fun tk => ⟨.bl b, H, I.kept (t' := tk) fun _ _ z => z, rfl, q⟩
end
end L2
namespace Sh
open PySem L2 Pl PyProof.Rows
/-- isinstance(x, T) of what was caught: the answer by the class -/
def isEM (tbl : List (Str × Bool)) : U → M U
  | .exc c _ => match tbl.lookup c with
    | some b => .ok (.bl b)
    | none => .stuck
  | _ => .stuck
structure ExcF (K : PySem.W.Frag) (κ : Kl) (c f : Str) : Prop where
  x : XfC K (κ.ad c)
  n : PySem.W.findIn K (.ref (κ.ad c)) f = some none
  f : κ.fs c = [f]
theorem lookup_mem {β : Type} {c : Str} {b : β} : ∀ {tbl : List (Str × β)}, tbl.lookup c = some b → (c, b) ∈ tbl
  | [], h => by cases h
  | (k, v) :: r, h => by
    rw [List.lookup_cons] at h
    split at h
    · rename_i e
      cases h
      have : c = k := by simpa using e
      subst this
      exact List.mem_cons_self
    · exact List.mem_cons_of_mem _ (lookup_mem h)
section
variable {κ : Kl} {C : Pl.Ctx} {E : ER} {Γ : Pl.Env} {Λ : Cells} {pos p p2 : Pos} {x : Str} {e : Expr} {P : D → Cells → Prop} {Eh : Str → List U → Prop}
theorem isE_key {tbl : List (Str × Bool)} {u : U} {Q : U → Prop} (h : wp (isEM tbl u) Q Tr) : ∃ c us b, u = .exc c us ∧ (c, b) ∈ tbl ∧ Q (.bl b) := by
  unfold isEM at h
  split at h
  · rename_i c us
    split at h
    · rename_i b hb
      exact ⟨c, us, b, rfl, lookup_mem hb, h⟩
    · exact h.elim
  · exact h.elim
theorem rep_exc {K : PySem.W.Frag} {B H : Hp} {α : List Addr} {c : Str} {us : List U} {v : V} (x : Ex B H) (h : Rep K B α (em κ (.exc c us)) v) : ∃ a d, v = .ref a ∧ H a = some (excHO (κ.ad c) a d) ∧ ∀ dx, d = some dx → ∃ fs, H dx = some (.xd fs) := by
  have hr : Rep K B α (.exc (κ.ad c) (κ.fs c) (ems κ us)) v := h
  unfold Rep at hr
  obtain ⟨a, d, vs, rfl, g1, g2, g3, g5, g4⟩ := hr
  exact ⟨a, d, rfl, x _ _ g1, fun dx z => ⟨_, x _ _ (g4 dx z)⟩⟩
theorem we_isEM {tbl : List (Str × Bool)} {Ct : Addr} (hj : GlAt C "isinstance") (hm : C.mg "isinstance" = none) (hj2 : GlAt C x) (hg : C.mg x = some (.ref Ct)) (hK : ∀ q ∈ tbl, ExcC C.K (κ.ad q.1) ∧ PySem.W.kitOne C.K (.ref (κ.ad q.1)) (.ref Ct) = some q.2)
    (h : WE C E Γ Λ e fun d Λ1 => ∃ u, d = em κ u ∧ wp (isEM tbl u) (fun z => P (em κ z) Λ1) Tr) (he : plainE e = true := by rfl) (hd : (x == ("__debug__" : Str)) = false := by decide) : WE C E Γ Λ (.Call (.Name "isinstance" p) [e, .Name x p2] [] pos) P := fun X F W is tk => by
  refine pe_imp (pe_callB call_isExc (is.gl hj) (by rw [is.mg]; exact hm) boot_isinstance (pa_cons pe_U (pa_cons (pe_glob (v := .ref Ct) (is.gl hj2) (by rw [is.mg]; exact hg) rfl hd) pa_nil (star_plain rfl)) (star_plain he)) (he := by rw [star_plain he]) (hpl := back_plain rfl)) fun σ H Q ⟨B, α, S, q, er⟩ => ?_
  refine WE.use h is tk S er fun d Λ1 v B1 α1 H1 p1 S1 x1 f1 r1 => ?_
  obtain ⟨u, rfl, p1⟩ := p1
  obtain ⟨c, us, b, rfl, hc, hp⟩ := isE_key p1
  obtain ⟨k1, k2⟩ := hK _ hc
  obtain ⟨a, d, rfl, g1, g2⟩ := rep_exc S1.bh r1
  refine ⟨a, κ.ad c, d, .ref Ct, .ref Ct, b, rfl, g1, g2, by rw [is.K]; exact k1, fun u z => z, by rw [is.K]; exact k2, ?_⟩
  exact q _ Λ1 _ B1 α1 H1 hp S1 x1 f1 (by show Rep _ _ _ (.bl b) _; unfold Rep; rfl)
theorem we_isEB {tbl : List (Str × Bool)} {Tn : String} (hj : GlAt C "isinstance") (hm : C.mg "isinstance" = none) (hj2 : GlAt C x) (hm2 : C.mg x = none) (hv : bootBuiltins x = some (.type Tn)) (hK : ∀ q ∈ tbl, ExcC C.K (κ.ad q.1) ∧ PySem.W.kitOne C.K (.ref (κ.ad q.1)) (.type Tn) = some q.2)
    (h : WE C E Γ Λ e fun d Λ1 => ∃ u, d = em κ u ∧ wp (isEM tbl u) (fun z => P (em κ z) Λ1) Tr) (he : plainE e = true := by rfl) (hn : x ≠ "__name__" := by decide) (hd : (x == ("__debug__" : Str)) = false := by decide) : WE C E Γ Λ (.Call (.Name "isinstance" p) [e, .Name x p2] [] pos) P := fun X F W is tk => by
  refine pe_imp (pe_callB call_isExc (is.gl hj) (by rw [is.mg]; exact hm) boot_isinstance (pa_cons pe_U (pa_cons (pe_bltn (is.gl hj2) (by rw [is.mg]; exact hm2) hv (v := .ty Tn) rfl hn hd) pa_nil (star_plain rfl)) (star_plain he)) (he := by rw [star_plain he]) (hpl := back_plain rfl)) fun σ H Q ⟨B, α, S, q, er⟩ => ?_
  refine WE.use h is tk S er fun d Λ1 v B1 α1 H1 p1 S1 x1 f1 r1 => ?_
  obtain ⟨u, rfl, p1⟩ := p1
  obtain ⟨c, us, b, rfl, hc, hp⟩ := isE_key p1
  obtain ⟨k1, k2⟩ := hK _ hc
  obtain ⟨a, d, rfl, g1, g2⟩ := rep_exc S1.bh r1
  refine ⟨a, κ.ad c, d, .ty Tn, .type Tn, b, rfl, g1, g2, by rw [is.K]; exact k1, fun u z => z, by rw [is.K]; exact k2, ?_⟩
  exact q _ Λ1 _ B1 α1 H1 hp S1 x1 f1 (by show Rep _ _ _ (.bl b) _; unfold Rep; rfl)
end
/-! ### calls with cells that may refuse -/
section
variable {κ : Kl} {mu : Bool} {α γ β : Type} {Dd : α → List D} {L : α → Cells} {f : α → M γ} {g : γ → M β} {R : β → Res} {L' : α → β → Cells} {C : Pl.Ctx} {E : ER} {Γ : Pl.Env} {Λ : Cells} {Eh : Str → List U → Prop}
/-- what a call with cells wishes of a refusal -/
def EIp (κ : Kl) (mu : Bool) (Eh : Str → List U → Prop) (E : ER) (Γ : Pl.Env) (Λ : Cells) (ls : List Nat) (L0 : Cells) : Prop := ∀ c us Λ', Λ'.length = L0.length → Λ'.all nlC = true → (mu = false → Λ' = L0) → Eh c us → E (errD κ c us) Γ (putB Λ ls Λ')
theorem EI.p {ls : List Nat} {L0 : Cells} (h : EI κ Eh E) : EIp κ mu Eh E Γ Λ ls L0 := fun c us Λ' _ _ _ q => h c us _ _ q
theorem EIa.p {ls : List Nat} {L0 : Cells} (h : EIa κ Eh E Γ Λ) (e : putB Λ ls L0 = Λ) : EIp κ false Eh E Γ Λ ls L0 := fun c us Λ' _ _ z q => by rw [z rfl, e]; exact h c us q
theorem putB_len {ls : List Nat} {Λ' : Cells} : Λ.length ≤ (putB Λ ls Λ').length := by
  unfold putB
  rw [List.length_append, setAll_length]; omega
theorem putB_nl {ls : List Nat} {Λ' : Cells} (h : Λ.all nlC = true) (h' : Λ'.all nlC = true) : (putB Λ ls Λ').all nlC = true := by
  unfold putB
  rw [List.all_append, Bool.and_eq_true]
  rw [List.all_eq_true] at h'
  refine ⟨setAll_all h (List.all_eq_true.mpr fun x hx => h' x (List.mem_of_mem_take hx)), List.all_eq_true.mpr fun x hx => h' x (List.mem_of_mem_drop hx)⟩
theorem EIm.p {m : Nat} {ls : List Nat} {L0 : Cells} (h : EIm κ m Eh E) (hm : m ≤ Λ.length) (hn : Λ.all nlC = true) : EIp κ mu Eh E Γ Λ ls L0 := fun c us Λ' _ n _ q => h c us _ _ (Nat.le_trans hm putB_len) (by
  have := putB_nl (ls := ls) hn n
  rw [List.all_eq_true] at this ⊢
  exact fun x hx => this x (List.mem_of_mem_take hx)) q
/-- .. where the cells stay -/
def EIz (κ : Kl) (L0 : Cells) (Eh : Str → List U → Prop) (E : ER) : Prop := ∀ c us Γ Λ, L0.length ≤ Λ.length → Λ.take L0.length = L0 → L0.all nlC = true → Eh c us → E (errD κ c us) Γ Λ
theorem EIz.at {L0 : Cells} (h : EIz κ L0 Eh E) (h1 : L0.length ≤ Λ.length) (h2 : Λ.take L0.length = L0) (h3 : L0.all nlC = true) : EIa κ Eh E Γ Λ := fun c us q => h c us Γ Λ h1 h2 h3 q
end
end Sh

/-! Sh21: calls without arguments. -/
namespace Sh
open PySem L2 Pl PyProof.Rows
theorem boot_VE : bootBuiltins "ValueError" = some (.type "ValueError") := by decide +kernel
section
variable {κ : Kl} {C : Pl.Ctx} {E : ER} {Γ : Pl.Env} {Λ : Cells} {pos p : Pos}
end
/-! what the text tells of the classes of refusals -/
section
variable {K : PySem.W.Frag} {mg : Str → Option Value} {x y : Str} {Cx Cy : Addr} {fs : Str → List Str}
theorem excAt {hp : Heap} (KX : K.In hp) (h : mg x = some (.ref Cx)) (xq : PySem.W.excIn K Cx [.type "ValueError", .type "Exception", .type "BaseException", .type "object"] "ValueError.__new__" = true) (k : PySem.W.keepIn K (.ref Cx) = true)
    (b : PySem.W.subIn K (.ref Cx) (.type "BaseException") = some true) (t : PySem.W.typeIn K (.ref Cx) = some (.type "type")) (f : fs x = []) : ExcK K mg ⟨adOf mg, fs⟩ x := by
  have e : adOf mg x = Cx := adOf_eq h
  refine ⟨?_, ?_, ?_, ?_, ?_, f⟩
  · show mg x = some (.ref (adOf mg x)); rw [e]; exact h
  · show PySem.W.excIn K (adOf mg x) _ _ = _; rw [e]; exact xq
  · show PySem.W.keepIn K (.ref (adOf mg x)) = _; rw [e]; exact k
  · show PySem.W.subIn K (.ref (adOf mg x)) _ = _; rw [e]; exact b
  · show PySem.W.typeIn K (.ref (adOf mg x)) = _; rw [e]; exact t
theorem excCAt {hp : Heap} (KX : K.In hp) (h : mg x = some (.ref Cx)) (hg : PySem.W.findIn K (.ref Cx) "__getattribute__" = some (some (.builtin "BaseException.__getattribute__"))) (hk : PySem.W.findIn K (.ref Cx) "__getattr__" = some none) (hs : PySem.W.subIn K (.ref Cx) (.type "BaseException") = some true)
    (hd : PySem.W.hasDictIn K Cx = true) (ha : PySem.W.findIn K (.ref Cx) "__class__" = some (some (.builtin "object.__class__"))) (hn : PySem.W.specialIn K (.builtin "object.__class__") "__get__" = some (some (.builtin "getset_descriptor.__get__")))
    (ht : PySem.W.takesIn K (.builtin "object.__class__") = some true) (hm : PySem.W.mroIn K Cx (.type "object") = some true) : ExcC K (adOf mg x) := by rw [adOf_eq h]; exact ⟨hg, hk, hs, hd, ha, hn, ht, hm⟩
theorem kitXX {b : Bool} {hp : Heap} (KX : K.In hp) (h : mg x = some (.ref Cx)) (h2 : mg y = some (.ref Cy)) (me : PySem.W.kitOne K (.ref Cx) (.ref Cy) = some b) : PySem.W.kitOne K (.ref (adOf mg x)) (.ref (adOf mg y)) = some b := by rw [adOf_eq h, adOf_eq h2]; exact me
theorem kitXT {b : Bool} {T : String} {hp : Heap} (KX : K.In hp) (h : mg x = some (.ref Cx)) (me : PySem.W.kitOne K (.ref Cx) (.type T) = some b) : PySem.W.kitOne K (.ref (adOf mg x)) (.type T) = some b := by rw [adOf_eq h]; exact me
theorem exmXX {hp : Heap} (KX : K.In hp) (h : mg x = some (.ref Cx)) (h2 : mg y = some (.ref Cy)) (h1 : PySem.W.subIn K (.ref Cy) (.type "BaseException") = some true) (hd : PySem.W.hasDictIn K Cy = true) (ht : PySem.W.typeIn K (.ref Cy) = some (.type "type")) (h4 : PySem.W.subIn K (.ref Cx) (.ref Cy) = some true) :
    PySem.W.exmOne K (.ref (adOf mg x)) (.ref (adOf mg y)) = some true := by rw [adOf_eq h, adOf_eq h2]; exact PySem.W.exm_ref h1 hd ht h4
end
end Sh

/-! Sh22: {k: v}. -/
namespace Pl
open PySem L2
section
variable {C : Ctx} {E : ER} {Γ : Env} {Λ : Cells} {pos : Pos}
end
end Pl
namespace Pl
open PySem L2
section
variable {C : Ctx} {Γ : Env} {Λ : Cells} {pos : Pos} {P : Env → Prop}
end
end Pl
namespace Sh
open PySem L2 Pl PyProof.Rows
def un2l : U → M (U × U)
  | .lst [a, b] => .ok (a, b)
  | _ => .stuck
@[simp] theorem un2l_ok {a b : U} : un2l (.lst [a, b]) = .ok (a, b) := rfl
end Sh

/-! Sh23: a str that is put down once or not at all. -/
namespace Pl
open PySem L2
section
variable {C : Ctx} {E : ER} {Γ : Env} {Λ : Cells} {P : D → Cells → Prop} {pos : Pos} {a b : Expr}
end
end Pl
namespace Sh
open PySem L2 Pl PyProof.Rows
def smulM (x y : U) : M U := match x, y with
  | .str s, .int n => if n = 0 then .ok (.str "") else if n = 1 then .ok (.str s) else .stuck
  | _, _ => .stuck
section
variable {κ : Kl} {C : Pl.Ctx} {E : ER} {Γ : Pl.Env} {Λ : Cells} {P : D → Cells → Prop} {pos : Pos} {a b : Expr}
end
@[simp] theorem smulM_0 {s : Str} : smulM (.str s) (.int 0) = .ok (.str "") := rfl
@[simp] theorem smulM_1 {s : Str} : smulM (.str s) (.int 1) = .ok (.str s) := rfl
end Sh

/-! Sh24: a tuple of the module. -/
namespace Sh
open PySem L2 Pl PyProof.Rows
/-- the module's tuple of one text -/
def TupAt (K : PySem.W.Frag) (mg : Str → Option Value) (x : Str) (s : Str) : Prop := ∃ a, mg x = some (.ref a) ∧ ∀ H, SqT K H a [.str s]
section
variable {κ : Kl} {C : Pl.Ctx} {E : ER} {Γ : Pl.Env} {Λ : Cells} {P : D → Cells → Prop} {pos : Pos}
theorem we_gtup {x s : Str} (hj : GlAt C x) (hm : TupAt C.K C.mg x s) (h : P (.tup [.str s]) Λ) (hd : (x == ("__debug__" : Str)) = false := by decide) : WE C E Γ Λ (.Name x pos) P := by
  obtain ⟨a, hm, hs⟩ := hm
  exact we_glob (v := .ref a) hj hm rfl (fun B α => by
    unfold Rep
    refine ⟨a, [.str s], rfl, .odd (hs B) rfl, ?_⟩
    unfold Reps Rep Reps
    exact ⟨_, _, rfl, rfl, rfl⟩) h hd
end
theorem tupAt_mk {K : PySem.W.Frag} {mg : Str → Option Value} {h : Heap} {x s : Str} {t : Tok} {a : Addr} {n : Nat} {dd : Option Addr} {sl : Array (Option Value)} (X : K.In h) (G : h.Ns mainGlobals mg)
    (ha : PySem.W.nsIn K mainGlobals x = some (some (.ref a))) (l : K.lookup a = some ⟨.type "tuple", dd, .seq #[.str s t] n, sl⟩) : TupAt K mg x s :=
  ⟨a, PySem.W.mg_of X G ha, fun H => .inr ⟨_, _, n, l, rfl, rfl, by show 1 ≤ sizeLine; decide, by show Paired RelV [.str s] [.str s t]; exact .cons ⟨t, rfl⟩ .nil⟩⟩
end Sh

/-! Sh25: x is not True. -/
namespace Sh
open PySem L2 Pl PyProof.Rows
def isntbM (x y : U) : M Bool := match x, y with
  | .bl a, .bl b => .ok (!decide (a = b))
  | _, _ => .stuck
section
variable {κ : Kl} {C : Pl.Ctx} {E : ER} {Γ : Pl.Env} {Λ : Cells} {P : D → Cells → Prop} {Pt : Bool → Cells → Prop} {pos : Pos} {a b : Expr}
end
@[simp] theorem isntbM_bl {a b : Bool} : isntbM (.bl a) (.bl b) = .ok (!decide (a = b)) := rfl
end Sh

/-! Sh26: comprehensions over an owned list. -/
namespace Pl
open PySem L2
section
variable {C : Ctx} {E : ER} {Γ : Env} {Λ : Cells} {tg : Expr} {P : List D → Cells → Prop}
end
section
variable {C : Ctx} {E : ER} {Γ : Env} {Λ : Cells}
end
end Pl
namespace Sh
open PySem L2 Pl
end Sh

/-! Sh27: enumerate of a text. -/
namespace Pl
open PySem PySem.Spec L2 PyProof.Rows
end Pl
namespace Sh
open PySem L2 Pl
def enumSM : U → M (List U)
  | .str s => .ok (s.cps.toList.mapIdx fun i c => .tup [.int (i : Nat), .str ⟨#[c]⟩])
  | _ => .stuck
@[simp] theorem enumSM_str {s : Str} : enumSM (.str s) = .ok (s.cps.toList.mapIdx fun i c => .tup [.int (i : Nat), .str ⟨#[c]⟩]) := rfl
end Sh

/-! Sh28: d != e, two dicts alike. -/
namespace Sh
open PySem L2 Pl PyProof.Rows
end Sh

/-! Sh29: d[k] = [.. for ..], d owned -/
namespace Pl
open PySem L2
section
variable {C : Ctx} {Γ : Env} {Λ : Cells} {R : Rs} {pos pos' : Pos} {e o i : Expr}
end
end Pl
namespace Sh
open PySem L2 Pl PyProof.Rows Law
section
variable {κ : Kl} {C : Pl.Ctx} {Γ : Pl.Env} {Λ : Cells} {R : Rs} {pos pos' : Pos} {e o i : Expr}
end
end Sh

/-! Sh30: exceptions with fields: C.__init__(self, ..) where C is a class of the program with ValueError's own __init__. -/
namespace L2
open PySem PySem.Spec PyProof.Rows
section
variable {X : Cx} {e : Expr} {es : List Expr} {ta : TA} {p1 p2 pos : Pos} {x : Str} {S : Addr}
end
end L2
namespace L2
open PySem PySem.Spec PyProof.Rows
/-- what the own __init__ of a refusal does: it keeps its argument under f -/
def spFld (K : PySem.W.Frag) (f : Str) : Sp := fun vs H Q _ => ∃ (a C : Addr) (y : V), vs = [.ref a, y] ∧ OexC K C ∧ PySem.W.findIn K (.ref C) f = some none ∧ H a = some (exo a C none) ∧ ∀ dx, H dx = none → dx ≠ a → Q .non (upd (upd H dx (exd dx [(f, y)])) a (exo a C (some dx)))
end L2
namespace Pl
open PySem L2 PyProof.Rows
section
variable {C : Ctx} {Γ : Env} {Λ : Cells} {R : Rs} {x f : Str} {CA fI : Addr} {k : Nat} {fd : FuncData} {ps : List Str} {np pos pos' : Pos} {e : Expr}
end
end Pl
namespace Sh
open PySem L2 Pl PyProof.Rows
/-- a class of refusals that keeps one thing -/
structure Exc1 (P : Program) (w : World) (K : PySem.W.Frag) (mg : Str → Option Value) (base : Heap) (κ : Kl) (k : Nat) (c : Str) : Prop where
  g : mg c = some (.ref (κ.ad c))
  ex : ∃ (fI : Addr) (fd : FuncData) (ps : List Str) (f : Str), OexC K (κ.ad c) ∧ PySem.W.findIn K (.ref (κ.ad c)) "__init__" = some (some (.ref fI)) ∧ PySem.W.typeIn K (.ref fI) = some (.type "function") ∧ PySem.W.findIn K (.ref (κ.ad c)) f = some none ∧
    FnOk P w K mg base (L2.CX P w) k fI fd ps (spFld K f) ∧ Binds K fd ps [] ∧ κ.fs c = [f]
end Sh

/-! Sh31: repr; a thing whose two fields are an owned list and an owned dict, handed to its own methods. -/
namespace Pl
open PySem L2 PyProof.Rows
section
variable {K : PySem.W.Frag} {F : Fm} {B B' : Hp} {α α' : List Addr} {Γ : Env} {Λ Λ' : Cells} {σ : L2.St} {H H' : Hp} {m : Nat}
end
end Pl
namespace Sh
open PySem L2 Pl PyProof.Rows
section
variable {κ : Kl} {C : Pl.Ctx} {E : ER} {Γ : Pl.Env} {Λ : Cells} {pos p apos pos' : Pos} {o e : Expr} {es : List Expr} {f m c : Str} {k n : Nat}
variable {R : Rs}
end
end Sh

/-! Sh32: the owned list of a thing seen from now on; global tuples of texts. -/
namespace Sh
open PySem L2 Pl PyProof.Rows
/-- a call where nothing may be raised -/
theorem finFk {α β : Type} {κ : Kl} {Q : α → Prop} {Eh : Str → List U → Prop} {n : Nat} {f : List U → M β} {E : ER} {Γ : Pl.Env} {Λ : Cells} {ds : List D} {k : β → M α} {P : β → Prop} (us : List U) (hd : ds = ems κ us) (hn : us.length = n) (h : wp ((f us).calm.bind k) Q Eh) (i : ∀ z, wp (k z) Q Eh → P z) : ∃ us, ds = ems κ us ∧ us.length = n ∧ wp (f us) P (fun c es => E (errD κ c es) Γ Λ) :=
  ⟨us, hd, hn, wp_mono (wp_calm (wp_bind h)) i fun _ _ h => h.elim⟩
end Sh

/-! Sh33: for over a list that is owned (alone, in zip, in enumerate): no turn changes it. -/
namespace Pl
open PySem L2 PyProof.Rows
/-- what is walked, as long as the list at a bears ds0 -/
structure ItsC (K : PySem.W.Frag) (B : Hp) (a : Addr) (ds0 : List D) (J : It) (ds : List D) : Prop where
  go : ∀ (i : Nat) (H : Hp) (vs : List V) (B1 : Hp) (α1 : List Addr), i < ds.length → Ex B B1 → Ex B1 H → H a = some (.lst vs) → Reps K B1 α1 ds0 vs → J.go i H
  stop : ∀ (H : Hp) (vs : List V) (B1 : Hp) (α1 : List Addr), Ex B B1 → Ex B1 H → H a = some (.lst vs) → Reps K B1 α1 ds0 vs → J.stop ds.length H
  yld : ∀ (i : Nat) (H : Hp) (x : V) (H' : Hp) (d : D) (vs : List V) (B1 : Hp) (α1 : List Addr), ds[i]? = some d → Ex B B1 → Ex B1 H → H a = some (.lst vs) → Reps K B1 α1 ds0 vs → J.yld i H x H' →
    (H' = H ∧ Rep K B1 α1 d x) ∨ (∃ p o vs es, x = .ref p ∧ H p = none ∧ H' = upd H p o ∧ TupHO o vs es ∧ d = .tup es ∧ Reps K B1 α1 es vs)
/-- the context in which M cells stay where they are -/
@[reducible] def Ctx.at (C : Ctx) (M : Nat) : Ctx := { C with m := M }
instance {C : Ctx} {M : Nat} [c : Cool C] : Cool (C.at M) := ⟨c.h⟩
theorem Ctx.Is.at {C : Ctx} {X : Cx} (is : C.Is X) (M : Nat) : (C.at M).Is X := ⟨is.prog, is.w, is.K, is.mg, is.base, is.N, is.sc, is.calmW, is.hdW, is.roomW, is.fn, ⟨is.good.nd, is.good.vis, is.good.sto, is.good.glo⟩, is.po, is.tp, is.cdv⟩
def LoopPO (C : Ctx) (tg : Expr) (vs : List Nat) (body : List Stmt) (R : Rs) (M n : Nat) (ds0 : List D) : List D → Env → Cells → Prop
  | [], Γ, Λ => Λ[n]? = some (Cell.lst ds0) ∧ R.nx Γ Λ
  | d :: ds, Γ, Λ => Λ[n]? = some (Cell.lst ds0) ∧ WG C Γ Λ tg d vs fun Γ' => WSs (C.at M) Γ' Λ body { R with nx := LoopPO C tg vs body R M n ds0 ds, ct := LoopPO C tg vs body R M n ds0 ds, bk := R.nx }
theorem LoopPO.cell {C : Ctx} {tg : Expr} {vs : List Nat} {body : List Stmt} {R : Rs} {M n : Nat} {ds0 ds : List D} {Γ : Env} {Λ : Cells} (h : LoopPO C tg vs body R M n ds0 ds Γ Λ) : Λ[n]? = some (Cell.lst ds0) := by
  cases ds <;> exact h.1
section
variable {K : PySem.W.Frag} {F : Fm} {B B' : Hp} {α α' : List Addr} {Γ Γ' : Env} {Λ Λ' : Cells} {σ σ' : L2.St} {H H' : Hp} {W : WX} {R : Rs} {D' : Ends}
end
section
variable {C : Ctx} {Γ : Env} {Λ : Cells} {R : Rs} {pos : Pos}
end
section
variable {C : Ctx} {E : ER} {Γ : Env} {Λ : Cells} {tg : Expr} {P : List D → Nat → List D → Cells → Prop} {p pos tpos : Pos} {elts : List Expr} {kk : Nat} {K : PySem.W.Frag} {B : Hp}
end
end Pl
namespace Sh
open PySem L2 Pl
section
variable {κ : Kl} {C : Pl.Ctx} {E : ER} {Γ : Pl.Env} {Λ : Cells} {α : Type} {Q : α → Prop} {Eh : Str → List U → Prop} {tg : Expr} {ws : List Nat} {body : List Stmt} {R : Rs} {Mc n : Nat} {us0 : List U}
variable {Pn : List D → Nat → List D → Cells → Prop} {pos p tpos : Pos} {e e2 : Expr} {elts : List Expr} {kk : Nat}
end
end Sh

/-! Sh34: methods and __init__s that refuse. -/
namespace L2
open PySem PySem.Spec PyProof.Rows
section
variable {X : Cx} {CX : CXT} {k : Nat} {f C : Addr} {fd : FuncData} {ps : List Str} {sp : Sp} {E : St → XK} {x m : Str} {p pos apos : Pos} {e o : Expr} {es : List Expr} {ta : TE} {t : TA}
end
end L2
namespace Sh
open PySem L2 Pl PyProof.Rows
section
variable {κ : Kl} {G : Gl} {Cl : Addr} {x m : Str} {N : List Str} {vs ls : List Bool} {gl : List Str} {k : Nat} {f : Str} {g : List U → M (List U)} {qual : Str} {st : Stmt} {ps : List Str}
end
theorem nls_nil : nls [] = true := rfl
theorem nls_cons (d : D) (ds : List D) : nls (d :: ds) = (nl d && nls ds) := rfl
/-- a refusal's wish -/
structure Rto (κ : Kl) (E : ER) (c : Str) (u : U) (Γ : Pl.Env) (Λ : Cells) : Prop where
  to : E (errD κ c [u]) Γ Λ
section
variable {κ : Kl} {C : Pl.Ctx} {E : ER} {Γ : Pl.Env} {Λ : Cells} {pos p apos : Pos} {e : Expr} {es : List Expr} {f m x c : Str} {k n : Nat}
end
end Sh

/-! Sh35: the module's dicts of texts and whole numbers by words. -/
namespace Sh
open PySem L2 Pl PyProof.Rows
section
variable {κ : Kl} {C : Pl.Ctx} {E : ER} {Γ : Pl.Env} {Λ : Cells} {P : D → Cells → Prop} {Pb : Bool → Cells → Prop} {pos p : Pos} {e : Expr} {x : Str} {ps : List (Str × U)}
end
end Sh

/-! Sh36: split, partition, upper, replace, str(int). -/
namespace L2
open PySem PySem.Spec PyProof.Rows
section
variable {X : Cx} {a o e : Expr} {ta to te : TE} {t : TE} {y z : Str} {j : Int} {k k1 k2 : Nat} {c0 c1 c2 apos pos p1 p2 : Pos}
end
end L2
namespace Sh
open PySem L2 Pl PyProof.Rows
section
variable {κ : Kl} {C : Pl.Ctx} {E : ER} {Γ : Pl.Env} {Λ : Cells} {P : D → Cells → Prop} {Pn : List D → Cells → Prop} {pos apos cpos p p1 p2 c0 c1 c2 : Pos} {o e a : Expr} {j : Int} {k k1 k2 : Nat} {y z : Str}
end
end Sh

/-! Sh37: a thing with one field that bears a bare thing, owned, changed by its own methods, which may refuse. -/
namespace Sh
open PySem L2 Pl PyProof.Rows
section
variable {κ : Kl} {c f : Str} {n : Nat}
variable {G : Gl} {Cl : Addr} {m qual : Str} {st : Stmt} {ps : List Str} {N : List Str} {vs ls : List Bool} {gl : List Str} {k : Nat} {g : List U → U → M (U × U)}
end
section
variable {κ : Kl} {C : Pl.Ctx} {E : ER} {Γ : Pl.Env} {Λ : Cells} {pos p apos pos' : Pos} {o e : Expr} {es : List Expr} {f m c : Str} {k n : Nat}
variable {R : Rs}
end
end Sh

/-! Sh38: x or y of texts; what stays as it was. -/
namespace Sh
open PySem L2 Pl PyProof.Rows
section
variable {κ : Kl} {C : Pl.Ctx} {E : ER} {Γ : Pl.Env} {Λ : Cells} {a b : Expr} {pos : Pos} {P : D → Cells → Prop}
end
/-- it is as it was -/
noncomputable def sameM (u v : U) : M Unit := by classical exact if u = v then .ok () else .stuck
@[simp] theorem sameM_ok {u : U} : sameM u u = .ok () := by unfold sameM; rw [if_pos rfl]
end Sh

/-! Sh39: sorted(e, key=lambda x: ..): the lambda made, called for each thing, the things sorted by what it gives. -/
namespace PySem.W
open PySem PySem.Calls PyProof.Rows
section
variable {prog : Program} {w : World} {A : Around} {E : Value → Shared → Prop} {s : Shared} {a kS : Addr} {vs : List Value} {e1 : Nat} {P : PySem.Fin → Shared → Prop} {kz : List Int} {J : Shared → Prop}
/-- both objects that a sort writes are elsewhere -/
def Off (a kS : Addr) (h h' : Heap) : Prop := ∀ b o, b ≠ a → b ≠ kS → h.get? b = some o → h'.get? b = some o
theorem Off.trans {a kS : Addr} {h h1 h2 : Heap} (x : Off a kS h h1) (y : Off a kS h1 h2) : Off a kS h h2 := fun b o n1 n2 e => y b o n1 n2 (x b o n1 n2 e)
theorem Off.same {a kS c : Addr} {h h1 : Heap} (x : Heap.SameBut c h h1) (hc : c = a ∨ c = kS) : Off a kS h h1 := fun b o n1 n2 e => (x.2 b (fun q => by
  rcases hc with z | z
  · exact n1 (q.trans z)
  · exact n2 (q.trans z))).trans e
end
end PySem.W

namespace L2
open PySem PySem.Spec PyProof.Rows LamX
section
variable {X : Cx} {pins : List (Addr × Obj)} {σ : St} {H : Hp} {s : Shared}
end
end L2
namespace Pl
open PySem L2 PyProof.Rows LamX
section
variable {K : PySem.W.Frag} {F : Fm} {B : Hp} {α : List Addr} {Γ : Env} {Λ : Cells} {σ : L2.St} {H H' : Hp}
end
@[reducible] def lamCtx (C : Ctx) (N : List Str) (sc : Scope) (vs ls : List Bool) (gl : List Str) (k : Nat) : Ctx := ⟨C.P, C.w, C.K, C.mg, C.base, N, sc, vs, ls, gl, k, 0, true, none, false⟩
instance {C : Ctx} {N : List Str} {sc : Scope} {vs ls : List Bool} {gl : List Str} {k : Nat} : Cool (lamCtx C N sc vs ls gl k) := ⟨rfl⟩
section
variable {C : Ctx} {E : ER} {Γ : Env} {Λ : Cells} {P : List D → Cells → Prop} {pos p kpos lpos : Pos} {e : Expr}
end
end Pl

/-! Sh40: t.count(b) of truths; sorted by a lambda in the pure reading; defs that make lambdas. -/
namespace L2
open PySem PySem.Spec PyProof.Rows PySem.W
section
variable {X : Cx} {o e : Expr} {es : List Expr} {to : TE} {t : TA} {name : Str} {apos cpos : Pos} {id : String} {r : V → List V → Hp → VK → Prop}
end
end L2
namespace Sh
open PySem L2 Pl PyProof.Rows
section
variable {κ : Kl} {C : Pl.Ctx} {E : ER} {Γ : Pl.Env} {Λ : Cells} {P : D → Cells → Prop} {o e : Expr} {apos cpos : Pos} {α : Type} {Q : α → Prop} {Eh : Str → List U → Prop}
end
section
variable {κ : Kl} {C C' : Pl.Ctx} {Λ1 : Cells} {α : Type} {Q : α → Prop} {Eh : Str → List U → Prop} {N : List Str} {body : Expr} {P : List D → Cells → Prop}
end
end Sh
namespace Pl
open PySem L2 PyProof.Rows
/-- a def of the module that makes lambdas: its code object stands at c -/
structure DefAtL (K : PySem.W.Frag) (mg : Str → Option Value) (x : Str) (st : Stmt) (ps : List Str) (c : Addr) : Prop where
  ex : ∃ f fd, Fun K x x st f fd ∧ mg x = some (.ref f) ∧ (∀ us : List Value, us.length = ps.length → bindArgs fd ⟨us, []⟩ = pure (ps.zip us)) ∧ fd.code = .ref c
theorem DefAtL.at {K : PySem.W.Frag} {mg : Str → Option Value} {x : Str} {st : Stmt} {ps : List Str} {c : Addr} (h : DefAtL K mg x st ps c) : DefAt K mg x st ps := by
  obtain ⟨f, fd, h1, h2, h3, _⟩ := h.ex
  exact ⟨f, fd, h1, h2, h3⟩
end Pl
namespace Sh
open PySem L2 Pl PyProof.Rows
end Sh

/-! Sh41: sorted(rows): rows are tuples of truths. -/
namespace Law
end Law
namespace L2
open PySem PySem.Spec PyProof.Rows PySem.W
end L2
namespace Sh
open PySem L2 Pl PyProof.Rows
section
variable {κ : Kl} {C : Pl.Ctx} {E : ER} {Γ : Pl.Env} {Λ : Cells} {Pn : List D → Cells → Prop} {pos p : Pos} {e : Expr}
end
end Sh

/-! Sh42: s < t of tuples of truths. -/
namespace L2
open PySem PySem.Spec PyProof.Rows PySem.W
end L2
namespace Sh
open PySem L2 Pl PyProof.Rows
section
variable {κ : Kl} {C : Pl.Ctx} {E : ER} {Γ : Pl.Env} {Λ : Cells} {Pt : Bool → Cells → Prop} {pos : Pos} {a b : Expr}
end
end Sh

/-! Sh43: defs that are called while an exception is being handled. -/
namespace L2
open PySem PySem.Spec PyProof.Rows
theorem RoomW.mono {j k : Nat} {A : Around} (r : RoomW k A) (h : j ≤ k) : RoomW j A := ⟨r.gd, by have := r.dp; omega, by have := r.un; omega⟩
theorem RoomW.deeper {k : Nat} {A : Around} (r : RoomW (k + 1) A) (env : Env) : RoomW k (A.deeper env) :=
  ⟨r.gd, by have := r.dp; show A.depth + 1 + k + 8 < _; omega, by have := r.un; show A.units + 3 + 4 * k + 220 < _; omega⟩
theorem RoomW.depth {k : Nat} {A : Around} (r : RoomW k A) : A.depth < recursionLimit := by have := r.dp; omega
/-- what a def promises, whatever is being handled -/
structure FnW (P : Program) (w : World) (K : PySem.W.Frag) (mg : Str → Option Value) (base : Heap) (CX : CXT) (k : Nat) (f : Addr) (fd : FuncData) (ps : List Str) (sp : Sp) : Prop where
  len : ∀ vs H Q E, sp vs H Q E → vs.length = ps.length
  run : ∀ (A : Around) (outer : List Env) (s : Shared) (H : Hp) (args : Args) (us : List Value) (vs : List V) (Q : VK) (E : XK), RoomW k A → Env0 P w K mg base A outer s H → BindsTo s fd args (ps.zip us) → Vals vs us → sp vs H Q E →
    codeAny (model P w) A (.call (.ref f) args) (CR CX outer P w H s Q E) s
/-- .. so where nothing is, too -/
theorem FnW.g {P : Program} {w : World} {K : PySem.W.Frag} {mg : Str → Option Value} {base : Heap} {CX : CXT} {k : Nat} {f : Addr} {fd : FuncData} {ps : List Str} {sp : Sp} (F : FnW P w K mg base CX k f fd ps sp) : FnG P w K mg base CX k f fd ps sp :=
  ⟨F.len, fun A outer s H args us vs Q E hr => F.run A outer s H args us vs Q E hr.w⟩
/-- the context of such a def's body -/
def cxW (CX : CXT) (P : Program) (w : World) (K : PySem.W.Frag) (mg : Str → Option Value) (base : Heap) (N : List Str) (qual : Str) (scope : Scope) (f : Addr) (cd : Value) (A : Around) (outer : List Env) (s : Shared) (H : Hp) (E : XK) : Cx :=
  { cxOf CX P w K mg base N qual scope f cd A outer s H E with calm := false }
theorem inv_startW {CX : CXT} {P : Program} {w : World} {K : PySem.W.Frag} {mg : Str → Option Value} {base : Heap} {N ps : List Str} {qual : Str} {scope : Scope} {f : Addr} {cd : Value} {A : Around} {outer : List Env} {s s1 : Shared} {H : Hp} {E : XK} {us : List Value} {vs : List V}
    (S : FnScope N ps scope) (e0 : Env0 P w K mg base A outer s H) (hl : vs.length = ps.length) (r : Vals vs us)
    (x : InCallC s s.heap.objs.size (bindL (envOfC qual scope s.heap.objs.size f cd).kindOf (ps.zip us) fun _ => none) (cellsFrom (s.heap.objs.size + 1) scope.names []) (bindC (envOfC qual scope s.heap.objs.size f cd).kindOf (ps.zip us) fun _ => none) s1) :
    Inv (cxW CX P w K mg base N qual scope f cd A outer s H E) [] (start N vs) H s1 := by
  have e1 : Env0 P w K mg base { A with handled := none } outer s H := ⟨e0.frames, e0.mod, e0.bs, e0.bsz, e0.funs, e0.frf, e0.hok, e0.bare⟩
  have I := inv_start (CX := CX) (E := E) (A := { A with handled := none }) S rfl e1 hl r x
  exact ⟨{ I.ok with hd := fun z => Bool.noConfusion (show false = true from z), frames := Around.frames_deeper e0.frames }, I.os, I.bare, I.base, I.loc, I.cell, I.free, I.freeC, I.pin, I.hok, I.len⟩
theorem fn_ofW {CX : CXT} {P : Program} {w : World} {K : PySem.W.Frag} {mg : Str → Option Value} {base : Heap} {k : Nat} {f : Addr} {name qual : Str} {params : Arguments} {body : List Stmt} {scope : Scope} {dV kV doc pm cdv ct oc : Value} {an od : Option Addr}
    {osl : Array (Option Value)} {N ps : List Str} {sp : Sp} (lk : K.lookup f = some ⟨oc, od, .func (PySem.W.fnOf name qual params body scope dV kV doc pm an cdv ct), osl⟩) (hcd : PySem.W.codeIn K cdv qual = true) (S : FnScope N ps scope)
    (len : ∀ vs H Q E, sp vs H Q E → vs.length = ps.length)
    (hbody : ∀ (A : Around) (outer : List Env) (s : Shared) (H : Hp) (vs : List V) (Q : VK) (E : XK), RoomW k (A.deeper (envOfC qual scope s.heap.objs.size f cdv)) → sp vs H Q E →
      ∃ t, PSs (cxW CX P w K mg base N qual scope f cdv A outer s H E) body t ∧ t { nx := fun _ H' => Q .non H', rt := Q } (start N vs) H) :
    FnW P w K mg base CX (k + 1) f (PySem.W.fnOf name qual params body scope dV kV doc pm an cdv ct) ps sp := by
  refine ⟨len, fun A outer s H args us vs Q E hr e0 hb r hsp => ?_⟩
  have hl := len _ _ _ _ hsp
  have KX : K.In s.heap := e0.mod.kin.keeps fun b o e => (e0.bs b o e).1
  have lim : s.heap.NoLimit := e0.mod.nolimit.keeps fun b o e => (e0.bs b o e).1
  have hkind : ∀ y ∈ ps.zip us, scope.names.lookup y.1 = some .local ∨ (scope.names.lookup y.1 = some .cell ∧ ((cellsFrom (s.heap.objs.size + 1) scope.names []).lookup y.1).isSome = true) := fun ⟨n, v⟩ hy => by
    rcases S.par n (List.of_mem_zip hy).1 with q | q
    · exact .inl q
    · exact .inr ⟨q, PySem.W.cellsFrom_some _ _ _ (.inl q)⟩
  refine codeAny_call_function hr.depth (KX _ _ lk) rfl S.co S.gen rfl (PySem.W.codeRec_of KX hcd) (hb _ _ _ _ ?_)
  refine wpAny_newFunctionEnv_cells S.kind hkind fun env he s1 x => ?_
  subst he
  refine ⟨lim.keeps x.toInCall.keep, codeAny_func ?_⟩
  obtain ⟨t, ht, hq⟩ := hbody A outer s H vs Q E (hr.deeper _) hsp
  have I : Inv (cxW CX P w K mg base N qual scope f cdv A outer s H E) [] (start N vs) H s1 := inv_startW S e0 hl r x
  refine wpAny_mono (ht.run [] s1 (start N vs) H _ I hq) (fun fl s' hs => ?_) fun e s' hs => hs
  have fin : ∀ {σ' : St} {H' : Hp} {v : V} {u : Value}, Inv (cxW CX P w K mg base N qual scope f cdv A outer s H E) [] σ' H' s' → RelV v u → Q v H' → CE outer P w H s Q u s' :=
    fun {σ' H' v u} J rv q => ⟨v, H', J.os, J.bare, J.base, J.hok, rv, q⟩
  cases fl with
  | ret u =>
    obtain ⟨v, σ', H', J, rv, q⟩ := hs
    exact fin J rv q
  | next =>
    obtain ⟨σ', H', J, q⟩ := hs
    exact fin (v := V.non) (u := Value.none) J rfl q
  | brk =>
    obtain ⟨_, _, _, q⟩ := hs
    exact False.elim q
  | cont =>
    obtain ⟨_, _, _, q⟩ := hs
    exact False.elim q
section
variable {P : Program} {w : World} {K : PySem.W.Frag} {mg : Str → Option Value} {base : Heap}
theorem Fun.okXW {x qual : Str} {st : Stmt} {f : Addr} {fd : FuncData} {N ps : List Str} {k : Nat} {sp : Sp} (F : Fun K x qual st f fd) (S : FnScope N ps (defScope st)) (len : ∀ vs H Q E, sp vs H Q E → vs.length = ps.length)
    (hbody : ∀ (cdv : Value) (A : Around) (outer : List Env) (s : Shared) (H : Hp) (vs : List V) (Q : VK) (E : XK), fd.code = cdv → RoomW k (A.deeper (envOfC qual (defScope st) s.heap.objs.size f cdv)) → sp vs H Q E →
      ∃ t, PSs (cxW (L2.CX P w) P w K mg base N qual (defScope st) f cdv A outer s H E) (defBody st) t ∧ t { nx := fun _ H' => Q .non H', rt := Q } (start N vs) H) : FnW P w K mg base (L2.CX P w) (k + 1) f fd ps sp := by
  obtain ⟨oc, od, kV, doc, pm, an, cdv, ct, osl, rfl, lk, hcd⟩ := F.ex
  exact fn_ofW lk hcd S len fun A outer s H vs Q E hr hsp => hbody cdv A outer s H vs Q E rfl hr hsp
end
section
variable {X : Cx} {CX : CXT} {k : Nat} {f : Addr} {fd : FuncData} {ps : List Str} {sp : Sp} {dvs : List V} {ds : List Value} {E : St → XK} {x : Str} {p pos : Pos} {e : Expr} {es : List Expr} {t : TA}
theorem run_fnSDW {pins : List (Addr × Obj)} {σ : St} {H : Hp} {s : Shared} {Q : VK} {us : List Value} {vs : List V} (F : FnW X.prog X.w X.K X.mg X.base CX k f fd ps sp) (hr : RoomW k X.A) (hb : Binds X.K fd ps ds) (hd : Vals dvs ds) (hx : PassesAt CX X σ (E σ))
    (I : Inv X pins σ H s) (r : Vals vs us) (h : sp (vs ++ dvs) H Q (E σ)) : wpAny (model X.prog X.w) X.A (call (.ref f) us) (EP X pins σ Q) X.xe s := by
  have r2 : Vals (vs ++ dvs) (us ++ ds) := r.append hd
  have hl : (us ++ ds).length = ps.length := by rw [← r2.length]; exact F.len _ _ _ _ h
  refine wpAny_call (codeAny_mono (F.run X.A X.stack s H ⟨us, []⟩ (us ++ ds) (vs ++ dvs) Q (E σ) hr I.env0 (hb s us I.kIn hl) r2 h) fun r s' hq => ?_)
  cases r with
  | error e => exact hx pins H s e s' I hq
  | ok fl =>
    cases fl with
    | ret u => exact I.after hq
    | next => exact False.elim hq
    | brk => exact False.elim hq
    | cont => exact False.elim hq
theorem pe_callSDW (F : FnW X.prog X.w X.K X.mg X.base CX k f fd ps sp) (hr : RoomW k X.A) (hg : Gl X x) (hm : X.mg x = some (.ref f)) (hk : PySem.W.keepIn X.K (.ref f) = true) (hb : Binds X.K fd ps ds) (hd : Vals dvs ds) (hx : ∀ σ, PassesAt CX X σ (E σ))
    (ha : PA X (e :: es) t) (hdb : (x == ("__debug__" : Str)) = false := by decide) (he : starEach (e :: es) X.env = (false, eval e X.env) :: starEach es X.env := by rfl) (hpl : (backTo pos (starEach es X.env)).any (·.1) = false := by rfl) :
    PE X (.Call (.Name x p) (e :: es) [] pos) (tCallSD sp dvs E t) := by
  refine ⟨fun pins s σ H Q I h => ?_⟩
  refine wpAny_Call_Name_kw (ld_glob I hg hm ?_ hdb)
  refine PySem.W.callWith_K (h₀ := X.base) I.ok.mod.kin hk (thn (ha.run pos pins s σ H _ I h) fun us s1 ⟨vs, H1, I1, r, q⟩ => ⟨I1.kIn, ?_⟩) he hpl
  exact run_fnSDW F hr hb hd (hx σ) I1 r q
end
end L2
namespace Pl
open PySem L2 PyProof.Rows
/-- a def of the module, whatever is being handled -/
structure FnHot (P : Program) (w : World) (K : PySem.W.Frag) (mg : Str → Option Value) (base : Heap) (k : Nat) (x : Str) (n : Nat) (S : Spec) : Prop where
  ex : ∃ f fd ps, FnW P w K mg base (L2.CX P w) k f fd ps (spOf K n S) ∧ mg x = some (.ref f) ∧ PySem.W.keepIn K (.ref f) = true ∧ Binds K fd ps [] ∧ ps.length = n
theorem FnHot.g {P : Program} {w : World} {K : PySem.W.Frag} {mg : Str → Option Value} {base : Heap} {k : Nat} {x : Str} {n : Nat} {S : Spec} (h : FnHot P w K mg base k x n S) : Fn P w K mg base k x n S := by
  obtain ⟨f, fd, ps, h1, h2⟩ := h.ex
  exact ⟨f, fd, ps, h1.g, h2⟩
theorem fn_okW {P : Program} {w : World} {K : PySem.W.Frag} {mg : Str → Option Value} {base : Heap} {x qual : Str} {st : Stmt} {f : Addr} {fd : FuncData} {N ps : List Str} {k : Nat} {S : Spec} (F : Fun K x qual st f fd) (sc : FnScope N ps (defScope st)) (C : Ctx)
    (hC : C.P = P ∧ C.w = w ∧ C.K = K ∧ C.mg = mg ∧ C.base = base ∧ C.N = N ∧ C.sc = defScope st ∧ C.k = k) (hh : C.hot = true) (good : C.Good) (hm : ∀ ds Λ Q E, S ds Λ Q E → Λ.length ≤ C.m)
    (hb : ∀ ds Λ Q E, ds.length = ps.length → S ds Λ Q E → WSs C (Γ0 N ds) Λ (defBody st) ⟨fun _ Λ' => rtY Λ Q (.val .non) Λ', rtY Λ Q, fun _ _ => False, fun _ _ => False, erX Λ E⟩) (hcd : ∀ q c, C.cd = some (q, c) → qual ++ ".<locals>." = q ∧ fd.code = .ref c := by intro _ _ h; cases h) : FnW P w K mg base (L2.CX P w) (k + 1) f fd ps (spOf K ps.length S) := by
  obtain ⟨rfl, rfl, rfl, rfl, rfl, rfl, hsc, rfl⟩ := hC
  refine F.okXW sc (fun vs H Q E h => by obtain ⟨_, _, _, h, _⟩ := h; exact h) fun cdv A outer s H vs Q E ecd hr h => ?_
  obtain ⟨Fm', ds, Λ, hl, hH, T, r, sp⟩ := h
  have hds : ds.length = ps.length := by rw [← r.length]; exact hl
  have hN : ps.length ≤ C.N.length := by have := congrArg List.length sc.pre; rw [List.length_take] at this; omega
  let X := cxW (L2.CX C.P C.w) C.P C.w C.K C.mg C.base C.N qual (defScope st) f cdv A outer s H E
  have is : C.Is X := ⟨rfl, rfl, rfl, rfl, rfl, rfl, hsc.symm, fun z => absurd (z.symm.trans hh) (by decide), fun z => absurd (z.symm.trans hh) (by decide), hr, fun _ _ _ _ => .inl rfl, good, passes_of rfl, fun _ => ⟨rfl, rfl, rfl⟩, fun q c e => ⟨(hcd q c e).1, ecd.symm.trans (hcd q c e).2⟩⟩
  have tk : Takes X (fun c d _ H => E c d H) := takes_of rfl rfl rfl rfl
  have T' : Sat C.K Fm' Fm'.B0 Fm'.α0 (Γ0 C.N ds) Λ (L2.start C.N vs) H := by
    refine T.env ?_ fun i d hi => ?_
    · unfold Γ0 L2.start
      simp only [List.length_append, List.length_map, List.length_replicate]
      omega
    · unfold Γ0 at hi
      by_cases hlt : i < ds.length
      · rw [List.getElem?_append_left (by simpa using hlt), List.getElem?_map] at hi
        cases q : ds[i]? with
        | none => rw [q] at hi; cases hi
        | some e =>
          rw [q] at hi
          cases hi
          obtain ⟨v, h1, h2⟩ := r.get q
          refine ⟨v, ?_, h2⟩
          unfold L2.start
          rw [List.getElem?_append_left (by have := (List.getElem?_eq_some_iff.mp h1).1; simpa using this), List.getElem?_map, h1]
          rfl
      · rw [List.getElem?_append_right (by simpa using hlt), List.getElem?_replicate] at hi
        split at hi <;> cases hi
  have hlen : Fm'.α0.length = Λ.length := T.al
  have cut : ∀ {m : Nat} {Γ' : Env} {Λ' : Cells} {B' : Hp} {α' : List Addr} {σ' : L2.St} {H' : Hp}, Λ.length ≤ m → Sat C.K Fm' B' α' Γ' Λ' σ' H' → (Λ'.take m).all nlC = true → Sat C.K Fm' B' (α'.take m) [] (Λ'.take m) [] H' := fun hm S' h =>
    S'.cut (by omega) (all_nlC h) rfl fun i d h => by simp at h
  refine ⟨_, hb ds Λ _ _ hds sp X Fm' _ is (by rw [T.al]; exact hm _ _ _ _ sp) tk, Fm'.B0, Fm'.α0, T', ⟨fun Γ' Λ' B' α' σ' H' h S' e => ?_, fun r Λ' v Γ' B' α' σ' H' h S' e ra => ?_, fun Γ' Λ' B' α' σ' H' h => h.elim, fun Γ' Λ' B' α' σ' H' h => h.elim, fun err Γ' Λ' B' α' σ' H' c dx h S' e ea => ?_⟩⟩
  · obtain ⟨m, hm1, h2, ⟨h1, h3⟩ | ⟨n, ds, _, e, _⟩ | ⟨n, ks, ds, _, e, _⟩⟩ := h
    · exact h3 .non H' B' _ (cut hm1 S' h2) (by unfold ResAt Rep; rfl)
    · cases e
    · cases e
  · have far : ∀ {m n : Nat} {a : Addr}, m ≤ n → α'[n]? = some a → a ∉ α'.take m := fun {m n a} hk ha hm => by
      have hna : n < α'.length := (List.getElem?_eq_some_iff.mp ha).1
      obtain ⟨j, hj, ej⟩ := List.getElem_of_mem hm
      rw [List.getElem_take] at ej
      rw [List.length_take] at hj
      have e1 : α'[j]? = some a := by rw [List.getElem?_eq_getElem (by omega), ej]
      have := (List.getElem?_inj (by omega) S'.nd).mp (e1.trans ha.symm)
      omega
    have fresh : ∀ {m n : Nat} {a : Addr}, Λ.length ≤ m → m ≤ n → α'[n]? = some a → (Fm'.H0 a = none ∨ a ∈ Fm'.α0) → Fm'.H0 a = none := fun {m n a} hm1 hn ha q3 => by
      rcases q3 with z | z
      · exact z
      · exfalso
        obtain ⟨t, ht⟩ := S'.pf
        apply far (m := Fm'.α0.length) (by omega) ha
        rw [← ht, List.take_append_of_le_length (Nat.le_refl _), List.take_length]
        exact z
    obtain ⟨m, hm1, h2, ⟨h1, h3⟩ | ⟨n, ds, hn, e, hc, hds, h3⟩ | ⟨n, ks, ds, hn, e, hc, hds, h3⟩⟩ := h
    · refine h3 v H' B' _ (cut hm1 S' h2) ?_
      cases r with
      | val d => exact reps_take h1 ra
      | new ds =>
        obtain ⟨p, vs, q1, q2, q3, q4, q5, q6⟩ := ra
        exact ⟨p, vs, q1, q2, q3, q4, fun hm => q5 (List.mem_of_mem_take hm), Reps.nl ds vs h1 q6⟩
    · subst e
      refine h3 v H' B' _ (cut hm1 S' h2) ?_
      unfold ResAt Rep at ra
      obtain ⟨a, rfl, ha⟩ := ra
      obtain ⟨a', q1, q2, q3, vs, q4, q5⟩ := S'.ce n _ hc (by simp)
      rw [ha] at q1; cases q1
      exact ⟨a, vs, rfl, q4, q2, fresh hm1 hn ha q3, far hn ha, Reps.nl ds vs hds q5⟩
    · subst e
      unfold ResAt Rep at ra
      obtain ⟨a, rfl, ha⟩ := ra
      obtain ⟨a', q1, q2, q3, vs, q4, q5, q6⟩ := S'.ce n _ hc (by simp)
      rw [ha] at q1; cases q1
      have S2 := (cut hm1 S' h2).see q4 q2 (fresh hm1 hn ha q3) (far hn ha)
      refine h3 (.ref a) H' _ _ S2 ?_
      have hx : Ex B' (upd B' a (.dK (ks.zip vs))) := Ex.new q2
      show Rep _ _ _ (.dic ks ds) _
      unfold Rep
      exact ⟨a, vs, rfl, .inl upd_same, (Reps.nl ds vs hds q5).mono hx (List.prefix_refl _), q6⟩
  · obtain ⟨h1, h2, h3⟩ := h
    refine h3 B' _ H' c dx (cut (Nat.le_refl _) S' h2) ?_
    obtain ⟨e1, e2⟩ := ea
    refine ⟨e1, ?_⟩
    unfold nlE at h1
    cases hf : err.fs with
    | none => rw [hf] at e2; exact e2
    | some z =>
      obtain ⟨ns, ds⟩ := z
      rw [hf] at e2 h1
      obtain ⟨a, vs, q1, q2, q3, q4, q5⟩ := e2
      exact ⟨a, vs, q1, q2, Reps.nl ds vs h1 q3, q4, fun z => ⟨(q5 z).1, fun hm => (q5 z).2 (List.mem_of_mem_take hm)⟩⟩
theorem fn_mkW {P : Program} {w : World} {K : PySem.W.Frag} {mg : Str → Option Value} {base : Heap} {k : Nat} {x : Str} {f : Addr} {fd : FuncData} {ps : List Str} {S : Spec} (h : FnW P w K mg base (L2.CX P w) k f fd ps (spOf K ps.length S)) (hm : mg x = some (.ref f)) (hk : PySem.W.keepIn K (.ref f) = true) (hb : Binds K fd ps []) :
    FnHot P w K mg base k x ps.length S := ⟨f, fd, ps, h, hm, hk, hb, rfl⟩
section
variable {C : Ctx} {E : ER} {Γ : Env} {Λ : Cells} {pos p : Pos}
theorem we_callW {k n : Nat} {x : Str} {S : Spec} {e : Expr} {es : List Expr} {P : D → Cells → Prop} (G : FnHot C.P C.w C.K C.mg C.base k x n S) (hk : k ≤ C.k) (hj : GlAt C x) (m : Mono S)
    (h : WA C E Γ Λ (e :: es) fun ds Λ1 => nls ds = true ∧ ds.length = n ∧ S ds [] (fun r Λ' => Λ' = [] ∧ ∃ d, r = .val d ∧ P d Λ1) fun err Λ' => Λ' = [] ∧ E err Γ Λ1)
    (he : plainE e = true := by rfl) (hes : es.all plainE = true := by rfl) (hdb : (x == ("__debug__" : Str)) = false := by decide) : WE C E Γ Λ (.Call (.Name x p) (e :: es) [] pos) P := fun X F W is tk => by
  obtain ⟨f, fd, ps, h1, h2, h3, h4, h5⟩ := G.ex
  have e1 := is.prog; have e2 := is.w; have e3 := is.K; have e4 := is.mg; have e5 := is.base
  refine pe_imp (pe_callSDW (E := fun σ c dx H' => W c dx σ H') (dvs := []) (ds := []) (by rw [e1, e2, e3, e4, e5]; exact h1) (is.roomW.mono hk) (is.gl hj) (by rw [e4]; exact h2) (by rw [e3]; exact h3) (by rw [e3]; exact h4) .nil
    (fun σ => by rw [← e1, ← e2]; exact passAt tk σ) pa_U hdb (star_plain he) (back_plain hes)) fun σ H Q ⟨B, α, T, q, er⟩ => ?_
  refine WA.use h is tk T er fun ds Λ1 vs B1 α1 H1 p1 T1 x1 f1 r1 => ?_
  obtain ⟨n1, n2, s1⟩ := p1
  refine call_sp T1 r1 n1 n2 s1 (m ds []) (er.mono x1) fun r v B' H' p' T' x' ra => ?_
  obtain ⟨d, rfl, p'⟩ := p'
  exact q d Λ1 v B' α1 H' p' T' (x1.trans x') f1 (Rep.mono (Ex.refl _) List.nil_prefix d v ra)
end
@[reducible] def Gl.cxh (G : Gl) (N : List Str) (sc : Scope) (vs ls : List Bool) (gl : List Str) (k : Nat) (m : Nat := 0) : Ctx := ⟨G.P, G.w, G.K, G.mg, G.base, N, sc, vs, ls, gl, k, m, true, none, true⟩
abbrev Gl.fnh (G : Gl) (k : Nat) (x : Str) (n : Nat) (S : Spec) : Prop := FnHot G.P G.w G.K G.mg G.base k x n S
theorem def_okW {G : Gl} {x : Str} {st : Stmt} {ps : List Str} (h : DefAt G.K G.mg x st ps) {N : List Str} {vs ls : List Bool} {gl : List Str} {k m : Nat} {S : Spec} (sc : FnScope N ps (defScope st)) (good : goodC N (defScope st) vs ls gl = true)
    (hm : ∀ ds Λ Q E, S ds Λ Q E → Λ.length ≤ m)
    (hb : ∀ ds Λ Q E, ds.length = ps.length → S ds Λ Q E → WSs (G.cxh N (defScope st) vs ls gl k m) (Γ0 N ds) Λ (defBody st) ⟨fun _ Λ' => rtY Λ Q (.val .non) Λ', rtY Λ Q, fun _ _ => False, fun _ _ => False, erX Λ E⟩) : G.fnh (k + 1) x ps.length S := by
  obtain ⟨f, fd, h1, h2, h3⟩ := h.ex
  exact fn_mkW (fn_okW h1 sc (G.cxh N (defScope st) vs ls gl k m) ⟨rfl, rfl, rfl, rfl, rfl, rfl, rfl, rfl⟩ rfl (good_by good) hm hb) h2 h1.kp (.all h3)
end Pl
namespace Sh
open PySem L2 Pl PyProof.Rows
section
variable {κ : Kl} {C : Pl.Ctx} {E : ER} {Γ : Pl.Env} {Λ : Cells} {n : Nat} {pos p : Pos}
theorem we_callVW {k : Nat} {x : Str} {e : Expr} {es : List Expr} {P : D → Cells → Prop} {f : List U → M U} (G : FnHot C.P C.w C.K C.mg C.base k x n (spV κ n f)) (hk : k ≤ C.k) (hj : GlAt C x)
    (h : WA C E Γ Λ (e :: es) fun ds Λ1 => ∃ us, ds = ems κ us ∧ us.length = n ∧ wp (f us) (fun z => P (em κ z) Λ1) (fun c es => E (errD κ c es) Γ Λ1))
    (he : plainE e = true := by rfl) (hes : es.all plainE = true := by rfl) (hdb : (x == ("__debug__" : Str)) = false := by decide) : WE C E Γ Λ (.Call (.Name x p) (e :: es) [] pos) P :=
  we_callW G hk hj spV_mono (wa_mono h fun ds Λ1 ⟨us, h1, h2, h3⟩ => by
    subst h1
    exact ⟨nls_em us, by rw [ems_len]; exact h2, rfl, us, rfl, h2, wp_mono h3 (fun z h => ⟨rfl, _, rfl, h⟩) fun c es h => ⟨rfl, h⟩⟩) he hes hdb
end
section
variable {κ : Kl} {G : Gl}
theorem def_VW {x : Str} {st : Stmt} {ps : List Str} (h : DefAt G.K G.mg x st ps) {N : List Str} {vs ls : List Bool} {gl : List Str} {k : Nat} {f : List U → M U} (sc : FnScope N ps (defScope st)) (good : goodC N (defScope st) vs ls gl = true)
    (hb : ∀ us, us.length = ps.length → ∀ Q Eh, wp (f us) Q Eh → WSs (G.cxh N (defScope st) vs ls gl k 0) (Γ0 N (ems κ us)) [] (defBody st) ⟨fun _ _ => Q .non, rtV κ Q, fun _ _ => False, fun _ _ => False, erM κ Eh⟩) : G.fnh (k + 1) x ps.length (spV κ ps.length f) :=
  def_okW (m := 0) h sc good (fun ds Λ Q E ⟨h, _⟩ => by subst h; exact Nat.le_refl _) fun ds Λ Q E hl ⟨h0, us, h1, h2, h3⟩ => by
    subst h0; subst h1
    refine wss_mono (hb us h2 _ _ h3) ⟨fun Γ Λ p => ?_, fun r Λ p => ?_, fun _ _ z => z, fun _ _ z => z, fun e Γ Λ p => ?_⟩
    · exact ⟨0, Nat.le_refl _, rfl, .inl ⟨rfl, p⟩⟩
    · rcases p with ⟨u, rfl, q⟩ | ⟨n, ks, us, rfl, q1, q2⟩
      · exact ⟨0, Nat.le_refl _, rfl, .inl ⟨ltD_nl _ (nl_em u), q⟩⟩
      · exact ⟨0, Nat.le_refl _, rfl, .inr (.inr ⟨n, ks, _, Nat.zero_le _, rfl, q1, nls_em us, q2⟩)⟩
    · obtain ⟨c, es, rfl, q⟩ := p
      exact ⟨nlE_errD, rfl, q⟩
end
end Sh

/-! Sh44: a suite of one statement behind `except x as n`, walked while the exception is being handled. -/
namespace L2
open PySem PySem.Spec PyProof.Rows
/-- what the clause 'except x as n: b₀' wishes of an exception of the body -/
def wHot (X : Cx) (c : Value) (i : Nat) (b₀ : Stmt) (D : Ends) : WX := fun cls d σ H =>
  PySem.W.exmOne X.K cls c = some true ∧ ∃ C, cls = .ref C ∧ ∀ a, H a = none → ∃ t : TS, (∀ pn, PSs (X.suite a pn) [b₀] t) ∧
    t { nx := fun σ6 H6 => D.nx (σ6.set i none) H6, rt := fun _ _ => False, bk := fun _ _ => False, ct := fun _ _ => False } (σ.set i (some (.ref a))) (upd H a (Pl.excHO C a d))
section
variable {X : Cx} {x n : Str} {c : Value} {i : Nat} {body : List Stmt} {b₀ : Stmt} {np pos pos' : Pos} {tb : WX → TS}
theorem ps_try_hot (hex : X.ex = []) (hs : X.stack = X.env :: X.outer) (hf : X.env.frame = some X.env.locals) (hN : X.N.Nodup) (hi : X.N[i]? = some n) (hln : X.env.kindOf n = some .local) (hc : Names X x c)
    (hb : ∀ (W : WX) (pn : List (Addr × Obj)) (xe : Value → Shared → Prop), Takes (X.tr pn xe) W → PassesOwn (model X.prog X.w) X.A X.env xe → PSs (X.tr pn xe) body (tb W)) :
    PS X (.Try body [.ExceptHandler (some (.Name x np)) (some n) [b₀] pos'] [] [] pos) (fun D σ H => tb (wHot X c i b₀ D) D σ H) := by
  refine ⟨fun pins s σ H D I h => ?_⟩
  have ok := I.ok
  have hfr : X.A.frames = some (X.env :: X.outer) := by rw [ok.frames, hs]
  have hloc : Loc X.env.scope n := .inl hln
  refine wpAny_Try_except ?_
  refine wpAny_mono ((hb (wHot X c i b₀ D) (X.pn ++ pins) (fun e s₁ => wpAny (model X.prog X.w) X.A (noteFrame e X.env) (fun _ s₂ => wpAny (model X.prog X.w) X.A (setFlight e none) (fun _ s₃ =>
    wpAny (model X.prog X.w) X.A (handleBy e X.env [.ExceptHandler (some (.Name x np)) (some n) [b₀] pos']) (SP X pins D) X.xe s₃) X.xe s₂) X.xe s₁) (fun u s' xx => ?_) PassesOwn.looking).run [] s σ H D (I.toTry _) h) (fun f s1 hsp => ?_) (fun e s1 he => he)
  · -- the catch
    obtain ⟨a, B, sI, pins', σ', H', cls, d, rfl, J', nb, up, sky, na, os, ag, hb1, C, rfl, hyes⟩ := xx
    have J : Inv X pins σ' H' sI := J'.ofTry ok
    have sky' : Sky B (X.env :: X.outer) a (Zc (.ref C) d) X.env.locals s'.heap := by rw [← hs]; exact sky
    show wpAny (model X.prog X.w) X.A (noteFrame (.ref a) X.env) _ _ _
    refine Sky.land Zc.steady hfr hf sky' fun h3 fl3 up3 => ?_
    have J3 : Inv X pins σ' H' { s' with heap := h3 } := J.landed nb fl3.1 (up.trans up3) os ag
    obtain ⟨oe3, vs3, he3, hz3, hd3⟩ := fl3.there
    have notFr : ∀ {h : Heap} {o : Obj} {vs : Array Value}, h.FunFrames B (X.env :: X.outer) → h.get? a = some o → o.data = .fields vs → a ∉ frs (X.env :: X.outer) := fun {h o vs} ff e dd hm => by
      obtain ⟨_, o', e', hnf⟩ := ff.mem hm
      rw [e] at e'; cases e'
      exact hnf _ dd
    have nfr := notFr fl3.2.2.1 he3 hd3
    have nL : a ≠ X.env.locals := fun z => nfr (List.mem_filterMap.mpr ⟨X.env, List.mem_cons_self, by rw [hf, z]⟩)
    have nF : a ∉ X.fs := fun hm => by
      obtain ⟨e, he, q⟩ := List.mem_filterMap.mp hm
      exact nfr (List.mem_filterMap.mpr ⟨e, List.mem_cons_of_mem _ he, q⟩)
    have nI : sI.heap.get? a = none := by
      cases q : sI.heap.get? a with
      | none => rfl
      | some o =>
        have z := nb a o q (by rw [hs]; exact nfr)
        rw [fl3.2.1] at z; cases z
    have nP : ∀ p ∈ X.pn ++ pins, p.1 ≠ a := fun p hp z => by
      have e := (J.pin p hp).1
      rw [z, nI] at e; cases e
    have n0 : X.s_0.heap.get? a = none := by
      cases q : X.s_0.heap.get? a with
      | none => rfl
      | some o =>
        obtain ⟨o', z⟩ := J.base.there a o q (by show a ∉ X.ex; rw [hex]; exact fun z => nomatch z)
        rw [nI] at z; cases z
    have S3 := J3.suite he3 hd3 na nL nF
    refine wpAny_handleBy_cons (codeAny_handlers_test ?_) (by intro q; cases q)
    have LT : PySem.W.Looks (model X.prog X.w) h3 (typeOf (.ref a)) (.ref C) := fun A Q E s k q => wpAny_typeOf_ref (k _ _ he3) (by rw [hz3.1]; exact q)
    have LM := PySem.W.exm_one (M := model X.prog X.w) (J3.kIn) LT hb1
    have test : ∀ {Q : Value → Shared → Prop} {E : Value → Shared → Prop}, Q c { s' with heap := h3 } → wpAny (model X.prog X.w) (X.A.mark (some (.ref a))) (eval (.Name x np) X.env) Q E { s' with heap := h3 } := fun {Q E} q => by
      obtain ⟨hg, hdbg, hm | ⟨hm, hv, hnn⟩⟩ := hc
      · exact ld_glob (X := X.suite a ((a, oe3) :: (X.pn ++ pins))) S3 hg hm q hdbg
      · exact ld_blt (X := X.suite a ((a, oe3) :: (X.pn ++ pins))) S3 hg hm hv q hnn hdbg
    refine test (LM.here ?_)
    refine codeAny_handlers_suite_as ?_
    refine HandSPX.lands_againZ fl3 fun h4 fl4 up4 => ?_
    have J4 : Inv X pins σ' H' { s' with heap := h4 } := J.landed nb fl4.1 ((up.trans up3).trans up4) os ag
    obtain ⟨oe4, vs4, he4, hz4, hd4⟩ := fl4.there
    have S4 := J4.suite he4 hd4 na nL nF
    refine store_ok (X := X.suite a ((a, oe4) :: (X.pn ++ pins))) (v := .ref a) S4 hN hi hloc rfl (fun s5 S5 => ?_) (.inr hln)
    have he5 := (S5.pin (a, oe4) (List.mem_append_left _ List.mem_cons_self)).1
    have T5 : Inv (X.suite a (X.pn ++ pins)) [] (σ'.set i (some (.ref a))) H' s5 := ⟨ok.suite _ _, S5.os, S5.bare, S5.base, S5.loc, S5.cell, S5.free, S5.freeC, fun q hq => S5.pin q (by rw [List.append_nil] at hq; exact List.mem_append_left _ (List.mem_cons_of_mem _ hq)), S5.hok, S5.len⟩
    have U5 := T5.track he5 hz4 hd4 na n0 nL (fun q hq => nP q (by rw [List.append_nil] at hq; exact hq))
    obtain ⟨t, ht, q5⟩ := hyes a na
    refine wpAny_mono ((ht (X.pn ++ pins)).run [] s5 _ _ _ U5 q5) (fun f s6 hsp => ?_) (fun _ _ z => False.elim z)
    cases f with
    | next =>
      obtain ⟨σ6, H6, S6, q6⟩ := hsp
      have J6 : Inv X pins σ6 H6 s6 := ⟨ok, S6.os, S6.bare, S6.base, S6.loc, S6.cell, S6.free, S6.freeC, fun q hq => S6.pin q (List.mem_append_left _ hq), S6.hok, S6.len⟩
      exact gone_ok J6 hN hi hln fun s7 J7 => ⟨_, _, J7, q6⟩
    | brk => obtain ⟨σ6, H6, S6, z⟩ := hsp; exact z.elim
    | cont => obtain ⟨σ6, H6, S6, z⟩ := hsp; exact z.elim
    | ret u => obtain ⟨v6, σ6, H6, S6, r6, z⟩ := hsp; exact z.elim
  · cases f with
    | next =>
      obtain ⟨σ', H', J', q⟩ := hsp
      exact wpAny_execs_nil ⟨σ', H', J'.ofTry ok, q⟩
    | brk =>
      obtain ⟨σ', H', J', q⟩ := hsp
      exact ⟨σ', H', J'.ofTry ok, q⟩
    | cont =>
      obtain ⟨σ', H', J', q⟩ := hsp
      exact ⟨σ', H', J'.ofTry ok, q⟩
    | ret u =>
      obtain ⟨v, σ', H', J', r, q⟩ := hsp
      exact ⟨v, σ', H', J'.ofTry ok, r, q⟩
end
end L2
namespace Pl
open PySem L2 PyProof.Rows
/-- the context while an exception is being handled -/
@[reducible] def Ctx.heat (C : Ctx) : Ctx := { C with hot := true }
theorem heat_is {C : Ctx} {X : Cx} (is : C.Is X) (a : Addr) (pn : List (Addr × Obj)) : C.heat.Is (X.suite a pn) :=
  ⟨is.prog, is.w, is.K, is.mg, is.base, is.N, is.sc, fun z => absurd z (by simp), fun z => absurd z (by simp), ⟨is.roomW.gd, is.roomW.dp, is.roomW.un⟩, is.fn, ⟨is.good.nd, is.good.vis, is.good.sto, is.good.glo⟩, PassesOwn.never, is.tp, is.cdv⟩
section
variable {C : Ctx} {Γ : Env} {Λ : Cells} {R : Rs} {x n : Str} {CA : Addr} {i : Nat} {body : List Stmt} {b₀ : Stmt} {np pos pos' : Pos}
theorem ws_tryHot (ht : C.tp = true) (hi : C.N[i]? = some n) (hln : C.sc.names.lookup n = some .local) (hg : GlAt C x) (hm : C.mg x = some (.ref CA))
    (h : WSs C Γ Λ body { R with er := fun e Γ' Λ' => ∃ C1, e.cls = .ref C1 ∧ PySem.W.exmOne C.K (.ref C1) (.ref CA) = some true ∧ WSs C.heat (Γ'.set i (some (excD C1 e))) Λ' [b₀] ⟨fun Γ1 Λ1 => R.nx (Γ1.set i none) Λ1, fun _ _ => False, fun _ _ => False, fun _ _ => False, ER.none⟩ })
    (hd : (x == ("__debug__" : Str)) = false := by decide) :
    WS C Γ Λ (.Try body [.ExceptHandler (some (.Name x np)) (some n) [b₀] pos'] [] [] pos) R := fun X F W is hm' tk => by
  obtain ⟨h1, h2, h3⟩ := is.tp ht
  have e1 := is.K
  refine ps_imp (ps_try_hot (i := i) (c := .ref CA) h3 h1 h2 is.nd (is.ni hi) (by show X.env.scope.names.lookup n = _; rw [is.sc]; exact hln)
    ⟨is.gl hg, hd, .inl (by rw [is.mg]; exact hm)⟩ fun W' pn xe tk' po => h (X.tr pn xe) F W' ⟨is.prog, is.w, is.K, is.mg, is.base, is.N, is.sc, is.calmW, is.hdW, is.roomW, is.fn, is.good, po, is.tp, is.cdv⟩ hm' tk') fun D σ H ⟨B, α, S, q⟩ => ?_
  refine ⟨B, α, S, q.nx, q.rt, q.bk, q.ct, fun err Γ' Λ' B' α' σ' H' c dx r S' e ea => ?_⟩
  obtain ⟨C1, hc, hx, r⟩ := r
  have ec : c = .ref C1 := by rw [← hc]; exact ea.1
  subst ec
  refine ⟨by rw [e1]; exact hx, C1, rfl, fun a ha => ?_⟩
  obtain ⟨B1, S1, x1, r1⟩ := S'.caught ea ha
  refine ⟨_, fun pn => r (X.suite a pn) F (fun _ _ _ _ => False) (heat_is is a pn) hm' takes0, B1, α', S1.set r1, ⟨fun Γ6 Λ6 B6 α6 σ6 H6 z S6 e6 => ?_, fun _ _ _ _ _ _ _ _ z => z.elim, fun _ _ _ _ _ _ z => z.elim, fun _ _ _ _ _ _ z => z.elim, fun _ _ _ _ _ _ _ _ _ z => z.elim⟩⟩
  exact q.nx _ Λ6 B6 α6 _ _ z S6.unset (e.trans (x1.trans e6))
end
end Pl
namespace Sh
open PySem L2 Pl PyProof.Rows
section
variable {κ : Kl} {C : Pl.Ctx} {E : ER} {Γ : Pl.Env} {Λ : Cells} {R : Rs} {pos pos' np : Pos} {x n y : Str} {Eh : Str → List U → Prop}
theorem ws_tryH {α σ : Type} {Q : α → Prop} {CA : Addr} {body : List Stmt} {b₀ : Stmt} (i : Nat) (sh : σ → Pl.Env → Cells → Prop) (cs : List (Str × Nat)) (ht : C.tp = true) (hi : C.N[i]? = some n) (hln : C.sc.names.lookup n = some .local) (hg : GlAt C x) (hm : C.mg x = some (.ref CA))
    (hx : ∀ c ∈ cs, PySem.W.exmOne C.K (.ref (κ.ad c.1)) (.ref CA) = some true ∧ (κ.fs c.1).length = c.2) {m : M σ} {k1 : σ → M α} {k2 : Str → List U → M α} (h : wp (tryK cs m k1 k2) Q Eh)
    (h1 : ∀ Q' E', wp m Q' E' → EIa κ E' (erT κ E' Γ Λ) Γ Λ → WSs C Γ Λ body { R with nx := fun Γ Λ => ∃ st, sh st Γ Λ ∧ Q' st, er := erT κ E' Γ Λ })
    (h3 : ∀ st Γ Λ, sh st Γ Λ → wp (k1 st) Q Eh → R.nx Γ Λ) (h2 : ∀ c us, wp (k2 c us) Q Eh → WSs C.heat (Γ.set i (some (em κ (.exc c us)))) Λ [b₀] ⟨fun Γ1 Λ1 => R.nx (Γ1.set i none) Λ1, fun _ _ => False, fun _ _ => False, fun _ _ => False, ER.none⟩)
    (hd1 : (x == ("__debug__" : Str)) = false := by decide) :
    WS C Γ Λ (.Try body [.ExceptHandler (some (.Name x np)) (some n) [b₀] pos'] [] [] pos) R := by
  refine ws_tryHot ht hi hln hg hm (wss_mono (h1 _ _ (tryK_key h) EIa.erT) ⟨fun Γ Λ ⟨st, a, b⟩ => h3 st Γ Λ a b, fun _ _ z => z, fun _ _ z => z, fun _ _ z => z, fun e Γ' Λ' z => ?_⟩) hd1
  obtain ⟨rfl, rfl, c, us, rfl, hc, hw⟩ := z
  obtain ⟨g1, g2⟩ := hx _ hc
  refine ⟨κ.ad c, rfl, g1, ?_⟩
  rw [excD_err g2]
  exact h2 c us hw
end
theorem fnh_none {G : Gl} {x : Str} {st : Stmt} {ps : List Str} {S : Pl.Spec} (h : DefAt G.K G.mg x st ps) {k : Nat} (hn : ∀ ds Λ Q E, ¬ S ds Λ Q E) : G.fnh k x ps.length S := by
  obtain ⟨f, fd, h1, h2, h3⟩ := h.ex
  exact ⟨f, fd, ps, ⟨fun vs H Q E q => by obtain ⟨_, _, _, hl, _, _, _, sp⟩ := q; exact (hn _ _ _ _ sp).elim, fun A outer s H args us vs Q E _ _ _ _ q => by obtain ⟨_, _, _, hl, _, _, _, sp⟩ := q; exact (hn _ _ _ _ sp).elim⟩, h2, h1.kp, .all h3, rfl⟩
end Sh

/-! Sh45: int(text). -/
namespace Sh
open PySem L2 Pl
section
variable {κ : Kl} {C : Pl.Ctx} {E : ER} {Γ : Pl.Env} {Λ : Cells} {e : Expr} {p pos : Pos} {P : D → Cells → Prop}
end
end Sh

/-! Sh46: comprehensions whose items may be refused. -/
namespace Pl
open PySem L2

section
variable {M : Model} {A : Around} {E : Value → Shared → Prop} {s : Shared} {Z : Obj → Prop} {base : Heap} {env : PySem.Env} {outer l : List PySem.Env} {L e : Addr}
end

section
variable {M : Model} {A : Around} {E : Value → Shared → Prop} {s : Shared} {env : PySem.Env}
end

section
variable {X : Cx} {pins : List (Addr × Obj)} {σ : L2.St} {H H3 : Hp} {s s3 : Shared} {W : WX}
end

/-! ### the loop -/
section
variable {X : Cx}
end

section
variable {C : Ctx} {E : ER} {Γ : Env} {Λ : Cells}
end
end Pl
namespace Sh
open PySem L2 Pl
section
variable {κ : Kl} {C : Pl.Ctx} {E : ER} {Γ : Pl.Env} {Λ : Cells} {α : Type} {Q : α → Prop} {Eh : Str → List U → Prop} {tg : Expr} {ws : List Nat}
end
end Sh

/-! Sh47: a dict of items that is owned; a, b = u, v. -/
namespace Pl
open PySem L2 PyProof.Rows
section
variable {C : Ctx} {E : ER} {Γ : Env} {Λ : Cells} {pos : Pos}
end
section
variable {C : Ctx} {E : ER} {Γ : Env} {Λ : Cells}
end
end Pl

/-! Sh48: x.index(y) of a list of deep things. -/
namespace Pl
open PySem PySem.Spec PyProof.Rows L2
section
variable {X : Cx}
end
end Pl
namespace Sh
open PySem L2 Pl PyProof.Rows
section
variable {κ : Kl} {C : Pl.Ctx} {E : ER} {Γ : Pl.Env} {Λ : Cells} {P : D → Cells → Prop} {o e : Expr} {apos cpos : Pos}
end
end Sh
namespace Law
open PySem L2 Pl Sh PyProof.Rows
end Law

/-! Sh49: sorted(d.keys()); defs that hand back a tuple in which a list is owned; cells thrown away. -/
namespace L2
open PySem PySem.Spec PyProof.Rows
section
variable {X : Cx} {e : Expr} {td : TE} {apos cpos : Pos}
end
end L2
namespace Sh
open PySem L2 Pl PyProof.Rows Law
section
variable {κ : Kl} {C : Pl.Ctx} {E : ER} {Γ : Pl.Env} {Λ : Cells} {Pn : List D → Cells → Prop} {pos p apos cpos : Pos} {e : Expr}
end
/-! cells thrown away -/
/-! results that are taken apart -/
end Sh

/-! Sh50: exceptions made as values. -/
namespace L2
open PySem PySem.Spec PyProof.Rows
end L2
namespace Pl
open PySem L2 PyProof.Rows
section
variable {C : Ctx} {E : ER} {Γ : Env} {Λ : Cells} {P : D → Cells → Prop} {x f : Str} {CA fI : Addr} {k : Nat} {fd : FuncData} {ps : List Str} {np pos : Pos} {e : Expr}
end
end Pl
namespace Sh
open PySem L2 Pl PyProof.Rows
section
variable {κ : Kl} {C : Pl.Ctx} {E : ER} {Γ : Pl.Env} {Λ : Cells} {P : D → Cells → Prop} {pos np : Pos} {c : Str} {e : Expr} {k : Nat}
end
end Sh

/-! Sh51: sorted(set(xs)), xs a list of texts: sets of texts as HandS.SetBool's of truth values, made of a list as HandS.SetFor's of ints. -/
namespace L2
open PySem PySem.Spec PyProof.Rows
def keyT (e : Int × Value) : Str := match e.2 with | .str k _ => k | _ => Str.empty
def GoodT (w : World) (e : Int × Value) : Prop := ∃ k tk, e.2 = Value.str k tk ∧ e.1 = hashStr w k
/-- the set of texts at a: S its members, n their number; its table rises and can be walked -/
def SetT (w : World) (h : Heap) (a : Addr) (S : Str → Bool) (n : Nat) : Prop :=
  ∃ o es ep t, h.get? a = some o ∧ o.ExactSet ∧ o.data = .set es ep t ∧ (∀ e ∈ es.toList, GoodT w e) ∧ (es.toList.map keyT).Nodup ∧ (∀ k, S k = true ↔ k ∈ es.toList.map keyT) ∧
    es.size < scanBound ∧ t.fits es.size = true ∧ es.size = n ∧ Ris t.place.toList ∧ (w.params.followText "set-order" = true ∨ t.led = true)
section
variable {P : Program} {w : World} {h h' : Heap} {a : Addr} {S : Str → Bool} {n : Nat}
theorem SetT.at (R : SetT w h a S n) (k : ∀ o, h.get? a = some o → h'.get? a = some o) : SetT w h' a S n := by
  obtain ⟨o, es, ep, t, ho, r⟩ := R
  exact ⟨o, es, ep, t, k o ho, r⟩
end
section
variable {P : Program} {w : World} {A : Around} {E : Value → Shared → Prop} {s : Shared} {a : Addr} {S : Str → Bool} {n : Nat}
end
section
variable {P : Program} {w : World} {A : Around} {E : Value → Shared → Prop} {s : Shared}
end

/-! as tracked things -/
section
variable {X : Cx}
end
end L2
namespace Sh
open PySem L2 Pl PyProof.Rows Law
section
variable {κ : Kl} {C : Pl.Ctx} {E : ER} {Γ : Pl.Env} {Λ : Cells} {Pn : List D → Cells → Prop} {pos pos2 p p2 : Pos} {e : Expr}
end
end Sh

/-! Sh53: {i: u, j: v} of unlike whole numbers; xs * n as a new list. -/
namespace Pl
open PySem L2
section
variable {C : Ctx} {E : ER} {Γ : Env} {Λ : Cells} {pos : Pos}
end
end Pl
namespace Sh
open PySem L2 Pl PyProof.Rows
section
variable {κ : Kl} {C : Pl.Ctx} {E : ER} {Γ : Pl.Env} {Λ : Cells} {Pn : List D → Cells → Prop} {pos : Pos} {a b : Expr}
def neIM (i j : Int) : M Unit := if i = j then .stuck else .ok ()
@[simp] theorem neIM_ok {i j : Int} (h : i ≠ j) : neIM i j = .ok () := if_neg h
end
end Sh
namespace Pl
open PySem L2
section
variable {C : Ctx} {E : ER} {Γ : Env} {Λ : Cells} {R : Rs} {pos pt pt2 px py : Pos}
end
end Pl

/-! Sh54: lists within what a def told are changed later. -/
namespace Pl
open PySem L2 PyProof.Rows
/-! ### a new list that nobody changes from now on -/
theorem pe_fz {X : Cx} {e : Expr} {t : TE} (h : PE X e t) : PE X e (fun σ H Q => t σ H fun v H1 => ∃ a u, v = .ref a ∧ H1 a = some u ∧ Mut (some u) ∧ ∀ od, Q v (upd H1 a (.frz od u))) :=
  ⟨fun pins s σ H Q I q => thn (h.run pins s σ H _ I q) fun u s1 ⟨x, H1, I1, rx, a, w, ex, ha, mu, q⟩ => by
    obtain ⟨od, I2⟩ := I1.lock ha mu
    exact ⟨x, _, I2, rx, q od⟩⟩
theorem we_fz {C : Ctx} {E : ER} {Γ : Env} {Λ : Cells} {P : D → Cells → Prop} {e : Expr} (h : WN C E Γ Λ e fun ds Λ' => P (.fzl ds) Λ') : WE C E Γ Λ e P := fun X F W is tk => by
  refine pe_imp (pe_fz (h X F W is tk)) fun σ H Q ⟨B, α, S, q, er⟩ => ⟨B, α, S, fun ds Λ' p vs B' α' H' hp S' e pf h1 h2 h3 h4 h5 => ?_, er⟩
  refine ⟨p, _, rfl, h1, trivial, fun od => ?_⟩
  have hx : Ex B' (upd B' p (.frz od (.lst vs))) := Ex.new h2
  have S2 := (S'.poke h2 h3 h4 (by rw [h1]; trivial) (o := .frz od (.lst vs))).see upd_same h2 h3 h4
  refine q _ Λ' _ _ α' _ hp S2 (e.trans hx) pf ?_
  show Rep C.K _ α' (.fzl ds) (.ref p)
  unfold Rep
  exact ⟨p, vs, rfl, .inl ⟨od, upd_same⟩, h5.mono hx (List.prefix_refl _)⟩
/-! ### the view without lists -/
def nolst (B : Hp) : Hp := fun a => match B a with
  | some (.lst _) => none
  | x => x
theorem nolst_some {B : Hp} {a : Addr} {o : HO} (h : nolst B a = some o) : B a = some o ∧ ∀ xs, o ≠ .lst xs := by
  unfold nolst at h
  split at h
  · cases h
  · rename_i x hx
    exact ⟨h, fun xs e => by subst e; exact hx xs h⟩
theorem nolst_of {B : Hp} {a : Addr} {o : HO} (h : B a = some o) (n : ∀ xs, o ≠ .lst xs) : nolst B a = some o := by
  unfold nolst
  split
  · rename_i xs hx; rw [hx] at h; cases h; exact absurd rfl (n xs)
  · exact h
theorem nolst_rdT {B : Hp} {a : Addr} {xs : List V} (h : Rd B a (.tup xs)) : Rd (nolst B) a (.tup xs) := by
  rcases h with h | ⟨o, h⟩
  · exact .inl (nolst_of h fun _ q => nomatch q)
  · exact .inr ⟨o, nolst_of h fun _ q => nomatch q⟩
theorem nolst_sqT {K : PySem.W.Frag} {B : Hp} {a : Addr} {xs : List V} (h : SqT K B a xs) : SqT K (nolst B) a xs := by
  rcases h with h | h
  · exact .inl (nolst_rdT h)
  · exact .inr h
theorem nolst_sqX {K : PySem.W.Frag} {B : Hp} {a : Addr} {xs : List V} {ds : List D} (h : SqX K B a xs ds) : SqX K (nolst B) a xs ds :=
  ⟨nolst_sqT h.1, fun q => by obtain ⟨o, u, z, d⟩ := h.2 q; exact ⟨o, u, nolst_of z (fun _ w => by cases w), d⟩⟩
theorem nolst_sqZ {K : PySem.W.Frag} {B : Hp} {a : Addr} {xs : List V} (h : SqZ K B a xs) : SqZ K (nolst B) a xs := by
  rcases h with ⟨o, h⟩ | h
  · exact .inl ⟨o, nolst_of h fun _ q => nomatch q⟩
  · exact .inr h
end Pl
namespace Sh
open PySem L2 Pl PyProof.Rows
mutual
/-- no list lies within that may be changed -/
def frzU : U → Bool
  | .non => true
  | .bl _ => true
  | .int _ => true
  | .str _ => true
  | .tup us => frzUs us
  | .fzl us => frzUs us
  | .lst _ => false
  | .dic _ _ => false
  | .ins _ _ => false
  | .exc _ _ => false
def frzUs : List U → Bool
  | [] => true
  | u :: us => frzU u && frzUs us
end
section
variable {κ : Kl} {K : PySem.W.Frag} {F : Fm} {B : Hp} {α : List Addr} {Γ : Pl.Env} {Λ : Cells} {σ : L2.St} {H : Hp}
mutual
theorem rep_nolst : ∀ (u : U) (v : V), frzU u = true → Rep K B α (em κ u) v → Rep K (nolst B) [] (em κ u) v
  | .non, _, _, h => by unfold em Rep at h ⊢; exact h
  | .bl _, _, _, h => by unfold em Rep at h ⊢; exact h
  | .int _, _, _, h => by unfold em Rep at h ⊢; exact h
  | .str _, _, _, h => by unfold em Rep at h ⊢; exact h
  | .tup us, v, n, h => by
    unfold em Rep at h ⊢
    obtain ⟨a, vs, rfl, h1, h2⟩ := h
    exact ⟨a, vs, rfl, nolst_sqX h1, reps_nolst us vs n h2⟩
  | .fzl us, v, n, h => by
    unfold em Rep at h ⊢
    obtain ⟨a, vs, rfl, h1, h2⟩ := h
    exact ⟨a, vs, rfl, nolst_sqZ h1, reps_nolst us vs n h2⟩
  | .lst _, _, n, _ => by cases n
  | .dic _ _, _, n, _ => by cases n
  | .ins _ _, _, n, _ => by cases n
  | .exc _ _, _, n, _ => by cases n
theorem reps_nolst : ∀ (us : List U) (vs : List V), frzUs us = true → Reps K B α (ems κ us) vs → Reps K (nolst B) [] (ems κ us) vs
  | [], _, _, h => by unfold ems Reps at h ⊢; exact h
  | u :: us, vs, n, h => by
    have n : (frzU u && frzUs us) = true := n
    rw [Bool.and_eq_true] at n
    unfold ems Reps at h ⊢
    obtain ⟨v, r, rfl, h1, h2⟩ := h
    exact ⟨v, r, rfl, rep_nolst u v n.1 h1, reps_nolst us r n.2 h2⟩
end
theorem nolst_nt (S : Sat K F B α Γ Λ σ H) (a : Addr) (ps : Array Value) : nolst B a ≠ some (.tbl ps) := fun h => S.tb.nb a ps (nolst_some h).1
theorem sat_nol (S : Sat K F B α Γ Λ σ H) : Sat K ⟨H, nolst B, []⟩ (nolst B) [] [] [] [] H where
  bb := Ex.refl _
  bh := fun a o h => S.bh a o (nolst_some h).1
  fr := fun a o h => .inl h
  kp := fun a o h _ _ => h
  dm := fun a h => h
  pf := List.prefix_refl _
  nd := List.nodup_nil
  al := rfl
  ce := fun n c h => by simp at h
  ah := fun a h => by simp at h
  sl := fun i d h => by simp at h
  ln := rfl
  tb := S.tb.view (nolst_nt S) fun a h => by simp at h
/-- what both views see -/
def joinV (B V : Hp) : Hp := fun a => match B a with
  | some o => some o
  | none => V a
theorem joinV_l {B V : Hp} : Ex B (joinV B V) := fun a o h => by unfold joinV; rw [h]
theorem joinV_cases {B V : Hp} {a : Addr} {o : HO} (h : joinV B V a = some o) : B a = some o ∨ (B a = none ∧ V a = some o) := by
  unfold joinV at h
  split at h
  · rename_i u hu; cases h; exact .inl hu
  · rename_i hu; exact .inr ⟨hu, h⟩
/-- what the callee's view sees more is new -/
theorem nol_new {V H' : Hp} {β : List Addr} {Γ' : Pl.Env} {Λ' : Cells} {σ' : L2.St} (S : Sat K F B α Γ Λ σ H) (T : Sat K ⟨H, nolst B, []⟩ V β Γ' Λ' σ' H') {a : Addr} {o : HO} (h : V a = some o) : (B a = some o ∧ ∀ xs, o ≠ .lst xs) ∨ (B a = none ∧ H a = none) := by
  rcases T.fr a o h with z | z
  · exact .inl (nolst_some z)
  · exact .inr ⟨S.bh.back z, z⟩
theorem joinV_r {V H' : Hp} {β : List Addr} {Γ' : Pl.Env} {Λ' : Cells} {σ' : L2.St} (S : Sat K F B α Γ Λ σ H) (T : Sat K ⟨H, nolst B, []⟩ V β Γ' Λ' σ' H') : Ex V (joinV B V) := fun a o h => by
  rcases nol_new S T h with ⟨z, _⟩ | ⟨z, _⟩
  · unfold joinV; rw [z]
  · unfold joinV; rw [z]; exact h
theorem sat_join {V H' : Hp} (S : Sat K F B [] Γ [] σ H) (T : Sat K ⟨H, nolst B, []⟩ V [] [] [] [] H') : Sat K F (joinV B V) [] Γ [] σ H' :=
  have kp : ∀ a o, H a = some o → NoTbl o → H' a = some o := fun a o h n => T.kp a o h (by simp) n
  { S with
    bb := S.bb.trans joinV_l
    bh := fun a o h => by
      rcases joinV_cases h with z | ⟨_, z⟩
      · exact kp a o (S.bh a o z) fun ps e => S.tb.nb a ps (by rw [z, e])
      · exact T.bh a o z
    fr := fun a o h => by
      rcases joinV_cases h with z | ⟨z0, z⟩
      · exact S.fr a o z
      · rcases nol_new S T z with ⟨z1, _⟩ | ⟨_, z1⟩
        · rw [z0] at z1; cases z1
        · exact .inr (S.dm a z1)
    kp := fun a o h h2 n => kp a o (S.kp a o h h2 n) n
    dm := fun a h => S.dm a (T.dm a h)
    ce := fun n c h => by simp at h
    ah := fun a h => by simp at h
    sl := fun i d h => by
      obtain ⟨v, h1, h2⟩ := S.sl i d h
      exact ⟨v, h1, h2.mono joinV_l (List.prefix_refl _)⟩
    tb := ⟨T.tb.tabs, S.tb.h0, fun a ps h => by
      rcases joinV_cases h with z | ⟨_, z⟩
      · exact S.tb.nb a ps z
      · exact T.tb.nb a ps z, fun a h => by simp at h⟩ }
end
/-- u, told by v, bears no list of the view B -/
def Fre (K : PySem.W.Frag) (κ : Kl) (B B' : Hp) (u : U) (v : V) : Prop := ∃ V, Ex V B' ∧ (∀ a xs, V a = some (.lst xs) → B a = none) ∧ Rep K V [] (em κ u) v
theorem Fre.mono {K : PySem.W.Frag} {κ : Kl} {B B' B'' : Hp} {u : U} {v : V} (h : Fre K κ B B' u v) (e : Ex B' B'') : Fre K κ B B'' u v := by
  obtain ⟨V, h1, h2, h3⟩ := h
  exact ⟨V, h1.trans e, h2, h3⟩
/-- an expression whose lists are new -/
def WEf (κ : Kl) (C : Pl.Ctx) (E : ER) (Γ : Pl.Env) (e : Expr) (P : U → Prop) : Prop := ∀ X F W, C.Is X → Takes X W → PE X e fun σ H Q => ∃ B, Sat C.K F B [] Γ [] σ H ∧
  (∀ u v B' H', P u → Sat C.K F B' [] Γ [] σ H' → Ex B B' → Fre C.K κ B B' u v → Q v H') ∧ ErOk C.K F W B σ Γ E
/-- .. as the text tells it -/
def frzM (us : List U) (m : M U) : M U := if frzUs us then m else .stuck
theorem sat_nilα {K : PySem.W.Frag} {F : Fm} {B : Hp} {α : List Addr} {Γ : Pl.Env} {σ : L2.St} {H : Hp} (S : Sat K F B α Γ [] σ H) : α = [] := List.length_eq_zero_iff.mp S.al
section
variable {κ : Kl} {C : Pl.Ctx} {E : ER} {Γ : Pl.Env} {pos p : Pos}
theorem we_callF [Cool C] {k n : Nat} {x : Str} {e : Expr} {es : List Expr} {P : U → Prop} {f : List U → M U} (G : C.fn k x n (spV κ n f)) (hk : k ≤ C.k) (hj : GlAt C x)
    (h : WA C E Γ [] (e :: es) fun ds Λ1 => Λ1 = [] ∧ ∃ us, ds = ems κ us ∧ us.length = n ∧ frzUs us = true ∧ wp (f us) P no)
    (he : plainE e = true := by rfl) (hes : es.all plainE = true := by rfl) (hdb : (x == ("__debug__" : Str)) = false := by decide) : WEf κ C E Γ (.Call (.Name x p) (e :: es) [] pos) P := fun X F W is tk => by
  obtain ⟨f', fd, ps, h1, h2, h3, h4, h5⟩ := G.ex
  have e1 := is.prog; have e2 := is.w; have e3 := is.K; have e4 := is.mg; have e5 := is.base
  refine pe_imp (pe_callSDG (E := fun σ c dx H' => W c dx σ H') (dvs := []) (ds := []) (by rw [e1, e2, e3, e4, e5]; exact h1) (is.room.mono hk) (is.gl hj) (by rw [e4]; exact h2) (by rw [e3]; exact h3) (by rw [e3]; exact h4) .nil
    (fun σ => by rw [← e1, ← e2]; exact passAt tk σ) pa_U hdb (star_plain he) (back_plain hes)) fun σ H Q ⟨B, T, q, er⟩ => ?_
  refine WA.use h is tk T er fun ds Λ1 vs B1 α1 H1 p1 T1 x1 f1 r1 => ?_
  obtain ⟨rfl, us, rfl, hl, hz, s1⟩ := p1
  have ea := sat_nilα T1
  subst ea
  have hd : (ems κ us).length = n := by rw [ems_len, hl]
  refine ⟨⟨H1, nolst B1, []⟩, ems κ us, [], by rw [List.append_nil, r1.length, hd], rfl, sat_nol T1, by rw [List.append_nil]; exact reps_nolst us vs hz r1, rfl, us, rfl, hl, wp_mono s1 (fun z hz v H' V α' T' ra => ?_) fun c es h => h.elim⟩
  have e := T'.nil_al
  subst e
  have ra : Rep C.K V [] (em κ z) v := ra
  exact q z v (joinV B1 V) H' hz (sat_join T1 T') (x1.trans joinV_l) ⟨V, joinV_r T1 T', fun a xs hV => by
    rcases nol_new T1 T' hV with ⟨_, z⟩ | ⟨z, _⟩
    · exact absurd rfl (z xs)
    · exact x1.back z, ra⟩
theorem finFz {α : Type} {n : Nat} {Q : α → Prop} {Eh : Str → List U → Prop} {f : List U → M U} {ds : List D} {k : U → M α} {P : U → Prop} (us : List U) (hd : ds = ems κ us) (hn : us.length = n) (h : wp ((frzM us (f us)).calm.bind k) Q Eh) (i : ∀ z, wp (k z) Q Eh → P z) :
    ([] : Cells) = [] ∧ ∃ us, ds = ems κ us ∧ us.length = n ∧ frzUs us = true ∧ wp (f us) P no := by
  have h := wp_calm (wp_bind h)
  unfold frzM at h
  by_cases z : frzUs us = true
  · rw [if_pos z] at h
    exact ⟨rfl, us, hd, hn, z, wp_mono h i fun _ _ h => h⟩
  · rw [if_neg z] at h; exact h.elim
end
/-! ### a name that bears what a def told, the lists new -/
/-- slot i bears u by v; all else was so ahead of it, by the view B0 -/
structure FreSt (K : PySem.W.Frag) (κ : Kl) (F : Fm) (B0 B : Hp) (Γ0 : Pl.Env) (i : Nat) (u : U) (v : V) (σ : L2.St) (H : Hp) : Prop where
  S : Sat K F B [] (Γ0.set i (some (em κ u))) [] σ H
  b0 : Ex F.B0 B0
  e : Ex B0 B
  sl : ∀ (j : Nat) (d : D), Γ0[j]? = some (some d) → j ≠ i → ∃ w, σ[j]? = some (some w) ∧ Rep K B0 [] d w
  fr : Fre K κ B0 B u v
  sv : σ[i]? = some (some v)
def WSsF (κ : Kl) (C : Pl.Ctx) (Γ0 : Pl.Env) (i : Nat) (u : U) (s : List Stmt) (R : Rs) : Prop := ∀ X F W, C.Is X → F.α0.length ≤ C.m → Takes X W → PSs X s fun D σ H => ∃ B0 B v, FreSt C.K κ F B0 B Γ0 i u v σ H ∧ EndsOk C.K F W B0 R D
section
variable {κ : Kl} {C : Pl.Ctx} {Γ : Pl.Env} {R : Rs} {pos pos' : Pos} {rest : List Stmt}
theorem wss_setF {i : Nat} {x : Str} {e : Expr} (hi : C.N[i]? = some x) (hl : C.ls[i]? = some true) (hΓ : i < Γ.length) (h : WEf κ C R.er Γ e fun u => WSsF κ C Γ i u rest R) (hc : noComp e = true := by rfl) : WSs C Γ [] (.Assign [.Name x pos'] e pos :: rest) R := fun X F W is hm tk => by
  refine pss_imp (pss_cons (ps_set is.nd (is.ni hi) (is.loc hi hl) (h X F W is tk) (noSwap hc) (is.fn i x hi hl)) pss_U) fun D σ H ⟨B, α, S, q⟩ => ?_
  have ea := sat_nilα S
  subst ea
  refine ⟨B, S, fun u v B' H' p S' e fr => ?_, q.er.at⟩
  have hr : Rep C.K B' [] (em κ u) v := by
    obtain ⟨V, h1, _, h3⟩ := fr
    exact h3.mono h1 (List.prefix_refl _)
  refine ⟨_, p X F W is hm tk, B, B', v, ⟨S'.set hr, S.bb, e, fun j d hj ne => ?_, fr, ?_⟩, q⟩
  · obtain ⟨w, h1, h2⟩ := S.sl j d hj
    exact ⟨w, by rw [List.getElem?_set_ne (fun z => ne z.symm)]; exact h1, h2⟩
  · exact List.getElem?_set_self (by rw [← S.ln]; exact hΓ)
theorem wssF_if {i : Nat} {u : U} {c : Expr} {a : List Stmt} (h : WT C R.er (Γ.set i (some (em κ u))) [] c fun k Λ1 => Λ1 = [] ∧ if k = true then WSs C (Γ.set i (some (em κ u))) [] a { R with nx := fun _ _ => False } else WSsF κ C Γ i u rest R) : WSsF κ C Γ i u (.If c a [] pos :: rest) R := fun X F W is hm tk => by
  refine pss_imp (pss_cons (ps_if pt_U pss_U pss_nil) pss_U) fun D σ H ⟨B0, B, v, S, q⟩ => ?_
  refine WT.use h is tk S.S (q.er.mono S.e).at fun k Λ1 B1 α1 H1 p1 S1 e1 f1 => ?_
  obtain ⟨rfl, p1⟩ := p1
  have ea := sat_nilα S1
  subst ea
  have q1 := q.mono (S.e.trans e1)
  cases k with
  | true =>
    rw [if_pos rfl] at p1 ⊢
    exact WSs.use p1 is hm tk S1 ⟨fun _ _ _ _ _ _ z => z.elim, q1.rt, q1.bk, q1.ct, q1.er⟩
  | false =>
    rw [if_neg (by simp)] at p1 ⊢
    exact ⟨_, p1 X F W is hm tk, B0, B1, v, ⟨S1, S.b0, S.e.trans e1, S.sl, S.fr.mono e1, S.sv⟩, q⟩
end
end Sh

/-! Sh55: the lists of what a def told are changed; then it is forgotten. -/
namespace Sh
open PySem L2 Pl PyProof.Rows
/-- what V sees of lists may have changed (but at kp), all else stands; of each list at most M items -/
structure Trs (K : PySem.W.Frag) (F : Fm) (B0 V : Hp) (N0 : Nat) (kp : Addr → Prop) (M : Nat) (Γ : Pl.Env) (σ : L2.St) (H : Hp) (B : Hp) : Prop where
  S : Sat K F B [] Γ [] σ H
  e : Ex B0 B
  ev : Ex (nolst V) B
  rg : ∀ a xs, V a = some (.lst xs) → xs.length ≤ N0 → B a = none ∧ F.H0 a = none ∧ ∃ ys, H a = some (.lst ys) ∧ ys.length ≤ M ∧ (kp a → ys = xs)
section
variable {K : PySem.W.Frag} {F : Fm} {B0 V B H : Hp} {N0 M M' : Nat} {kp kp' : Addr → Prop} {Γ : Pl.Env} {σ : L2.St}
theorem Trs.sqT {V : Hp} {a : Addr} {ws : List L2.V} (T : Trs K F B0 V N0 kp M Γ σ H B) (h : SqT K V a ws) : SqT K H a ws := T.S.bh.sqT (T.ev.sqT (nolst_sqT h))
theorem Trs.weak (T : Trs K F B0 V N0 kp M Γ σ H B) (h : M ≤ M') (k : ∀ a, kp' a → kp a) : Trs K F B0 V N0 kp' M' Γ σ H B :=
  ⟨T.S, T.e, T.ev, fun a xs h1 h2 => by
    obtain ⟨g1, g2, ys, g3, g4, g5⟩ := T.rg a xs h1 h2
    exact ⟨g1, g2, ys, g3, Nat.le_trans g4 h, fun z => g5 (k a z)⟩⟩
theorem Trs.mut {V : Hp} {a : Addr} {xs ys : List L2.V} (T : Trs K F B0 V N0 kp M Γ σ H B) (ha : V a = some (.lst xs)) (hl : xs.length ≤ N0) (hk : ¬ kp a) (hy : ys.length ≤ M') (hM : M ≤ M') : Trs K F B0 V N0 kp M' Γ σ (upd H a (.lst ys)) B := by
  obtain ⟨g1, g2, zs, g3, _, _⟩ := T.rg a xs ha hl
  refine ⟨T.S.poke g1 g2 (by simp) (by rw [g3]; trivial), T.e, T.ev, fun b us h1 h2 => ?_⟩
  by_cases e : b = a
  · subst e
    exact ⟨g1, g2, ys, upd_same, hy, fun z => absurd z hk⟩
  · obtain ⟨k1, k2, vs, k3, k4, k5⟩ := T.rg b us h1 h2
    exact ⟨k1, k2, vs, by rw [upd_ne e]; exact k3, Nat.le_trans k4 hM, k5⟩
theorem Trs.store {j : Nat} {v : L2.V} (T : Trs K F B0 V N0 kp M Γ σ H B) (hj : Γ[j]? = some none) : Trs K F B0 V N0 kp M Γ (σ.set j (some v)) H B :=
  ⟨T.S.env (by rw [List.length_set]; exact T.S.ln) fun i d h => by
    obtain ⟨w, h1, h2⟩ := T.S.sl i d h
    refine ⟨w, ?_, h2⟩
    rw [List.getElem?_set_ne (fun e => by subst e; rw [hj] at h; cases h)]
    exact h1, T.e, T.ev, T.rg⟩
end
section
variable {C : Pl.Ctx} {X : Cx} {W : WX} {F : Fm} {B0 V B H : Hp} {N0 M : Nat} {kp : Addr → Prop} {Γ : Pl.Env} {σ : L2.St}
/-- an expression reckoned meanwhile -/
theorem Trs.eval {e : Expr} {Q : VK} (T : Trs C.K F B0 V N0 kp M Γ σ H B) (is : C.Is X) (tk : Takes X W) (h : Pl.WE C ER.none Γ [] e fun _ Λ' => Λ' = []) (q : ∀ v H' B', Trs C.K F B0 V N0 kp M Γ σ H' B' → Q v H') : UE X e σ H Q := by
  refine WE.use h is tk T.S.rebase (fun _ _ _ _ _ _ _ z => z.elim) fun d Λ' v B' α' H' p S' e' f' r' => ?_
  subst p
  have ea := sat_nilα S'
  subst ea
  refine q v H' B' ⟨T.S.unbase S', T.e.trans e', T.ev.trans e', fun a xs h1 h2 => ?_⟩
  obtain ⟨g1, g2, ys, g3, g4, g5⟩ := T.rg a xs h1 h2
  refine ⟨?_, g2, ys, S'.kp a _ g3 (by simp) (fun _ z => nomatch z), g4, g5⟩
  cases z : B' a with
  | none => rfl
  | some o =>
    rcases S'.fr a o z with w | w
    · have w : B a = some o := w
      rw [g1] at w; cases w
    · have w : H a = none := w
      rw [g3] at w; cases w
/-- x[m], x bears a tuple -/
theorem ue_ixT {i : Nat} {x : Str} {m : Int} {k : Nat} {p1 p2 p3 : Pos} {t : Addr} {ws : List L2.V} {w : L2.V} {Q : VK} (is : C.Is X) (hi : C.N[i]? = some x) (hv : C.vs[i]? = some true) (hs : σ[i]? = some (some (.ref t))) (ht : SqT C.K H t ws) (hw : L2.atI ws m = some w) (q : Q w H)
    (hd : (x == ("__debug__" : Str)) = false := by decide) (hcd : (x == ("__classdict__" : Str)) = false := by decide) : UE X (.Subscript (.Name x p1) (.Constant (.int m) k p2) p3) σ H Q := by
  refine ⟨_, pe_ix ix_seq (pe_var (is.ni hi) (is.vis hi hv) hd hcd) pe_int (by intro _ _; rfl), ?_⟩
  refine ⟨.ref t, hs, ?_⟩
  exact .inr (.inl ⟨t, ws, m, w, rfl, rfl, by rw [is.K]; exact ht, hw, q⟩)
theorem ue_var {i : Nat} {x : Str} {p1 : Pos} {w : L2.V} {Q : VK} (is : C.Is X) (hi : C.N[i]? = some x) (hv : C.vs[i]? = some true) (hs : σ[i]? = some (some w)) (q : Q w H)
    (hd : (x == ("__debug__" : Str)) = false := by decide) (hcd : (x == ("__classdict__" : Str)) = false := by decide) : UE X (.Name x p1) σ H Q :=
  ⟨_, pe_var (is.ni hi) (is.vis hi hv) hd hcd, w, hs, q⟩
theorem us_append {D : Ends} {o e : Expr} {apos cpos pos : Pos} {a : Addr} {xs : List L2.V} (is : C.Is X) (tk : Takes X W) (T : Trs C.K F B0 V N0 kp M Γ σ H B) (ho : ∀ Q : VK, Q (.ref a) H → UE X o σ H Q) (ha : V a = some (.lst xs)) (hl : xs.length ≤ N0) (hk : ¬ kp a) (hM : M < sizeLine)
    (he : Pl.WE C ER.none Γ [] e fun _ Λ' => Λ' = []) (q : ∀ H' B', Trs C.K F B0 V N0 kp (M + 1) Γ σ H' B' → D.nx σ H') (hpo : plainO o = true) (hpe : plainE e = true) (hln : (apos.endLine == cpos.line) = true) :
    US X (.Expr (.Call (.Attribute o "append" apos) [e] [] cpos) pos) D σ H := by
  refine ⟨_, ps_expr (pe_bm PySem.F.plainAttrs_list PySem.F.slot_list_append PySem.F.type_list_append mt_append (pe_U (e := o)) (pa_cons (pe_U (e := e)) pa_nil (star_plain hpe)) (base_plain hpo) (few1 hpe) hln (star_plain hpe) rfl) (noSwap rfl), ?_⟩
  refine ho _ ?_
  obtain ⟨_, _, zs, g3, _, _⟩ := T.rg a xs ha hl
  refine ⟨.inl ⟨rfl, _, by exact SqL.of g3⟩, ?_⟩
  refine T.eval is tk he fun v H' B' T' => ?_
  obtain ⟨_, _, ys, k3, k4, _⟩ := T'.rg a xs ha hl
  refine ⟨a, ys, v, rfl, rfl, k3, Nat.lt_of_le_of_lt k4 hM, ?_⟩
  exact q _ B' (T'.mut ha hl hk (by rw [List.length_append]; simpa using k4) (Nat.le_succ M))
/-- for y in it, it a list that stays: each turn makes a list longer by two at most -/
theorem us_for [Cool C] {D : Ends} {i j : Nat} {y : Str} {it : Expr} {body : List Stmt} {p pos : Pos} {a : Addr} {xs : List L2.V} {v : L2.V} (is : C.Is X) (hy : C.N[j]? = some y) (hl : C.ls[j]? = some true) (hij : i ≠ j) (T : Trs C.K F B0 V N0 kp M Γ σ H B) (ho : ∀ Q : VK, Q (.ref a) H → UE X it σ H Q)
    (ha : V a = some (.lst xs)) (hlen : xs.length ≤ N0) (hk : kp a) (hj : Γ[j]? = some none) (hv : σ[i]? = some (some v))
    (step : ∀ n x M' σ H B, xs[n]? = some x → M' ≤ M + 2 * n → Trs C.K F B0 V N0 kp M' Γ σ H B → σ[j]? = some (some x) → ∀ D, (∀ H' B', Trs C.K F B0 V N0 kp (M' + 2) Γ σ H' B' → D.nx σ H') → USs X body D σ H)
    (fin : ∀ σ H B, Trs C.K F B0 V N0 kp (M + 2 * xs.length) Γ σ H B → σ[i]? = some (some v) → D.nx σ H) (hs : ∀ (env : PySem.Env) x, foldedSetIterable it env x = pure x) : US X (.For (.Name y p) it body [] pos) D σ H := by
  refine ⟨_, ps_for is.po is.calm (pi_list (pe_U (e := it))) (pg_name is.nd (is.ni hy) (is.loc hy hl) (is.fn j y hy hl)) pss_U (hs X.env), ?_⟩
  refine ho _ ?_
  have rd : ∀ {M : Nat} {σ : L2.St} {H B : Hp}, Trs C.K F B0 V N0 kp M Γ σ H B → SqL X.K H a xs := fun {M σ H B} T => by
    obtain ⟨_, _, zs, g3, _, g5⟩ := T.rg a xs ha hlen
    rw [g5 hk] at g3
    exact SqL.of g3
  refine ⟨a, rfl, ⟨xs, rd T⟩, ?_⟩
  refine for_list (fun n σ H => ∃ B, Trs C.K F B0 V N0 kp (M + 2 * n) Γ σ H B ∧ σ[i]? = some (some v)) ⟨B, T, hv⟩ (fun n σ H _ ⟨B, T, _⟩ => rd T) (fun n x σ H hx ⟨B, T, hv⟩ => ?_) fun σ H ⟨B, T, hv⟩ => fin σ H B T hv
  have lj : j < σ.length := by rw [← T.S.ln]; exact (List.getElem?_eq_some_iff.mp hj).1
  refine step n x _ _ H B hx (Nat.le_refl _) (T.store hj) (List.getElem?_set_self lj) _ fun H' B' T' => ?_
  exact ⟨B', T', by rw [List.getElem?_set_ne hij.symm]; exact hv⟩
end
/-- tuples are what they are -/
def InjT (K : PySem.W.Frag) (H : Hp) : Prop := ∀ a xs ys, SqT K H a xs → SqT K H a ys → xs = ys
theorem ps_inj {X : Cx} {s : Stmt} {t : TS} (h : PS X s t) : PS X s (fun D σ H => InjT X.K H → t D σ H) := ⟨fun pins s σ H D I q => h.run pins s σ H D I (q fun _ _ _ => I.tuple_inj)⟩
/-- the things begin to change -/
theorem FreSt.trs {K : PySem.W.Frag} {κ : Kl} {F : Fm} {B0 B : Hp} {Γ0 : Pl.Env} {i j : Nat} {u : U} {v : L2.V} {σ : L2.St} {H : Hp} (S : FreSt K κ F B0 B Γ0 i u v σ H) (N0 : Nat) (kp : Addr → Prop) : ∃ V B3, Rep K V [] (em κ u) v ∧ Trs K F B0 V N0 kp N0 ((Γ0.set i none).set j none) σ H B3 := by
  obtain ⟨V, h1, h2, h3⟩ := S.fr
  refine ⟨V, fun a => match V a with | some (.lst _) => none | _ => B a, h3, ?_⟩
  have sub : Ex (fun a => match V a with | some (.lst _) => none | _ => B a) B := fun a o h => by
    dsimp only at h
    split at h
    · cases h
    · exact h
  have e0 : Ex B0 (fun a => match V a with | some (.lst _) => none | _ => B a) := fun a o h => by
    dsimp only
    split
    · rename_i xs hx; rw [h2 a xs hx] at h; cases h
    · exact S.e a o h
  refine ⟨{ S.S with bb := S.b0.trans e0, bh := sub.trans S.S.bh, fr := fun a o h => S.S.fr a o (sub a o h), ce := fun n c h => by simp at h, sl := fun k d h => ?_, ln := ?_, tb := ⟨S.S.tb.tabs, S.S.tb.h0, fun a ps h => S.S.tb.nb a ps (sub a _ h), fun a h => by simp at h⟩ }, e0, fun a o h => ?_, fun a xs h g => ⟨?_, ?_, xs, S.S.bh a _ (h1 a _ h), g, fun _ => rfl⟩⟩
  · have hk : Γ0[k]? = some (some d) ∧ k ≠ i := by
      by_cases e1 : j = k
      · subst e1
        by_cases hl : j < (Γ0.set i none).length
        · rw [List.getElem?_set_self hl] at h; cases h
        · rw [List.getElem?_eq_none (by rw [List.length_set]; omega)] at h; cases h
      · rw [List.getElem?_set_ne e1] at h
        by_cases e2 : i = k
        · subst e2
          by_cases hl : i < Γ0.length
          · rw [List.getElem?_set_self hl] at h; cases h
          · rw [List.getElem?_eq_none (by rw [List.length_set]; omega)] at h; cases h
        · rw [List.getElem?_set_ne e2] at h
          exact ⟨h, fun e => e2 e.symm⟩
    obtain ⟨w, g1, g2⟩ := S.sl k d hk.1 hk.2
    exact ⟨w, g1, g2.mono e0 (List.prefix_refl _)⟩
  · have := S.S.ln
    simp only [List.length_set] at this ⊢
    exact this
  · obtain ⟨g1, g2⟩ := nolst_some h
    show (match V a with | some (.lst _) => none | _ => B a) = some o
    split
    · rename_i xs hx; rw [hx] at g1; cases g1; exact absurd rfl (g2 xs)
    · exact h1 a o g1
  · show (match V a with | some (.lst _) => none | _ => B a) = none
    rw [h]
  · rcases S.S.fr a _ (h1 a _ h) with z | z
    · have := S.b0 a _ z
      rw [h2 a xs h] at this; cases this
    · exact z
end Sh

/-! Sh56: k41: the told steps are changed, and what was told is cleared; k32: the told claims are changed. -/
namespace Sh
open PySem L2 Pl PyProof.Rows
section
variable {κ : Kl} {K : PySem.W.Frag} {V : Hp}
theorem rep_at {us : List U} {vs : List L2.V} {n : Nat} {x : L2.V} (r : Reps K V [] (ems κ us) vs) (h : vs[n]? = some x) : ∃ u, us[n]? = some u ∧ Rep K V [] (em κ u) x := by
  obtain ⟨d, h1, h2⟩ := r.getV h
  rw [ems_map, List.getElem?_map] at h1
  cases e : us[n]? with
  | none => rw [e] at h1; cases h1
  | some u => rw [e] at h1; cases h1; exact ⟨u, rfl, h2⟩
theorem rep_tup {us : List U} {x : L2.V} (r : Rep K V [] (em κ (.tup us)) x) : ∃ t ws, x = .ref t ∧ SqT K V t ws ∧ Reps K V [] (ems κ us) ws := by
  unfold em Rep at r
  obtain ⟨t, ws, h1, h2, h3⟩ := r
  exact ⟨t, ws, h1, h2.1, h3⟩
theorem rep_lst {us : List U} {x : L2.V} (r : Rep K V [] (em κ (.lst us)) x) : ∃ a xs, x = .ref a ∧ V a = some (.lst xs) ∧ Reps K V [] (ems κ us) xs := by
  unfold em Rep at r
  exact r
theorem reps_cons {u : U} {us : List U} {vs : List L2.V} (r : Reps K V [] (ems κ (u :: us)) vs) : ∃ v ws, vs = v :: ws ∧ Rep K V [] (em κ u) v ∧ Reps K V [] (ems κ us) ws := by
  unfold ems Reps at r
  exact r
theorem reps_nil {vs : List L2.V} (r : Reps K V [] (ems κ []) vs) : vs = [] := by
  unfold ems Reps at r
  exact r
theorem reps_len {us : List U} {vs : List L2.V} (r : Reps K V [] (ems κ us) vs) : vs.length = us.length := by rw [r.length, ems_len]
/-- sayings or numbers; tuples that begin with a list -/
def Hd1 (us : List U) : Prop := ∀ x, us[0]? = some x → (∃ w ys, x = .tup (.str w :: ys)) ∨ ∃ i, x = .int i
def HdT (us : List U) : Prop := ∀ x, us[0]? = some x → ∃ l ys, x = .tup (.lst l :: ys)
theorem lst_apart {a b : Addr} {us ws : List U} {xs ys : List L2.V} (inj : InjT K V) (ha : V a = some (.lst xs)) (ra : Reps K V [] (ems κ us) xs) (h1 : Hd1 us) (hb : V b = some (.lst ys)) (rb : Reps K V [] (ems κ ws) ys) (hT : HdT ws) (ne : ws ≠ []) : a ≠ b := by
  intro e
  subst e
  rw [ha] at hb
  cases hb
  cases ws with
  | nil => exact ne rfl
  | cons w ws =>
    obtain ⟨l, zs, rfl⟩ := hT w rfl
    obtain ⟨v, vs, rfl, rv, _⟩ := reps_cons rb
    obtain ⟨u, hu, ru⟩ := rep_at ra (n := 0) rfl
    obtain ⟨t, ts, rfl, q1, q2⟩ := rep_tup rv
    obtain ⟨x1, _, rfl, q3, _⟩ := reps_cons q2
    obtain ⟨b, _, rfl, _, _⟩ := rep_lst q3
    rcases h1 u hu with ⟨w, ys, rfl⟩ | ⟨i, rfl⟩
    · obtain ⟨t', ts', e, k1, k2⟩ := rep_tup ru
      cases e
      obtain ⟨x2, _, rfl, k3, _⟩ := reps_cons k2
      have := inj _ _ _ q1 k1
      unfold em Rep at k3
      subst k3
      cases this
    · unfold em Rep at ru
      cases ru
end
/-- a claim whose list may be changed -/
def ClOk (x : U) : Prop := ∃ l r, x = .tup [.lst l, r] ∧ Hd1 l ∧ l.length ≤ 2000000
def T32 (b : Bool) (u : U) : Prop := b = true → ∃ xs, u = .lst xs ∧ xs.length ≤ 2000000 ∧ ∀ x ∈ xs, ClOk x
open Classical in
noncomputable def tr32 (b : Bool) (u : U) : M Unit := if T32 b u then .ok () else .stuck
theorem finT32 {α : Type} {Q : α → Prop} {Eh : Str → List U → Prop} {b : Bool} {u : U} {k : Unit → M α} {P : Prop} (h : wp ((tr32 b u).bind k) Q Eh) (i : wp (k ()) Q Eh → P) : ([] : Cells) = [] ∧ T32 b u ∧ P := by
  unfold tr32 at h
  by_cases z : T32 b u
  · rw [if_pos z] at h
    exact ⟨rfl, z, i h⟩
  · rw [if_neg z] at h; exact h.elim
theorem line3 : 2000000 + 2 * 2000000 + 2 < sizeLine := by rw [sizeLine_eq]; decide
section
variable {κ : Kl} {C : Pl.Ctx} {Γ : Pl.Env} {R : Rs} {rest : List Stmt} {c e1 e2 e3 : Expr} {i j : Nat} {u : U} {x y : Str} {k1 k2 k3 k4 k5 k6 k7 : Nat}
variable {p1 p2 p3 p4 p5 p6 p7 q1 q2 q3 q4 q5 q6 q7 q8 r1 r2 r3 r4 r5 r6 s1 s2 s3 s4 s5 s6 t1 t2 t3 t4 t5 t6 : Pos}
/-- if c: for y in x: y[0].append(e1)  x.append(e2) -/
theorem wssF_t32 [Cool C] (hi : C.N[i]? = some x) (hvi : C.vs[i]? = some true) (hy : C.N[j]? = some y) (hvj : C.vs[j]? = some true) (hlj : C.ls[j]? = some true) (hij : i ≠ j) (hj : j < Γ.length)
    (he1 : Pl.WE C ER.none ((Γ.set i none).set j none) [] e1 fun _ Λ' => Λ' = []) (he2 : Pl.WE C ER.none ((Γ.set i none).set j none) [] e2 fun _ Λ' => Λ' = [])
    (hc : WT C R.er (Γ.set i (some (em κ u))) [] c fun k Λ1 => Λ1 = [] ∧ T32 k u ∧ WSs C ((Γ.set i none).set j none) [] rest R)
    (hp1 : plainE e1 = true := by rfl) (hp2 : plainE e2 = true := by rfl) (hl1 : (q3.endLine == q4.line) = true := by rfl) (hl2 : (t3.endLine == t4.line) = true := by rfl)
    (hx1 : (x == ("__debug__" : Str)) = false := by decide) (hx2 : (x == ("__classdict__" : Str)) = false := by decide) (hy1 : (y == ("__debug__" : Str)) = false := by decide) (hy2 : (y == ("__classdict__" : Str)) = false := by decide) :
    WSsF κ C Γ i u (.If c [.For (.Name y p1) (.Name x p2) [.Expr (.Call (.Attribute (.Subscript (.Name y q1) (.Constant (.int 0) k2 q2) q8) "append" q3) [e1] [] q4) q5] [] p5,
      .Expr (.Call (.Attribute (.Name x t1) "append" t3) [e2] [] t4) t5] [] p6 :: rest) R := fun X F W is hm tk => by
  refine pss_imp (pss_cons (ps_if pt_U (pss_cons (ps_inj ps_U) (pss_one ps_U)) pss_nil) pss_U) fun D σ H ⟨B0, B, v, S, q⟩ => ?_
  refine WT.use hc is tk S.S (q.er.mono S.e).at fun k Λ1 B1 α1 H1 pp S1 e1' f1 => ?_
  obtain ⟨rfl, hT, hrest⟩ := pp
  have ea := sat_nilα S1
  subst ea
  have S2 : FreSt C.K κ F B0 B1 Γ i _ v σ H1 := ⟨S1, S.b0, S.e.trans e1', S.sl, S.fr.mono e1', S.sv⟩
  obtain ⟨V, B3, rv, T0⟩ := S2.trs (j := j) 2000000 (fun _ => True)
  have gj : ((Γ.set i none).set j none)[j]? = some (none : Option Pl.D) := List.getElem?_set_self (by rw [List.length_set]; exact hj)
  cases k with
  | false =>
    rw [if_neg (by simp)]
    exact WSs.use hrest is hm tk T0.S (q.mono T0.e)
  | true =>
    rw [if_pos rfl]
    intro inj0
    obtain ⟨xs, rfl, hlen, hst⟩ := hT rfl
    obtain ⟨a1, vs, rfl, ha1, ra1⟩ := rep_lst rv
    have hvl : vs.length ≤ 2000000 := by rw [reps_len ra1]; exact hlen
    have inj : InjT C.K V := fun a xs ys h1 h2 => inj0 a xs ys (by rw [is.K]; exact T0.sqT h1) (by rw [is.K]; exact T0.sqT h2)
    refine us_for (j := j) (i := i) is hy hlj hij (T0.weak (kp' := fun a => a = a1) (Nat.le_refl _) fun _ _ => trivial) (fun Q q => ue_var is hi hvi S.sv q hx1 hx2) ha1 hvl rfl gj S.sv (fun n z M' σ' H' B' hz hM T hσ D' qq => ?_) (fun σ' H' B' T hv => ?_) (fun _ _ => rfl)
    · obtain ⟨st, hn, rst⟩ := rep_at ra1 hz
      have nl : n < vs.length := (List.getElem?_eq_some_iff.mp hz).1
      have hM2 : M' < sizeLine := by have := line3; omega
      have hdT : HdT xs := fun z hz => by
        obtain ⟨l, r, rfl, _⟩ := hst z (List.mem_of_getElem? hz)
        exact ⟨_, _, rfl⟩
      have nex : xs ≠ [] := fun e => by subst e; simp at hn
      obtain ⟨l, r, rfl, g1, g4⟩ := hst st (List.mem_of_getElem? hn)
      obtain ⟨t, ws, rfl, ht, rws⟩ := rep_tup rst
      obtain ⟨b0, ws, rfl, rb0, rws⟩ := reps_cons rws
      obtain ⟨b1, ws, rfl, rb1, rws⟩ := reps_cons rws
      have := reps_nil rws
      subst this
      obtain ⟨a, xa, rfl, hxa, ra⟩ := rep_lst rb0
      have na : a ≠ a1 := lst_apart inj hxa ra g1 ha1 ra1 hdT nex
      refine ⟨_, pss_one ps_U, ?_⟩
      refine us_append is tk T (fun Q q => ue_ixT is hy hvj hσ (T.sqT ht) rfl q hy1 hy2) hxa (by rw [reps_len ra]; exact g4) na hM2 he1 (fun H2 B2 T2 => ?_) rfl hp1 hl1
      exact qq H2 B2 (T2.weak (Nat.le_succ _) fun _ z => z)
    · refine us_append is tk (T.weak (kp' := fun _ => False) (Nat.le_refl _) fun _ z => z.elim) (fun Q q => ue_var is hi hvi hv q hx1 hx2) ha1 hvl (fun z => z) (by have := line3; omega) he2 (fun H2 B2 T2 => ?_) rfl hp2 hl2
      exact WSs.use hrest is hm tk T2.S (q.mono T2.e)
end
end Sh

namespace Law
open PySem L2 Pl Sh
local macro_rules | `(tactic| walk_at "ms") => `(tactic| simp only [Ok_bind, Ok_calm, Ok_ok, Ok_ite, Ok_itd, M.bind_ok, M.calm_ok, eqM_int, eqM_str, eqM_bl, ltM_int, leM_int, gtM_int, geM_int, addM_int, subM_int, negM_int, lenM_lst, lenM_fzl, lenM_tup, modM_int, fdivM_int, mulM_l, mulM_r, Int.reduceLT, Int.reduceNeg, nB_ok, vB_ok, boolM_bl, endM_int, listM_lst, listM_tup, iterL_lst, iterL_fzl, iterT_tup, isi_tup, isi_lst, isi_bl, isi_str, isi_int, isi_st, isi_ts, isi_ib, ix_t0, ix_t1, ix_t2, ix_l0, ix_l1, ix_l2, pow10_6, pow10_9, pow10_12, pow10_30, decide_eq_true_eq, decide_eq_false_iff_not, Bool.not_true, Bool.not_false, Bool.not_eq_true, if_true, if_false, reduceIte, Bool.false_eq_true, true_implies, false_implies, implies_true, and_self, and_true, true_and, reduceCtorEq])
local macro_rules | `(tactic| walk_at "nlc") => `(tactic| simp only [cellsAt, List.map, List.take_succ_cons, List.take_zero, List.take_nil, List.all_cons, List.all_nil, nlC, nls_em, nls_nil, nls_cons, nl_em, Bool.and_self, Bool.and_true, List.getElem?_cons_zero, List.getElem?_cons_succ, Option.getD_some, Option.getD_none])
noncomputable def sh__law_cell_at : Nat → List U → M U
  | kk + 1, [v_script, v_k] =>
    (lenM v_script).bind fun z1 =>
    (eqM z1 (.int 0)).bind fun b2 =>
    if b2 then
      (mulM v_k v_k).bind fun z3 =>
      (mulM z3 (.int 7919)).bind fun z4 =>
      (modM z4 (.int 1000003)).bind fun z5 =>
      .ok z5
    else
      (lenM v_script).bind fun z6 =>
      (modM v_k z6).bind fun z7 =>
      (ixM v_script z7).bind fun z8 =>
      (modM z8 (.int 1000003)).bind fun z9 =>
      (mulM z9 (.int 48271)).bind fun z10 =>
      (fdivM z8 (.int 1000003)).bind fun z11 =>
      (modM z11 (.int 999983)).bind fun z12 =>
      (addM z10 z12).bind fun z13 =>
      (mulM v_k v_k).bind fun z14 =>
      (mulM z14 (.int 7919)).bind fun z15 =>
      (addM z13 z15).bind fun z16 =>
      (mulM v_k (.int 104729)).bind fun z17 =>
      (addM z16 z17).bind fun z18 =>
      (modM z18 (.int 1000003)).bind fun z19 =>
      (mulM z19 (.int 69621)).bind fun z20 =>
      (modM z20 (.int 999983)).bind fun z21 =>
      .ok z21
  | _, _ => .stuck

noncomputable def sh__law_leaf : Nat → List U → M U
  | kk + 1, [v_cell] =>
    (modM v_cell (.int 6)).bind fun z1 =>
    (ixM (.lst [.tup [.str "letter", .str "p"], .tup [.str "letter", .str "q"], .tup [.str "letter", .str "p"], .tup [.str "no"], .tup [.str "letter", .str "r"], .tup [.str "letter", .str "q"]]) z1).bind fun z2 =>
    .ok z2
  | _, _ => .stuck

noncomputable def sh__law_saying : Nat → List U → M U
  | kk + 1, [v_script, v_at, v_many, v_most] =>
    (sh__law_cell_at kk [v_script, v_at]).bind fun z1 =>
    (sh__law_leaf kk [z1]).bind fun z2 =>
    (range1M v_many).bind fun it3 =>
    (forN (fun (v_shown_4, v_stack_5) x6 =>
        (addM v_at (.int 1)).bind fun z7 =>
        (addM z7 x6).bind fun z8 =>
        (sh__law_cell_at kk [v_script, z8]).bind fun z9 =>
        (modM z9 (.int 8)).bind fun z10 =>
        (
          (
            (eqM z10 (.int 0)).bind fun b11 =>
            if b11 then
              .ok true
            else
              (
                (gtM z10 (.int 4)).bind fun b12 =>
                if b12 then
                  (lenM (.lst v_stack_5)).bind fun z13 =>
                  (ltM z13 (.int 2)).bind fun b14 =>
                  .ok b14
                else
                  .ok false
              ).bind fun b15 =>
              .ok b15
          ).bind fun b16 =>
          if b16 then
            (fdivM z9 (.int 8)).bind fun z17 =>
            (sh__law_leaf kk [z17]).bind fun z18 =>
            (appM v_stack_5 z18).bind fun l19 =>
            .ok (v_shown_4, l19)
          else
            (
              (eqM z10 (.int 1)).bind fun b20 =>
              if b20 then
                (popM v_stack_5).bind fun (z21, l22) =>
                (appM l22 (.tup [.str "not", z21])).bind fun l24 =>
                .ok (v_shown_4, l24)
              else
                (
                  (
                    (ltM z10 (.int 5)).bind fun b25 =>
                    if b25 then
                      (ltM v_shown_4 v_most).bind fun b26 =>
                      .ok b26
                    else
                      .ok false
                  ).bind fun b27 =>
                  if b27 then
                    (addM v_shown_4 (.int 1)).bind fun z28 =>
                    (popM v_stack_5).bind fun (z29, l30) =>
                    (appM l30 (.tup [.str "shown", z29])).bind fun l32 =>
                    .ok (z28, l32)
                  else
                    (
                      (lenM (.lst v_stack_5)).bind fun z33 =>
                      (gtM z33 (.int 1)).bind fun b34 =>
                      if b34 then
                        (popM v_stack_5).bind fun (z35, l36) =>
                        (fdivM z9 (.int 8)).bind fun z38 =>
                        (modM z38 (.int 3)).bind fun z39 =>
                        (ixM (.lst [.str "and", .str "or", .str "if"]) z39).bind fun z40 =>
                        (popM l36).bind fun (z41, l42) =>
                        (appM l42 (.tup [z40, z41, z35])).bind fun l44 =>
                        .ok l44
                      else
                        .ok v_stack_5
                    ).bind fun v_stack_45 =>
                    .ok (v_shown_4, v_stack_45)
                ).bind fun (v_shown_46, v_stack_47) =>
                .ok (v_shown_46, v_stack_47)
            ).bind fun (v_shown_48, v_stack_49) =>
            .ok (v_shown_48, v_stack_49)
        ).bind fun (v_shown_50, v_stack_51) =>
        .ok (v_shown_50, v_stack_51)
      ) it3 (.int 0, [z2])).bind fun (v_shown_52, v_stack_53) =>
    (whN (fun v_stack_54 =>
        (lenM (.lst v_stack_54)).bind fun z55 =>
        (gtM z55 (.int 1)).bind fun b56 =>
        .ok b56
      ) (fun v_stack_57 =>
        (popM v_stack_57).bind fun (z58, l59) =>
        (lenM (.lst l59)).bind fun z61 =>
        (modM z61 (.int 3)).bind fun z62 =>
        (ixM (.lst [.str "if", .str "or", .str "and"]) z62).bind fun z63 =>
        (popM l59).bind fun (z64, l65) =>
        (appM l65 (.tup [z63, z64, z58])).bind fun l67 =>
        .ok l67
      ) 1000000 v_stack_53).bind fun v_stack_68 =>
    (ixM (.lst v_stack_68) (.int 0)).bind fun z69 =>
    .ok z69
  | _, _ => .stuck

noncomputable def sh__law_list : Nat → List U → M (List U)
  | kk + 1, [v_script, v_at, v_many, v_most] =>
    (range1M v_many).bind fun it1 =>
    (compM (fun x2 =>
        (mulM (.int 7) x2).bind fun z4 =>
        (addM v_at z4).bind fun z5 =>
        (mulM (.int 7) x2).bind fun z6 =>
        (addM v_at z6).bind fun z7 =>
        (sh__law_cell_at kk [v_script, z7]).bind fun z8 =>
        (modM z8 (.int 5)).bind fun z9 =>
        (sh__law_saying kk [v_script, z5, z9, v_most]).bind fun z10 =>
        .ok z10
      ) it1).bind fun zs3 =>
    (sh__law_cell_at kk [v_script, v_at]).bind fun z11 =>
    (fdivM z11 (.int 8)).bind fun z12 =>
    (modM z12 (.int 2)).bind fun z13 =>
    (endM z13).bind fun z14 =>
    (slM (.lst zs3) none z14).bind fun z15 =>
    (addnM (.lst zs3) z15).bind fun z16 =>
    .ok z16
  | _, _ => .stuck

noncomputable def sh__law_unlike : Nat → List U → M (List U)
  | kk + 1, [v_some] =>
    (sortedM v_some).bind fun z1 =>
    (iterL (.lst z1)).bind fun it2 =>
    (forN (fun v_told_here_3 x4 =>
        (
          (
            (eqM (.lst v_told_here_3) (.lst [])).bind fun b5 =>
            if b5 then
              .ok true
            else
              (negM (.int 1)).bind fun z6 =>
              (ixM (.lst v_told_here_3) z6).bind fun z7 =>
              ((nB eqM) z7 x4).bind fun b8 =>
              .ok b8
          ).bind fun b9 =>
          if b9 then
            (appM v_told_here_3 x4).bind fun l10 =>
            .ok l10
          else
            .ok v_told_here_3
        ).bind fun v_told_here_11 =>
        .ok v_told_here_11
      ) it2 []).bind fun v_told_here_12 =>
    .ok v_told_here_12
  | _, _ => .stuck

noncomputable def sh__law_claim : Nat → List U → M U
  | kk + 1, [v_left, v_right_here] =>
    (sh__law_unlike kk [v_left]).bind fun z1 =>
    (sh__law_unlike kk [v_right_here]).bind fun z2 =>
    .ok (.tup [.lst z1, .lst z2])
  | _, _ => .stuck

noncomputable def sh__law_apart : Nat → List U → M U
  | kk + 1, [v_left, v_right_here, v_rule, v_saying_here] =>
    (ixM v_saying_here (.int 0)).bind fun z1 =>
    (eqM z1 (.str "not")).bind fun b2 =>
    if b2 then
      (eqM v_rule (.str "left")).bind fun b3 =>
      if b3 then
        (ixM v_saying_here (.int 1)).bind fun z4 =>
        (addM v_right_here (.lst [z4])).bind fun z5 =>
        (sh__law_claim kk [v_left, z5]).bind fun z6 =>
        .ok (.lst [z6])
      else
        (ixM v_saying_here (.int 1)).bind fun z7 =>
        (addM v_left (.lst [z7])).bind fun z8 =>
        (sh__law_claim kk [z8, v_right_here]).bind fun z9 =>
        .ok (.lst [z9])
    else
      ((nB inM) z1 (.lst [.str "and", .str "or", .str "if"])).bind fun b10 =>
      if b10 then
        .ok .non
      else
        (endM (.int 1)).bind fun z11 =>
        (slM v_saying_here z11 none).bind fun z12 =>
        (un2 z12).bind fun (v_one_13, v_other_14) =>
        (
          (eqM v_rule (.str "left")).bind fun b15 =>
          if b15 then
            (eqM z1 (.str "and")).bind fun b16 =>
            .ok b16
          else
            .ok false
        ).bind fun b17 =>
        if b17 then
          (addM v_left (.lst [v_one_13, v_other_14])).bind fun z18 =>
          (sh__law_claim kk [z18, v_right_here]).bind fun z19 =>
          .ok (.lst [z19])
        else
          (
            (eqM v_rule (.str "right")).bind fun b20 =>
            if b20 then
              (eqM z1 (.str "or")).bind fun b21 =>
              .ok b21
            else
              .ok false
          ).bind fun b22 =>
          if b22 then
            (addM v_right_here (.lst [v_one_13, v_other_14])).bind fun z23 =>
            (sh__law_claim kk [v_left, z23]).bind fun z24 =>
            .ok (.lst [z24])
          else
            (
              (eqM v_rule (.str "right")).bind fun b25 =>
              if b25 then
                (eqM z1 (.str "if")).bind fun b26 =>
                .ok b26
              else
                .ok false
            ).bind fun b27 =>
            if b27 then
              (addM v_left (.lst [v_one_13])).bind fun z28 =>
              (addM v_right_here (.lst [v_other_14])).bind fun z29 =>
              (sh__law_claim kk [z28, z29]).bind fun z30 =>
              .ok (.lst [z30])
            else
              (
                (eqM v_rule (.str "left")).bind fun b31 =>
                if b31 then
                  (eqM z1 (.str "if")).bind fun b32 =>
                  .ok b32
                else
                  .ok false
              ).bind fun b33 =>
              if b33 then
                (addM v_right_here (.lst [v_one_13])).bind fun z34 =>
                (sh__law_claim kk [v_left, z34]).bind fun z35 =>
                (addM v_left (.lst [v_other_14])).bind fun z36 =>
                (sh__law_claim kk [z36, v_right_here]).bind fun z37 =>
                .ok (.lst [z35, z37])
              else
                (eqM v_rule (.str "left")).bind fun b38 =>
                if b38 then
                  (addM v_left (.lst [v_one_13])).bind fun z39 =>
                  (sh__law_claim kk [z39, v_right_here]).bind fun z40 =>
                  (addM v_left (.lst [v_other_14])).bind fun z41 =>
                  (sh__law_claim kk [z41, v_right_here]).bind fun z42 =>
                  .ok (.lst [z40, z42])
                else
                  (addM v_right_here (.lst [v_one_13])).bind fun z43 =>
                  (sh__law_claim kk [v_left, z43]).bind fun z44 =>
                  (addM v_right_here (.lst [v_other_14])).bind fun z45 =>
                  (sh__law_claim kk [v_left, z45]).bind fun z46 =>
                  .ok (.lst [z44, z46])
  | _, _ => .stuck

noncomputable def sh__law_needed : Nat → List U → M U
  | kk + 1, [v_claim_here, v_rule, v_saying_here] =>
    (un2 v_claim_here).bind fun (v_left_1, v_right_here_2) =>
    (
      (eqM v_rule (.str "same")).bind fun b3 =>
      if b3 then
        (inM v_saying_here v_left_1).bind fun b4 =>
        if b4 then
          (inM v_saying_here v_right_here_2).bind fun b5 =>
          .ok b5
        else
          .ok false
      else
        .ok false
    ).bind fun b6 =>
    if b6 then
      .ok (.lst [])
    else
      (
        (eqM v_rule (.str "never")).bind fun b7 =>
        if b7 then
          (eqM v_saying_here (.tup [.str "no"])).bind fun b8 =>
          if b8 then
            (inM v_saying_here v_left_1).bind fun b9 =>
            .ok b9
          else
            .ok false
        else
          .ok false
      ).bind fun b10 =>
      if b10 then
        .ok (.lst [])
      else
        (
          (eqM v_rule (.str "left")).bind fun b11 =>
          if b11 then
            (inM v_saying_here v_left_1).bind fun b12 =>
            .ok b12
          else
            .ok false
        ).bind fun b13 =>
        if b13 then
          (iterL v_left_1).bind fun it14 =>
          (compF (fun x15 =>
              ((nB eqM) x15 v_saying_here).bind fun b17 =>
              .ok b17
            ) (fun x15 =>
              .ok x15
            ) it14).bind fun zs16 =>
          (sh__law_apart kk [.lst zs16, v_right_here_2, v_rule, v_saying_here]).bind fun z18 =>
          .ok z18
        else
          (
            (eqM v_rule (.str "right")).bind fun b19 =>
            if b19 then
              (inM v_saying_here v_right_here_2).bind fun b20 =>
              .ok b20
            else
              .ok false
          ).bind fun b21 =>
          if b21 then
            (iterL v_right_here_2).bind fun it22 =>
            (compF (fun x23 =>
                ((nB eqM) x23 v_saying_here).bind fun b25 =>
                .ok b25
              ) (fun x23 =>
                .ok x23
              ) it22).bind fun zs24 =>
            (sh__law_apart kk [v_left_1, .lst zs24, v_rule, v_saying_here]).bind fun z26 =>
            .ok z26
          else
            (
              (eqM v_rule (.str "up")).bind fun b27 =>
              if b27 then
                (inM v_saying_here v_right_here_2).bind fun b28 =>
                if b28 then
                  (ixM v_saying_here (.int 0)).bind fun z29 =>
                  (eqM z29 (.str "shown")).bind fun b30 =>
                  .ok b30
                else
                  .ok false
              else
                .ok false
            ).bind fun b31 =>
            if b31 then
              (iterL v_left_1).bind fun it32 =>
              (compF (fun x33 =>
                  (ixM x33 (.int 0)).bind fun z35 =>
                  (eqM z35 (.str "shown")).bind fun b36 =>
                  .ok b36
                ) (fun x33 =>
                  .ok x33
                ) it32).bind fun zs34 =>
              (iterL (.lst zs34)).bind fun it37 =>
              (compM (fun x38 =>
                  (ixM x38 (.int 1)).bind fun z40 =>
                  .ok z40
                ) it37).bind fun zs39 =>
              (addM (.lst zs34) (.lst zs39)).bind fun z41 =>
              (addM z41 (.lst [v_saying_here])).bind fun z42 =>
              (ixM v_saying_here (.int 1)).bind fun z43 =>
              (sh__law_claim kk [z42, .lst [z43]]).bind fun z44 =>
              .ok (.lst [z44])
            else
              .ok .non
  | _, _ => .stuck

noncomputable def sh_each_once : Nat → List U → M (List U)
  | kk + 1, [v_some] =>
    (sortedM v_some).bind fun z1 =>
    (iterL (.lst z1)).bind fun it2 =>
    (forN (fun v_told_3 x4 =>
        (
          (
            (lenM (.lst v_told_3)).bind fun z5 =>
            (eqM z5 (.int 0)).bind fun b6 =>
            if b6 then
              .ok true
            else
              (negM (.int 1)).bind fun z7 =>
              (ixM (.lst v_told_3) z7).bind fun z8 =>
              ((nB eqM) z8 x4).bind fun b9 =>
              .ok b9
          ).bind fun b10 =>
          if b10 then
            (appM v_told_3 x4).bind fun l11 =>
            .ok l11
          else
            .ok v_told_3
        ).bind fun v_told_12 =>
        .ok v_told_12
      ) it2 []).bind fun v_told_13 =>
    .ok v_told_13
  | _, _ => .stuck

noncomputable def sh_unlike : Nat → List U → M (List U)
  | kk + 1, [v_sayings] =>
    (sh_each_once kk [v_sayings]).bind fun z1 =>
    .ok z1
  | _, _ => .stuck

noncomputable def sh_claim_of : Nat → List U → M U
  | kk + 1, [v_left, v_right] =>
    (sh_unlike kk [v_left]).bind fun z1 =>
    (sh_unlike kk [v_right]).bind fun z2 =>
    .ok (.tup [.lst z1, .lst z2])
  | _, _ => .stuck

noncomputable def sh_from_left : Nat → List U → M (List U)
  | kk + 1, [v_left, v_right, v_saying] =>
    (ixM v_saying (.int 0)).bind fun z1 =>
    (eqM z1 (.str "not")).bind fun b2 =>
    if b2 then
      (ixM v_saying (.int 1)).bind fun z3 =>
      (addM v_right (.lst [z3])).bind fun z4 =>
      (sh_claim_of kk [v_left, z4]).bind fun z5 =>
      .ok [z5]
    else
      (ixM v_saying (.int 0)).bind fun z6 =>
      (eqM z6 (.str "and")).bind fun b7 =>
      if b7 then
        (ixM v_saying (.int 1)).bind fun z8 =>
        (ixM v_saying (.int 2)).bind fun z9 =>
        (addM v_left (.lst [z8, z9])).bind fun z10 =>
        (sh_claim_of kk [z10, v_right]).bind fun z11 =>
        .ok [z11]
      else
        (ixM v_saying (.int 0)).bind fun z12 =>
        (eqM z12 (.str "or")).bind fun b13 =>
        if b13 then
          (ixM v_saying (.int 1)).bind fun z14 =>
          (addM v_left (.lst [z14])).bind fun z15 =>
          (sh_claim_of kk [z15, v_right]).bind fun z16 =>
          (ixM v_saying (.int 2)).bind fun z17 =>
          (addM v_left (.lst [z17])).bind fun z18 =>
          (sh_claim_of kk [z18, v_right]).bind fun z19 =>
          .ok [z16, z19]
        else
          (ixM v_saying (.int 0)).bind fun z20 =>
          (eqM z20 (.str "if")).bind fun b21 =>
          if b21 then
            (ixM v_saying (.int 1)).bind fun z22 =>
            (addM v_right (.lst [z22])).bind fun z23 =>
            (sh_claim_of kk [v_left, z23]).bind fun z24 =>
            (ixM v_saying (.int 2)).bind fun z25 =>
            (addM v_left (.lst [z25])).bind fun z26 =>
            (sh_claim_of kk [z26, v_right]).bind fun z27 =>
            .ok [z24, z27]
          else
            .err "NoRule" []
  | _, _ => .stuck

noncomputable def sh_without : Nat → List U → M (List U)
  | kk + 1, [v_sayings, v_saying] =>
    (iterL v_sayings).bind fun it1 =>
    (compF (fun x2 =>
        ((nB eqM) x2 v_saying).bind fun b4 =>
        .ok b4
      ) (fun x2 =>
        .ok x2
      ) it1).bind fun zs3 =>
    .ok zs3
  | _, _ => .stuck

noncomputable def sh_from_right : Nat → List U → M (List U)
  | kk + 1, [v_left, v_right, v_saying] =>
    (ixM v_saying (.int 0)).bind fun z1 =>
    (eqM z1 (.str "not")).bind fun b2 =>
    if b2 then
      (ixM v_saying (.int 1)).bind fun z3 =>
      (addM v_left (.lst [z3])).bind fun z4 =>
      (sh_claim_of kk [z4, v_right]).bind fun z5 =>
      .ok [z5]
    else
      (ixM v_saying (.int 0)).bind fun z6 =>
      (eqM z6 (.str "and")).bind fun b7 =>
      if b7 then
        (ixM v_saying (.int 1)).bind fun z8 =>
        (addM v_right (.lst [z8])).bind fun z9 =>
        (sh_claim_of kk [v_left, z9]).bind fun z10 =>
        (ixM v_saying (.int 2)).bind fun z11 =>
        (addM v_right (.lst [z11])).bind fun z12 =>
        (sh_claim_of kk [v_left, z12]).bind fun z13 =>
        .ok [z10, z13]
      else
        (ixM v_saying (.int 0)).bind fun z14 =>
        (eqM z14 (.str "or")).bind fun b15 =>
        if b15 then
          (ixM v_saying (.int 1)).bind fun z16 =>
          (ixM v_saying (.int 2)).bind fun z17 =>
          (addM v_right (.lst [z16, z17])).bind fun z18 =>
          (sh_claim_of kk [v_left, z18]).bind fun z19 =>
          .ok [z19]
        else
          (ixM v_saying (.int 0)).bind fun z20 =>
          (eqM z20 (.str "if")).bind fun b21 =>
          if b21 then
            (ixM v_saying (.int 1)).bind fun z22 =>
            (addM v_left (.lst [z22])).bind fun z23 =>
            (ixM v_saying (.int 2)).bind fun z24 =>
            (addM v_right (.lst [z24])).bind fun z25 =>
            (sh_claim_of kk [z23, z25]).bind fun z26 =>
            .ok [z26]
          else
            .err "NoRule" []
  | _, _ => .stuck

noncomputable def sh_further_up : Nat → List U → M (List U)
  | kk + 1, [v_left, v_saying] =>
    (iterL v_left).bind fun it1 =>
    (forN (fun v_known_2 x3 =>
        (
          (ixM x3 (.int 0)).bind fun z4 =>
          (eqM z4 (.str "shown")).bind fun b5 =>
          if b5 then
            (ixM x3 (.int 1)).bind fun z6 =>
            (extM v_known_2 (.lst [x3, z6])).bind fun l7 =>
            .ok l7
          else
            .ok v_known_2
        ).bind fun v_known_8 =>
        .ok v_known_8
      ) it1 [v_saying]).bind fun v_known_9 =>
    (ixM v_saying (.int 1)).bind fun z10 =>
    (sh_claim_of kk [.lst v_known_9, .lst [z10]]).bind fun z11 =>
    .ok [z11]
  | _, _ => .stuck

noncomputable def sh_needed : Nat → List U → M (List U)
  | kk + 1, [v_claim, v_rule, v_saying] =>
    (un2 v_claim).bind fun (v_left_1, v_right_2) =>
    (
      (eqM v_rule (.str "same")).bind fun b3 =>
      if b3 then
        (inM v_saying v_left_1).bind fun b4 =>
        if b4 then
          (inM v_saying v_right_2).bind fun b5 =>
          .ok b5
        else
          .ok false
      else
        .ok false
    ).bind fun b6 =>
    if b6 then
      .ok []
    else
      (
        (eqM v_rule (.str "never")).bind fun b7 =>
        if b7 then
          (eqM v_saying (.tup [.str "no"])).bind fun b8 =>
          if b8 then
            (inM v_saying v_left_1).bind fun b9 =>
            .ok b9
          else
            .ok false
        else
          .ok false
      ).bind fun b10 =>
      if b10 then
        .ok []
      else
        (
          (eqM v_rule (.str "left")).bind fun b11 =>
          if b11 then
            (inM v_saying v_left_1).bind fun b12 =>
            .ok b12
          else
            .ok false
        ).bind fun b13 =>
        if b13 then
          (sh_without kk [v_left_1, v_saying]).bind fun z14 =>
          (sh_from_left kk [.lst z14, v_right_2, v_saying]).bind fun z15 =>
          .ok z15
        else
          (
            (eqM v_rule (.str "right")).bind fun b16 =>
            if b16 then
              (inM v_saying v_right_2).bind fun b17 =>
              .ok b17
            else
              .ok false
          ).bind fun b18 =>
          if b18 then
            (sh_without kk [v_right_2, v_saying]).bind fun z19 =>
            (sh_from_right kk [v_left_1, .lst z19, v_saying]).bind fun z20 =>
            .ok z20
          else
            (
              (eqM v_rule (.str "up")).bind fun b21 =>
              if b21 then
                (ixM v_saying (.int 0)).bind fun z22 =>
                (eqM z22 (.str "shown")).bind fun b23 =>
                if b23 then
                  (inM v_saying v_right_2).bind fun b24 =>
                  .ok b24
                else
                  .ok false
              else
                .ok false
            ).bind fun b25 =>
            if b25 then
              (sh_further_up kk [v_left_1, v_saying]).bind fun z26 =>
              .ok z26
            else
              .err "NoRule" []
  | _, _ => .stuck

noncomputable def sh__law_alone : Nat → List U → M U
  | kk + 1, [v_e] =>
    (isEM [("NoRule", true)] v_e).bind fun z1 =>
    (intM z1).bind fun z2 =>
    (isEM [("NoRule", false)] v_e).bind fun z3 =>
    (intM z3).bind fun z4 =>
    (addM z2 z4).bind fun z5 =>
    (isEM [("NoRule", false)] v_e).bind fun z6 =>
    (intM z6).bind fun z7 =>
    (addM z5 z7).bind fun z8 =>
    (isEM [("NoRule", false)] v_e).bind fun z9 =>
    (intM z9).bind fun z10 =>
    (addM z8 z10).bind fun z11 =>
    (isEM [("NoRule", false)] v_e).bind fun z12 =>
    (intM z12).bind fun z13 =>
    (addM z11 z13).bind fun z14 =>
    (isEM [("NoRule", false)] v_e).bind fun z15 =>
    (intM z15).bind fun z16 =>
    (addM z14 z16).bind fun z17 =>
    (isEM [("NoRule", false)] v_e).bind fun z18 =>
    (intM z18).bind fun z19 =>
    (addM z17 z19).bind fun z20 =>
    (isEM [("NoRule", false)] v_e).bind fun z21 =>
    (intM z21).bind fun z22 =>
    (addM z20 z22).bind fun z23 =>
    (
      ((vB eqM) z23 (.int 1)).bind fun z24 =>
      (boolM z24).bind fun b25 =>
      if b25 then
        (isEM [("NoRule", true)] v_e).bind fun z26 =>
        (boolM z26).bind fun b27 =>
        if b27 then
          (isEM [("NoRule", true)] v_e).bind fun z28 =>
          .ok z28
        else
          .ok (.bl false)
      else
        .ok (.bl false)
    ).bind fun z29 =>
    .ok z29
  | _, _ => .stuck

noncomputable def sh__law_told : Nat → List U → M U
  | kk + 1, [v_claim_here, v_rule, v_saying_here] =>
    tryK (σ := U) [("NoRule", 0)] (
      (sh_needed kk [v_claim_here, v_rule, v_saying_here]).bind fun z1 =>
      .ok (.lst z1)
      ) (fun v_found_2 =>
        (boolM (.bl false)).bind fun b3 =>
        if b3 then
          .ok .non
        else
          (
            (isiM v_found_2 "list").bind fun z4 =>
            (boolM z4).bind fun b5 =>
            if (!b5) then
              .ok true
            else
              (iterL v_found_2).bind fun it6 =>
              (compM (fun x7 =>
                  (isiM x7 "tuple").bind fun z9 =>
                  .ok z9
                ) it6).bind fun zs8 =>
              (allM (.lst zs8)).bind fun z10 =>
              (boolM z10).bind fun b11 =>
              .ok (!b11)
          ).bind fun b12 =>
          if b12 then
            .ok (.str "no list")
          else
            .ok v_found_2
      ) (fun ec13 eu14 =>
        (sh__law_alone kk [.exc ec13 eu14]).calm.bind fun z15 =>
        (boolM z15).bind fun b16 =>
        if b16 then
          .ok .non
        else
          (
            (isiM .non "list").bind fun z17 =>
            (boolM z17).bind fun b18 =>
            if (!b18) then
              .ok true
            else
              (iterL .non).bind fun it19 =>
              (compM (fun x20 =>
                  (isiM x20 "tuple").bind fun z22 =>
                  .ok z22
                ) it19).bind fun zs21 =>
              (allM (.lst zs21)).bind fun z23 =>
              (boolM z23).bind fun b24 =>
              .ok (!b24)
          ).bind fun b25 =>
          if b25 then
            .ok (.str "no list")
          else
            .ok .non
      )
  | _, _ => .stuck

noncomputable def sh__law_right : Nat → List U → M U
  | kk + 1, [v_claim_here, v_rule, v_saying_here] =>
    (sh__law_needed kk [v_claim_here, v_rule, v_saying_here]).bind fun z1 =>
    (ixM v_claim_here (.int 0)).bind fun z2 =>
    (listM z2).bind fun z3 =>
    (ixM v_claim_here (.int 1)).bind fun z4 =>
    (listM z4).bind fun z5 =>
    (range1M (.int 2)).bind fun it6 =>
    (forC (ρ := U) (fun _ x7 =>
        (frzM [.tup [.fzl z3, .fzl z5], v_rule, v_saying_here] (sh__law_told kk [.tup [.fzl z3, .fzl z5], v_rule, v_saying_here])).calm.bind fun z8 =>
        (
          ((nB eqM) z8 z1).bind fun b9 =>
          if b9 then
            .ok true
          else
            ((nB eqM) (.tup [.fzl z3, .fzl z5]) v_claim_here).bind fun b10 =>
            .ok b10
        ).bind fun b11 =>
        if b11 then
          .ok (.rt (.bl false))
        else
          (isntM z8 .non).bind fun b12 =>
          (tr32 b12 z8).bind fun _ =>
          .ok (.nx ())
      ) it6 ()).bind fun r => match r with
    | .bk _ => .stuck
    | .rt c => .ok c
    | .nx _ =>
      .ok (.bl true)
  | _, _ => .stuck

noncomputable def sh_law : Nat → List U → M U
  | kk + 1, [v_script] =>
    (sh__law_cell_at kk [v_script, .int 0]).bind fun z1 =>
    (modM z1 (.int 4)).bind fun z2 =>
    (sh__law_list kk [v_script, .int 1, z2, .int 2]).bind fun z3 =>
    (fdivM z1 (.int 4)).bind fun z4 =>
    (modM z4 (.int 4)).bind fun z5 =>
    (sh__law_list kk [v_script, .int 31, z5, .int 2]).bind fun z6 =>
    (
      (fdivM z1 (.int 16)).bind fun z7 =>
      (modM z7 (.int 3)).bind fun z8 =>
      (eqM z8 (.int 1)).bind fun b9 =>
      if b9 then
        (endM (.int 1)).bind fun z10 =>
        (slM (.lst z3) none z10).bind fun z11 =>
        (addM (.lst z6) z11).bind fun z12 =>
        .ok z12
      else
        .ok (.lst z6)
    ).bind fun v_right_here_13 =>
    (
      (fdivM z1 (.int 48)).bind fun z14 =>
      (modM z14 (.int 3)).bind fun z15 =>
      (eqM z15 (.int 1)).bind fun b16 =>
      if b16 then
        (appM z3 (.tup [.str "no"])).bind fun l17 =>
        .ok l17
      else
        .ok z3
    ).bind fun v_left_18 =>
    (sh__law_claim kk [.lst v_left_18, v_right_here_13]).bind fun z19 =>
    (ixM z19 (.int 0)).bind fun z20 =>
    (ixM z19 (.int 1)).bind fun z21 =>
    (addM z20 z21).bind fun z22 =>
    (addM z22 (.lst [.tup [.str "not", .tup [.str "shown", .tup [.str "or", .tup [.str "no"], .tup [.str "no"]]]], .tup [.str "no"]])).bind fun z23 =>
    (fdivM z1 (.int 144)).bind fun z24 =>
    (modM z24 (.int 6)).bind fun z25 =>
    (ixM (.lst [.str "down", .str "Left", .str "upright", .str "", .str "left ", .str "sam"]) z25).bind fun z26 =>
    (iterL (.lst [.str "same", .str "never", .str "left", .str "right", .str "up", z26])).bind fun it27 =>
    (forC (ρ := U) (fun _ x28 =>
        (iterL z23).bind fun it29 =>
        (forC (ρ := U) (fun _ x30 =>
            (sh__law_right kk [z19, x28, x30]).bind fun z31 =>
            (boolM z31).bind fun b32 =>
            if (!b32) then
              .ok (.rt (.bl false))
            else
              .ok (.nx ())
          ) it29 ()).bind fun r => match r with
        | .bk _ => .stuck
        | .rt c => .ok (.rt c)
        | .nx _ =>
          .ok (.nx ())
      ) it27 ()).bind fun r => match r with
    | .bk _ => .stuck
    | .rt c => .ok c
    | .nx _ =>
      .ok (.bl true)
  | _, _ => .stuck

/-- a stack of sayings, not empty, with at most n parts -/
def Stk (n : Nat) (l : List U) : Prop := ∃ sts : List Sy, l = sts.map su ∧ sts ≠ [] ∧ tot sts ≤ n
theorem Stk.mono {n m : Nat} {l : List U} (h : Stk n l) (i : n ≤ m) : Stk m l := by obtain ⟨s, h1, h2, h3⟩ := h; exact ⟨s, h1, h2, by omega⟩
theorem Stk.push {n : Nat} {l : List U} {y : Sy} (h : Stk n l) (hn : n < 10000000) : Ok (appM l (su y)) (Stk (n + y.size)) := by
  obtain ⟨s, rfl, h2, h3⟩ := h
  refine ⟨_, appM_ok (by rw [List.length_map]; have := len_tot s; omega), s ++ [y], by simp, by simp, by rw [tot_snoc]; omega⟩
theorem bops {u : U} (h : u ∈ [U.str "and", .str "or", .str "if"]) : ∃ o : Bop, u = .str o.s := by
  simp only [List.mem_cons, List.not_mem_nil, or_false] at h
  rcases h with rfl | rfl | rfl
  · exact ⟨.and, rfl⟩
  · exact ⟨.or, rfl⟩
  · exact ⟨.iff, rfl⟩
theorem sh_cell {k : Nat} {ns : List Int} {i : Int} (h : 0 ≤ i) (h2 : i < 1000000000) (hn : ns.length ≤ 63) : Ok (sh__law_cell_at (k + 1) [.fzl (ns.map .int), .int i]) fun u => ∃ c : Int, u = .int c ∧ 0 ≤ c := by
  rw [sh__law_cell_at, lenM_fzl, M.bind_ok, eqM_int, M.bind_ok, List.length_map]
  refine Ok.ite (fun _ => ?_) fun hz => ?_
  · rw [mulM_l (by omega) (by omega)]
    walk_at "ms"
    exact ⟨_, rfl, Int.emod_nonneg _ (by decide)⟩
  · have hz := of_decide_eq_false hz
    have hl : (0 : Int) < ns.length := by omega
    rw [M.bind_ok, modM_int hl, M.bind_ok]
    obtain ⟨u, hu, e⟩ := ixM_any (i := i % ns.length) (x := .fzl (ns.map .int)) rfl (Int.emod_nonneg _ (by omega)) (by rw [List.length_map]; exact Int.emod_lt_of_pos _ hl)
    obtain ⟨n, _, rfl⟩ := List.mem_map.mp hu
    rw [e, M.bind_ok, mulM_l (i := i) (j := i) (by omega) (by omega)]
    walk_at "ms"
    exact ⟨_, rfl, Int.emod_nonneg _ (by decide)⟩

theorem sh_leaf {k : Nat} {c : Int} : Ok (sh__law_leaf (k + 1) [.int c]) fun u => ∃ s : Sy, u = su s ∧ s.size = 1 := by
  rw [sh__law_leaf, modM_int (by decide), M.bind_ok]
  obtain ⟨u, hu, e⟩ := ixM_any (i := c % 6) (x := .lst [.tup [.str "letter", .str "p"], .tup [.str "letter", .str "q"], .tup [.str "letter", .str "p"], .tup [.str "no"], .tup [.str "letter", .str "r"], .tup [.str "letter", .str "q"]]) rfl (by omega) (by simp; omega)
  rw [e]
  refine ⟨u, rfl, ?_⟩
  simp only [List.mem_cons, List.not_mem_nil, or_false] at hu
  rcases hu with rfl | rfl | rfl | rfl | rfl | rfl
  · exact ⟨.lt .p, rfl, rfl⟩
  · exact ⟨.lt .q, rfl, rfl⟩
  · exact ⟨.lt .p, rfl, rfl⟩
  · exact ⟨.no, rfl, rfl⟩
  · exact ⟨.lt .r, rfl, rfl⟩
  · exact ⟨.lt .q, rfl, rfl⟩
theorem Stk.pop1 {n : Nat} {l : List U} (h : Stk n l) : ∃ (a : Sy) (ss : List Sy), popM l = .ok (su a, ss.map su) ∧ tot ss + a.size ≤ n := by
  obtain ⟨s, rfl, h2, h3⟩ := h
  obtain ⟨ys, y, rfl⟩ := snoc_of h2
  refine ⟨y, ys, by rw [List.map_append, List.map_cons, List.map_nil, popM_last], by rw [tot_snoc] at h3; omega⟩
theorem push_t {ss : List Sy} {t : Sy} {n : Nat} (h : tot ss + t.size ≤ n) (hn : n < 10000000) : Ok (appM (ss.map su) (su t)) (Stk n) := by
  refine ⟨_, appM_ok (by rw [List.length_map]; have := len_tot ss; omega), ss ++ [t], by simp, by simp, by rw [tot_snoc]; exact h⟩
/-- two off the stack, one put on -/
theorem Stk.two {n : Nat} {l : List U} (h : Stk n l) (hl : 2 ≤ l.length) : ∃ (a b : Sy) (ss : List Sy), popM l = .ok (su b, (ss ++ [a]).map su) ∧ popM ((ss ++ [a]).map su) = .ok (su a, ss.map su) ∧ tot ss + (a.size + b.size) ≤ n ∧ l.length = ss.length + 2 := by
  obtain ⟨s, rfl, h2, h3⟩ := h
  rw [List.length_map] at hl
  obtain ⟨ys, y, z, rfl⟩ := snoc2_of hl
  refine ⟨y, z, ys, by rw [List.map_append, List.map_cons, List.map_nil, popM_last], by rw [List.map_append, List.map_cons, List.map_nil, popM_last], ?_, by simp⟩
  rw [tot_snoc, tot_snoc] at h3; omega
theorem sh_saying {k : Nat} {ns : List Int} {at_ many most : Int} (hn : ns.length ≤ 63) (h : 0 ≤ at_) (h2 : at_ < 100000) (hm : 0 ≤ many) (hm2 : many ≤ 100) : Ok (sh__law_saying (k + 2) [.fzl (ns.map .int), .int at_, .int many, .int most]) fun u => ∃ s : Sy, u = su s ∧ s.size ≤ 2 * many.toNat + 2 := by
  rw [sh__law_saying]
  obtain ⟨_, e, c0, rfl, _⟩ := sh_cell (k := k) (ns := ns) (i := at_) h (by omega) hn
  rw [e, M.bind_ok]
  obtain ⟨_, e, s0, rfl, hs0⟩ := sh_leaf (k := k) (c := c0)
  rw [e, M.bind_ok, range1M_int (by omega) (by omega), M.bind_ok]
  refine Ok.bind (forN_inv (fun n s => ∃ sh l, s = (.int sh, l) ∧ Stk (n + 1) l) _ 0 _ ⟨0, _, rfl, [s0], rfl, by simp, by simp [tot, hs0]⟩ ?_) ?_
  · rintro n x _ _ hx ⟨sh, l, rfl, hl⟩
    obtain ⟨i, hi, rfl⟩ := rangeU_mem (List.mem_of_getElem? hx)
    have hn' : n < many.toNat := by have := (List.getElem?_eq_some_iff.mp hx).1; rw [rangeU_len] at this; omega
    dsimp only
    rw [addM_int, M.bind_ok, addM_int, M.bind_ok]
    obtain ⟨_, e, c, rfl, _⟩ := sh_cell (k := k) (ns := ns) (i := at_ + 1 + (0 + (i : Int))) (by omega) (by omega) hn
    rw [e, M.bind_ok, modM_int (by decide), M.bind_ok]
    refine Ok.bind (P := fun v => ∃ sh l, v = (.int sh, l) ∧ Stk (n + 2) l) ?_ fun v ⟨sh, l, hv, hl⟩ => by subst hv; exact ⟨_, rfl, sh, l, rfl, hl⟩
    refine Ok.bind (P := fun _ => True) ?_ fun b11 _ => ?_
    · walk_at "ms"
    refine Ok.ite (fun _ => ?_) fun _ => ?_
    · rw [fdivM_int (by decide) (by decide), M.bind_ok]
      obtain ⟨_, e, s, rfl, hs⟩ := sh_leaf (k := k) (c := c / 8)
      rw [e, M.bind_ok]
      exact Ok.bind (hl.push (by omega)) fun l hl => ⟨_, rfl, _, _, rfl, hl.mono (by omega)⟩
    refine Ok.bind (P := fun v => ∃ sh l, v = (.int sh, l) ∧ Stk (n + 2) l) ?_ fun v ⟨sh, l, hv, hl⟩ => by subst hv; exact ⟨_, rfl, sh, l, rfl, hl⟩
    rw [eqM_int, M.bind_ok]
    refine Ok.ite (fun _ => ?_) fun _ => ?_
    · obtain ⟨a, ss, e, ha⟩ := hl.pop1
      rw [e, M.bind_ok]
      exact Ok.bind (push_t (t := .not a) (n := n + 2) (by simp only [Sy.size]; omega) (by omega)) fun l hl => ⟨_, rfl, _, _, rfl, hl⟩
    refine Ok.bind (P := fun v => ∃ sh l, v = (.int sh, l) ∧ Stk (n + 2) l) ?_ fun v ⟨sh, l, hv, hl⟩ => by subst hv; exact ⟨_, rfl, sh, l, rfl, hl⟩
    refine Ok.bind (P := fun _ => True) ?_ fun b11 _ => ?_
    · walk_at "ms"
    refine Ok.ite (fun _ => ?_) fun _ => ?_
    · rw [addM_int, M.bind_ok]
      obtain ⟨a, ss, e, ha⟩ := hl.pop1
      rw [e, M.bind_ok]
      exact Ok.bind (push_t (t := .shown a) (n := n + 2) (by simp only [Sy.size]; omega) (by omega)) fun l hl => ⟨_, rfl, _, _, rfl, hl⟩
    refine Ok.bind (P := Stk (n + 2)) ?_ fun l hl => ⟨_, rfl, _, _, rfl, hl⟩
    rw [lenM_lst, M.bind_ok, gtM_int, M.bind_ok]
    refine Ok.ite (fun h2 => ?_) fun _ => ⟨_, rfl, hl.mono (by omega)⟩
    obtain ⟨a, b, ss, e, e2, h3, _⟩ := hl.two (by have := of_decide_eq_true h2; omega)
    obtain ⟨u, hu, e3⟩ := ixM_any (i := c / 8 % 3) (x := .lst [.str "and", .str "or", .str "if"]) rfl (by omega) (by simp; omega)
    obtain ⟨o, rfl⟩ := bops hu
    rw [e, M.bind_ok]
    dsimp only
    rw [fdivM_int (by decide) (by decide), M.bind_ok, modM_int (by decide), M.bind_ok, e3, M.bind_ok, e2, M.bind_ok]
    exact Ok.bind (push_t (t := .bin o a b) (n := n + 2) (by simp only [Sy.size]; omega) (by omega)) fun l hl => ⟨_, rfl, hl⟩
  · rw [rangeU_len]
    rintro _ ⟨sh, l, rfl, hl⟩
    dsimp only
    obtain ⟨ss, rfl, hne, hss⟩ := hl
    have hlen := len_tot ss
    refine Ok.bind (whN_down (fun l => ∃ ss : List Sy, l = ss.map su ∧ ss ≠ [] ∧ tot ss + ss.length ≤ 2 * many.toNat + 2) (fun l => ∃ s : Sy, l = [su s] ∧ s.size ≤ 2 * many.toNat + 2) (fun l => l.length) ?_ 1000000 _ ⟨ss, rfl, hne, by omega⟩ (by rw [List.length_map]; omega)) ?_
    · rintro _ ⟨ss, rfl, hne, hss⟩
      rw [lenM_lst, M.bind_ok, gtM_int, M.bind_ok, Ok_ok, List.length_map]
      refine Classical.byCases (fun h1 : (1 : Int) < ss.length => ?_) fun h1 => ?_
      · rw [decide_eq_true h1, if_pos rfl]
        obtain ⟨ys, a, b, rfl⟩ := snoc2_of (xs := ss) (by omega)
        have e1 : popM ((ys ++ [a] ++ [b]).map su) = .ok (su b, (ys ++ [a]).map su) := by rw [List.map_append, List.map_cons, List.map_nil, popM_last]
        have e2 : popM ((ys ++ [a]).map su) = .ok (su a, ys.map su) := by rw [List.map_append, List.map_cons, List.map_nil, popM_last]
        obtain ⟨u, hu, e3⟩ := ixM_any (i := ((((ys ++ [a]).map su).length : Nat) : Int) % 3) (x := .lst [.str "if", .str "or", .str "and"]) rfl (by omega) (by simp; omega)
        obtain ⟨o, rfl⟩ : ∃ o : Bop, u = .str o.s := bops (by simp only [List.mem_cons, List.not_mem_nil, or_false] at hu ⊢; rcases hu with rfl | rfl | rfl <;> simp)
        rw [tot_snoc, tot_snoc, List.length_append, List.length_append] at hss
        simp only [List.length_cons, List.length_nil] at hss
        have hly := len_tot ys
        rw [e1, M.bind_ok]
        dsimp only
        rw [lenM_lst, M.bind_ok, modM_int (by decide), M.bind_ok, e3, M.bind_ok, e2, M.bind_ok]
        dsimp only
        rw [show U.tup [.str o.s, su a, su b] = su (.bin o a b) from rfl, appM_ok (by rw [List.length_map]; omega), M.bind_ok, Ok_ok]
        refine ⟨⟨ys ++ [.bin o a b], by simp, by simp, ?_⟩, by simp⟩
        rw [tot_snoc, List.length_append]
        simp only [List.length_cons, List.length_nil, Sy.size]
        omega
      · rw [decide_eq_false h1, if_neg (by simp)]
        obtain ⟨ys, y, rfl⟩ := snoc_of hne
        have : ys = [] := by
          rw [List.length_append] at h1
          simp only [List.length_cons, List.length_nil] at h1
          exact List.length_eq_zero_iff.mp (by omega)
        subst this
        rw [tot_snoc, List.length_append] at hss
        exact ⟨y, rfl, by simp only [List.length_cons, List.length_nil] at hss; omega⟩
    · rintro _ ⟨s, rfl, hs⟩
      rw [ix_l0]
      exact ⟨_, rfl, s, rfl, hs⟩

theorem once_step {ts : List Sy} (h : ts.length < 10000000) (x : Sy) {b : M Bool} (hb : b = .ok (decide (¬ ts.getLast? = some x))) : ((b.bind fun b10 => if b10 = true then (appM (ts.map su) (su x)).bind fun l11 => M.ok l11 else M.ok (ts.map su)).bind fun v => M.ok v) = .ok ((if ts.getLast? = some x then ts else ts ++ [x]).map su) := by
  subst hb
  rw [M.bind_ok, appM_ok (by rw [List.length_map]; exact h)]
  by_cases e : ts.getLast? = some x
  · simp [e]
  · simp [e]
theorem last_ne {ts : List Sy} (hd : ∀ s ∈ ts, s.ht ≤ 180) (x : Sy) (hn : ts ≠ []) : ((negM (.int 1)).bind fun z7 => (ixM (.lst (ts.map su)) z7).bind fun z8 => (nB eqM z8 (su x)).bind fun b9 => M.ok b9) = .ok (decide (¬ ts.getLast? = some x)) := by
  obtain ⟨ys, y, rfl⟩ := snoc_of hn
  rw [List.map_append, List.map_cons, List.map_nil]
  simp only [negM_int, M.bind_ok, ix_last, nB_ok]
  have := hd y (by simp)
  rw [eqM_su (by omega)]
  simp [M.bind_ok]
theorem onceI {ts ss : List Sy} {n : Nat} {x : Sy} (hs : ∀ s ∈ ss, s.ht ≤ 180) (h : ts.length ≤ n ∧ ∀ s ∈ ts, s.ht ≤ 180) (hx : x ∈ sortS ss) : (if ts.getLast? = some x then ts else ts ++ [x]).length ≤ n + 1 ∧ ∀ s ∈ (if ts.getLast? = some x then ts else ts ++ [x]), s.ht ≤ 180 := by
  split
  · exact ⟨by omega, h.2⟩
  · refine ⟨by simp; omega, fun s hm => ?_⟩
    rcases List.mem_append.mp hm with z | z
    · exact h.2 s z
    · rw [List.mem_singleton] at z; subst z
      exact hs s ((sortS_perm ss).mem_iff.mp hx)
theorem sh_once {k : Nat} {ss : List Sy} {x : U} (hx : itemsL x = some (ss.map su)) (h : ∀ s ∈ ss, s.ht ≤ 180) (hl : ss.length ≤ 1000000) : sh_each_once (k + 1) [x] = .ok ((onceS (sortS ss)).map su) := by
  rw [sh_each_once, sortedM_su hx h, M.bind_ok, iterL_lst, M.bind_ok]
  refine (congrArg (fun m => M.bind m _) (forN_fold (fun ts : List Sy => ts.map su) su (fun told one => if told.getLast? = some one then told else told ++ [one]) (fun n ts => ts.length ≤ n ∧ ∀ s ∈ ts, s.ht ≤ 180) (sortS ss) [] ⟨Nat.le_refl _, by simp⟩ fun n ts x hn hI hm => ⟨once_step (by have := (sortS_perm ss).length_eq; omega) x ?_, onceI h hI hm⟩)).trans rfl
  cases ts with
  | nil => rfl
  | cons t ts =>
    rw [lenM_lst, M.bind_ok, eqM_int, M.bind_ok, if_neg (by simp; omega)]
    exact last_ne hI.2 x (by simp)

theorem sh_unlG {k : Nat} {ss : List Sy} {x : U} (hx : itemsL x = some (ss.map su)) (h : ∀ s ∈ ss, s.ht ≤ 180) (hl : ss.length ≤ 1000000) : sh__law_unlike (k + 1) [x] = .ok ((setS ss).map su) := by
  rw [sh__law_unlike, sortedM_su hx h, M.bind_ok, iterL_lst, M.bind_ok]
  refine (congrArg (fun m => M.bind m _) (forN_fold (fun ts : List Sy => ts.map su) su (fun told one => if told.getLast? = some one then told else told ++ [one]) (fun n ts => ts.length ≤ n ∧ ∀ s ∈ ts, s.ht ≤ 180) (sortS ss) [] ⟨Nat.le_refl _, by simp⟩ fun n ts x hn hI hm => ⟨once_step (by have := (sortS_perm ss).length_eq; omega) x ?_, onceI h hI hm⟩)).trans rfl
  cases ts with
  | nil => rfl
  | cons t ts =>
    rw [eqM_nil (pls_su _) (by simp), M.bind_ok, if_neg (by simp)]
    exact last_ne hI.2 x (by simp)
abbrev Cl := List Sy × List Sy
def clU (c : Cl) : U := .tup [.lst (c.1.map su), .lst (c.2.map su)]
def mkC (l r : List Sy) : Cl := (setS l, setS r)
theorem sh_clm {k : Nat} {ls rs : List Sy} (h : ∀ s ∈ ls, s.ht ≤ 150) (hl : ls.length ≤ 1000000) (h2 : ∀ s ∈ rs, s.ht ≤ 150) (hl2 : rs.length ≤ 1000000) : sh_claim_of (k + 3) [.lst (ls.map su), .lst (rs.map su)] = .ok (clU (mkC ls rs)) := by
  rw [sh_claim_of, sh_unlike, sh_unlike, sh_once rfl (fun s q => by have := h s q; omega) hl, M.bind_ok, M.bind_ok, sh_once rfl (fun s q => by have := h2 s q; omega) hl2]; rfl
def wo (l : List Sy) (s : Sy) : List Sy := l.filter fun x => decide (x ≠ s)
theorem sh_wo {k : Nat} {l : List Sy} {s : Sy} (h : s.ht ≤ 190) (hl : l.length ≤ 1000000) : sh_without (k + 1) [.lst (l.map su), su s] = .ok ((wo l s).map su) := by
  rw [sh_without, iterL_lst, M.bind_ok, compF_ok su (fun x => decide (x ≠ s)) su (by omega) (fun x _ => by rw [nB_ok, eqM_su (by omega), M.bind_ok, M.bind_ok]; congr 1; rw [Bool.eq_iff_iff]; simp) (fun _ _ _ => rfl)]; rfl
theorem wo_len (l : List Sy) (s : Sy) : (wo l s).length ≤ l.length := List.length_filter_le _ l
theorem wo_iff {l : List Sy} {s x : Sy} : x ∈ wo l s ↔ x ∈ l ∧ x ≠ s := by unfold wo; rw [List.mem_filter, decide_eq_true_eq]
def fromL (l r : List Sy) : Sy → Option (List Cl)
  | .not a => some [mkC l (r ++ [a])]
  | .bin .and a b => some [mkC (l ++ [a, b]) r]
  | .bin .or a b => some [mkC (l ++ [a]) r, mkC (l ++ [b]) r]
  | .bin .iff a b => some [mkC l (r ++ [a]), mkC (l ++ [b]) r]
  | _ => none
def fromR (l r : List Sy) : Sy → Option (List Cl)
  | .not a => some [mkC (l ++ [a]) r]
  | .bin .and a b => some [mkC l (r ++ [a]), mkC l (r ++ [b])]
  | .bin .or a b => some [mkC l (r ++ [a, b])]
  | .bin .iff a b => some [mkC (l ++ [a]) (r ++ [b])]
  | _ => none
def known1 : Sy → List Sy
  | .shown a => [.shown a, a]
  | _ => []
def upC (l : List Sy) : Sy → Option (List Cl)
  | .shown a => some [mkC (.shown a :: l.flatMap known1) [a]]
  | _ => none
def res : Option (List Cl) → M (List U)
  | some cs => .ok (cs.map clU)
  | none => .err "NoRule" []
section
variable {k : Nat} {l r : List Sy}
theorem addc1 {a : Sy} (hl : l.length ≤ 1000) : addM (.lst (l.map su)) (.lst [su a]) = .ok (.lst ((l ++ [a]).map su)) := by
  rw [addM_lst (by rw [List.length_map, List.length_singleton]; omega), List.map_append]; rfl
theorem addc2 {a b : Sy} (hl : l.length ≤ 1000) : addM (.lst (l.map su)) (.lst [su a, su b]) = .ok (.lst ((l ++ [a, b]).map su)) := by
  rw [addM_lst (by rw [List.length_map]; simp only [List.length_cons, List.length_nil]; omega), List.map_append]; rfl
theorem htc1 (h : ∀ s ∈ l, s.ht ≤ 150) {a : Sy} (ha : a.ht ≤ 150) : ∀ s ∈ l ++ [a], s.ht ≤ 150 := fun s hs => by
  rcases List.mem_append.mp hs with z | z
  · exact h s z
  · rw [List.mem_singleton] at z; subst z; exact ha
theorem htc2 (h : ∀ s ∈ l, s.ht ≤ 150) {a b : Sy} (ha : a.ht ≤ 150) (hb : b.ht ≤ 150) : ∀ s ∈ l ++ [a, b], s.ht ≤ 150 := fun s hs => by
  rcases List.mem_append.mp hs with z | z
  · exact h s z
  · simp only [List.mem_cons, List.not_mem_nil, or_false] at z
    rcases z with rfl | rfl
    · exact ha
    · exact hb
theorem lenc1 {a : Sy} (hl : l.length ≤ 1000) : (l ++ [a]).length ≤ 1000000 := by rw [List.length_append, List.length_singleton]; omega
theorem lenc2 {a b : Sy} (hl : l.length ≤ 1000) : (l ++ [a, b]).length ≤ 1000000 := by rw [List.length_append]; simp only [List.length_cons, List.length_nil]; omega
theorem sh_fromL (h : ∀ s ∈ l, s.ht ≤ 150) (hl : l.length ≤ 1000) (h2 : ∀ s ∈ r, s.ht ≤ 150) (hr : r.length ≤ 1000) (s : Sy) (hs : s.ht ≤ 150) : sh_from_left (k + 4) [.lst (l.map su), .lst (r.map su), su s] = res (fromL l r s) := by
  rw [sh_from_left]
  cases s with
  | no => rfl
  | lt a => rfl
  | shown a => rfl
  | not a =>
    simp only [Sy.ht] at hs
    simp only [su, ix_t0, ix_t1, M.bind_ok, eqM_str, ofS_inj, String.reduceEq, decide_true, decide_false, Bool.false_eq_true, if_true, if_false, addc1 hr, sh_clm (k := k) h (by omega) (htc1 h2 (a := a) (by omega)) (lenc1 hr)]
    rfl
  | bin o a b =>
    simp only [Sy.ht] at hs
    have ha : a.ht ≤ 150 := by omega
    have hb : b.ht ≤ 150 := by omega
    cases o <;>
    · simp only [su, Bop.s, ix_t0, ix_t1, ix_t2, M.bind_ok, eqM_str, ofS_inj, String.reduceEq, decide_true, decide_false, Bool.false_eq_true, if_true, if_false, addc1 hr, addc1 hl, addc2 hl, addc2 hr, sh_clm (k := k) h (by omega) (htc1 h2 (a := a) ha) (lenc1 hr), sh_clm (k := k) (htc1 h (a := a) ha) (lenc1 hl) h2 (by omega), sh_clm (k := k) (htc1 h (a := b) hb) (lenc1 hl) h2 (by omega), sh_clm (k := k) (htc2 h ha hb) (lenc2 hl) h2 (by omega)]
      rfl
theorem sh_fromR (h : ∀ s ∈ l, s.ht ≤ 150) (hl : l.length ≤ 1000) (h2 : ∀ s ∈ r, s.ht ≤ 150) (hr : r.length ≤ 1000) (s : Sy) (hs : s.ht ≤ 150) : sh_from_right (k + 4) [.lst (l.map su), .lst (r.map su), su s] = res (fromR l r s) := by
  rw [sh_from_right]
  cases s with
  | no => rfl
  | lt a => rfl
  | shown a => rfl
  | not a =>
    simp only [Sy.ht] at hs
    simp only [su, ix_t0, ix_t1, M.bind_ok, eqM_str, ofS_inj, String.reduceEq, decide_true, decide_false, Bool.false_eq_true, if_true, if_false, addc1 hl, sh_clm (k := k) (htc1 h (a := a) (by omega)) (lenc1 hl) h2 (by omega)]
    rfl
  | bin o a b =>
    simp only [Sy.ht] at hs
    have ha : a.ht ≤ 150 := by omega
    have hb : b.ht ≤ 150 := by omega
    cases o <;>
    · simp only [su, Bop.s, ix_t0, ix_t1, ix_t2, M.bind_ok, eqM_str, ofS_inj, String.reduceEq, decide_true, decide_false, Bool.false_eq_true, if_true, if_false, addc1 hr, addc1 hl, addc2 hl, addc2 hr, sh_clm (k := k) h (by omega) (htc1 h2 (a := a) ha) (lenc1 hr), sh_clm (k := k) h (by omega) (htc1 h2 (a := b) hb) (lenc1 hr), sh_clm (k := k) h (by omega) (htc2 h2 ha hb) (lenc2 hr), sh_clm (k := k) (htc1 h (a := a) ha) (lenc1 hl) (htc1 h2 (a := b) hb) (lenc1 hr)]
      rfl
theorem known_len (l : List Sy) : (l.flatMap known1).length ≤ 2 * l.length := by
  induction l with
  | nil => simp
  | cons a l ih =>
    rw [List.flatMap_cons, List.length_append, List.length_cons]
    have : (known1 a).length ≤ 2 := by cases a <;> simp [known1]
    omega
theorem known_iff {x : Sy} : x ∈ l.flatMap known1 ↔ ∃ a, Sy.shown a ∈ l ∧ (x = .shown a ∨ x = a) := by
  rw [List.mem_flatMap]
  constructor
  · rintro ⟨y, hy, hx⟩
    cases y <;> simp only [known1, List.not_mem_nil, List.mem_cons, or_false] at hx
    exact ⟨_, hy, hx⟩
  · rintro ⟨a, ha, hx⟩
    exact ⟨_, ha, by simp only [known1, List.mem_cons, List.not_mem_nil, or_false]; exact hx⟩
theorem sh_up (h : ∀ s ∈ l, s.ht ≤ 150) (hl : l.length ≤ 1000) (a : Sy) (hs : a.ht < 150) : sh_further_up (k + 4) [.lst (l.map su), su (.shown a)] = res (upC l (.shown a)) := by
  have hk := known_len l
  have e : forN (fun v_known_2 x3 => ((ixM x3 (.int 0)).bind fun z4 => (eqM z4 (.str "shown")).bind fun b5 => if b5 = true then (ixM x3 (.int 1)).bind fun z6 => (extM v_known_2 (.lst [x3, z6])).bind fun l7 => M.ok l7 else .ok v_known_2).bind fun v_known_8 => .ok v_known_8) (l.map su) ([Sy.shown a].map su) = .ok (([Sy.shown a] ++ l.flatMap known1).map su) := by
    rw [forN_ext known1 l ([Sy.shown a].map su), List.map_append]
    · intro acc x _ hx
      cases x with
      | shown b =>
        simp only [su, ix_t0, ix_t1, M.bind_ok, eqM_str, ofS_inj, decide_true, if_true, known1]
        rw [extM_ok (by simpa [known1] using hx)]; rfl
      | no => simp [su, known1]
      | lt l => simp [su, known1]
      | not b => simp [su, known1]
      | bin o b c => cases o <;> simp [su, known1, Bop.s]
    · simp only [List.length_map, List.length_singleton]; omega
  have ec := sh_clm (k := k) (ls := [Sy.shown a] ++ l.flatMap known1) (rs := [a]) (fun s hs => by
    rcases List.mem_append.mp hs with z | z
    · rw [List.mem_singleton] at z; subst z; simp only [Sy.ht]; omega
    · obtain ⟨b, hb, e⟩ := known_iff.mp z
      have := h _ hb
      simp only [Sy.ht] at this
      rcases e with rfl | rfl
      · simp only [Sy.ht]; omega
      · omega) (by rw [List.length_append, List.length_singleton]; omega) (fun s hs => by rw [List.mem_singleton] at hs; subst hs; omega) (by simp)
  rw [sh_further_up, iterL_lst, M.bind_ok]
  refine Eq.trans (congrArg (fun m : M (List U) => m.bind _) e) ?_
  rw [M.bind_ok, show ixM (su (.shown a)) (.int 1) = .ok (su a) from ix_t1, M.bind_ok]
  refine Eq.trans (congrArg (fun m : M U => m.bind fun z11 => M.ok [z11]) ec) ?_
  rfl
end
inductive Rl | same | never | left | right | up
def Rl.s : Rl → Str | .same => "same" | .never => "never" | .left => "left" | .right => "right" | .up => "up"
/-- what a claim needs -/
def need (c : Cl) (r : Rl) (s : Sy) : Option (List Cl) := match r with
  | .same => if s ∈ c.1 ∧ s ∈ c.2 then some [] else none
  | .never => if s = .no ∧ s ∈ c.1 then some [] else none
  | .left => if s ∈ c.1 then fromL (wo c.1 s) c.2 s else none
  | .right => if s ∈ c.2 then fromR c.1 (wo c.2 s) s else none
  | .up => if s ∈ c.2 then upC c.1 s else none
/-- a claim of no great sayings -/
structure CB (c : Cl) : Prop where
  h1 : ∀ s ∈ c.1, s.ht ≤ 149
  h2 : ∀ s ∈ c.2, s.ht ≤ 149
  l1 : c.1.length ≤ 1000
  l2 : c.2.length ≤ 1000
theorem res_bind (o : Option (List Cl)) : (res o).bind (fun z => M.ok z) = res o := by cases o <;> rfl
theorem sh_need {k : Nat} {c : Cl} (B : CB c) (r : Rl) {s : Sy} (hs : s.ht ≤ 149) : sh_needed (k + 5) [clU c, .str r.s, su s] = res (need c r s) := by
  obtain ⟨l, rr⟩ := c
  have i1 : inM (su s) (.lst (l.map su)) = .ok (decide (s ∈ l)) := inM_su rfl (by omega)
  have i2 : inM (su s) (.lst (rr.map su)) = .ok (decide (s ∈ rr)) := inM_su rfl (by omega)
  have b1 := B.h1; have b2 := B.h2; have b3 := B.l1; have b4 := B.l2
  dsimp only at b1 b2 b3 b4
  rw [sh_needed, clU, un2_ok, M.bind_ok]
  dsimp only
  cases r with
  | same =>
    simp only [Rl.s, eqM_str, M.bind_ok, ofS_inj, String.reduceEq, decide_true, decide_false, Bool.false_eq_true, if_true, if_false, i1, i2, need]
    by_cases q1 : s ∈ l
    · by_cases q2 : s ∈ rr
      · simp [q1, q2, res]
      · simp [q1, q2, res]
    · simp [q1, res]
  | never =>
    have e0 : eqM (su s) (.tup [.str "no"]) = .ok (decide (s = .no)) := eqM_su (t := .no) (by simp only [Sy.ht]; omega)
    simp only [Rl.s, eqM_str, M.bind_ok, ofS_inj, String.reduceEq, decide_true, decide_false, Bool.false_eq_true, if_true, if_false, i1, e0, need]
    by_cases q1 : s = .no
    · subst q1
      by_cases q2 : Sy.no ∈ l
      · simp [q2, res]
      · simp [q2, res]
    · simp [q1, res]
  | left =>
    simp only [Rl.s, eqM_str, M.bind_ok, ofS_inj, String.reduceEq, decide_true, decide_false, Bool.false_eq_true, if_true, if_false, i1, need]
    by_cases q1 : s ∈ l
    · have e2 := sh_fromL (k := k) (l := wo l s) (r := rr) (fun x hx => by have := b1 x (wo_iff.mp hx).1; omega) (by have := wo_len l s; omega) (fun x hx => by have := b2 x hx; omega) (by omega) s (by omega)
      simp only [q1, decide_true, if_true]
      rw [sh_wo (by omega) (by omega), M.bind_ok, e2, res_bind]
    · simp [q1, res]
  | right =>
    simp only [Rl.s, eqM_str, M.bind_ok, ofS_inj, String.reduceEq, decide_true, decide_false, Bool.false_eq_true, if_true, if_false, i2, need]
    by_cases q1 : s ∈ rr
    · have e2 := sh_fromR (k := k) (l := l) (r := wo rr s) (fun x hx => by have := b1 x hx; omega) (by omega) (fun x hx => by have := b2 x (wo_iff.mp hx).1; omega) (by have := wo_len rr s; omega) s (by omega)
      simp only [q1, decide_true, if_true]
      rw [sh_wo (by omega) (by omega), M.bind_ok, e2, res_bind]
    · simp [q1, res]
  | up =>
    simp only [Rl.s, eqM_str, M.bind_ok, ofS_inj, String.reduceEq, decide_true, decide_false, Bool.false_eq_true, if_true, if_false, i2, need]
    cases s with
    | shown a =>
      simp only [Sy.ht] at hs
      rw [show ixM (su (.shown a)) (.int 0) = .ok (.str "shown") from ix_t0]
      simp only [M.bind_ok, eqM_str, decide_true, if_true]
      by_cases q1 : Sy.shown a ∈ rr
      · simp only [q1, decide_true, if_true]
        rw [sh_up (k := k) (fun x hx => by have := b1 x hx; omega) (by omega) a (by omega), res_bind]
      · simp [q1, res]
    | no => simp [su, upC, res]
    | lt l => simp [su, upC, res]
    | not b => simp [su, upC, res]
    | bin o b c => cases o <;> simp [su, upC, res, Bop.s]

/-! what the law's own reckoning tells of a claim's needs -/
theorem sh_lclm {k : Nat} {ls rs : List Sy} (h : ∀ s ∈ ls, s.ht ≤ 150) (hl : ls.length ≤ 1000000) (h2 : ∀ s ∈ rs, s.ht ≤ 150) (hl2 : rs.length ≤ 1000000) : sh__law_claim (k + 2) [.lst (ls.map su), .lst (rs.map su)] = .ok (clU (mkC ls rs)) := by
  rw [sh__law_claim, sh_unlG rfl (fun s hs => by have := h s hs; omega) hl, M.bind_ok, sh_unlG rfl (fun s hs => by have := h2 s hs; omega) hl2]; rfl
def optU : Option (List Cl) → U
  | some cs => .lst (cs.map clU)
  | none => .non
theorem inM_lstb {x : Str} {us : List U} {b : Bool} (h : (PyData.plainAll (pyUs us) && (pl (.str x) && decide (min (PyData.depthAll (pyUs us)) (dp (.str x)) ≤ 190))) = true) (h2 : (us.any fun e => PyData.eqv (pyU e) (pyU (.str x))) = b) : inM (.str x) (.lst us) = .ok b := by
  unfold inM seqU
  dsimp only
  rw [if_pos h, h2]
theorem in3_no {x : Str} (h : x ∈ [("no" : Str), "letter", "shown"]) : inM (.str x) (.lst [.str "and", .str "or", .str "if"]) = .ok false := by
  simp only [List.mem_cons, List.not_mem_nil, or_false] at h
  rcases h with rfl | rfl | rfl <;> exact inM_lstb (by decide +kernel) (by decide +kernel)
theorem in3_bin (o : Bop) : inM (.str o.s) (.lst [.str "and", .str "or", .str "if"]) = .ok true := by
  cases o <;> exact inM_lstb (by decide +kernel) (by decide +kernel)
section
variable {k : Nat} {l r : List Sy}
theorem sl_bin {o : Bop} {a b : Sy} : slM (su (.bin o a b)) (some 1) none = .ok (.tup [su a, su b]) := by rw [sl_su]; rfl
theorem sh_lapL (h : ∀ s ∈ l, s.ht ≤ 150) (hl : l.length ≤ 1000) (h2 : ∀ s ∈ r, s.ht ≤ 150) (hr : r.length ≤ 1000) (s : Sy) (hs : s.ht ≤ 150) : sh__law_apart (k + 3) [.lst (l.map su), .lst (r.map su), .str "left", su s] = .ok (optU (fromL l r s)) := by
  rw [sh__law_apart]
  cases s with
  | no => simp only [su, ix_t0, M.bind_ok, eqM_str, ofS_inj, String.reduceEq, decide_false, Bool.false_eq_true, if_false, nB_ok, in3_no (x := "no") (by simp), Bool.not_false, if_true]; rfl
  | lt a => simp only [su, ix_t0, M.bind_ok, eqM_str, ofS_inj, String.reduceEq, decide_false, Bool.false_eq_true, if_false, nB_ok, in3_no (x := "letter") (by simp), Bool.not_false, if_true]; rfl
  | shown a => simp only [su, ix_t0, M.bind_ok, eqM_str, ofS_inj, String.reduceEq, decide_false, Bool.false_eq_true, if_false, nB_ok, in3_no (x := "shown") (by simp), Bool.not_false, if_true]; rfl
  | not a =>
    simp only [Sy.ht] at hs
    simp only [su, ix_t0, ix_t1, M.bind_ok, eqM_str, ofS_inj, String.reduceEq, decide_true, decide_false, Bool.false_eq_true, if_true, if_false, addc1 hr, sh_lclm (k := k) h (by omega) (htc1 h2 (a := a) (by omega)) (lenc1 hr)]
    rfl
  | bin o a b =>
    simp only [Sy.ht] at hs
    have ha : a.ht ≤ 150 := by omega
    have hb : b.ht ≤ 150 := by omega
    rw [show ixM (su (.bin o a b)) (.int 0) = .ok (.str o.s) from ix_t0, M.bind_ok, eqM_str, show decide (o.s = ("not" : Str)) = false from by cases o <;> decide, M.bind_ok, if_neg (by simp), nB_ok, in3_bin, M.bind_ok, M.bind_ok, if_neg (by simp), endM_int, M.bind_ok, sl_bin, M.bind_ok, un2_ok, M.bind_ok]
    dsimp only
    cases o <;>
    · simp only [Bop.s, M.bind_ok, eqM_str, ofS_inj, String.reduceEq, decide_true, decide_false, Bool.false_eq_true, if_true, if_false, addc1 hr, addc1 hl, addc2 hl, addc2 hr, sh_lclm (k := k) h (by omega) (htc1 h2 (a := a) ha) (lenc1 hr), sh_lclm (k := k) (htc1 h (a := a) ha) (lenc1 hl) h2 (by omega), sh_lclm (k := k) (htc1 h (a := b) hb) (lenc1 hl) h2 (by omega), sh_lclm (k := k) (htc2 h ha hb) (lenc2 hl) h2 (by omega)]
      rfl
theorem sh_lapR (h : ∀ s ∈ l, s.ht ≤ 150) (hl : l.length ≤ 1000) (h2 : ∀ s ∈ r, s.ht ≤ 150) (hr : r.length ≤ 1000) (s : Sy) (hs : s.ht ≤ 150) : sh__law_apart (k + 3) [.lst (l.map su), .lst (r.map su), .str "right", su s] = .ok (optU (fromR l r s)) := by
  rw [sh__law_apart]
  cases s with
  | no => simp only [su, ix_t0, M.bind_ok, eqM_str, ofS_inj, String.reduceEq, decide_false, Bool.false_eq_true, if_false, nB_ok, in3_no (x := "no") (by simp), Bool.not_false, if_true]; rfl
  | lt a => simp only [su, ix_t0, M.bind_ok, eqM_str, ofS_inj, String.reduceEq, decide_false, Bool.false_eq_true, if_false, nB_ok, in3_no (x := "letter") (by simp), Bool.not_false, if_true]; rfl
  | shown a => simp only [su, ix_t0, M.bind_ok, eqM_str, ofS_inj, String.reduceEq, decide_false, Bool.false_eq_true, if_false, nB_ok, in3_no (x := "shown") (by simp), Bool.not_false, if_true]; rfl
  | not a =>
    simp only [Sy.ht] at hs
    simp only [su, ix_t0, ix_t1, M.bind_ok, eqM_str, ofS_inj, String.reduceEq, decide_true, decide_false, Bool.false_eq_true, if_true, if_false, addc1 hl, sh_lclm (k := k) (htc1 h (a := a) (by omega)) (lenc1 hl) h2 (by omega)]
    rfl
  | bin o a b =>
    simp only [Sy.ht] at hs
    have ha : a.ht ≤ 150 := by omega
    have hb : b.ht ≤ 150 := by omega
    rw [show ixM (su (.bin o a b)) (.int 0) = .ok (.str o.s) from ix_t0, M.bind_ok, eqM_str, show decide (o.s = ("not" : Str)) = false from by cases o <;> decide, M.bind_ok, if_neg (by simp), nB_ok, in3_bin, M.bind_ok, M.bind_ok, if_neg (by simp), endM_int, M.bind_ok, sl_bin, M.bind_ok, un2_ok, M.bind_ok]
    dsimp only
    cases o <;>
    · simp only [Bop.s, M.bind_ok, eqM_str, ofS_inj, String.reduceEq, decide_true, decide_false, Bool.false_eq_true, if_true, if_false, addc1 hr, addc1 hl, addc2 hl, addc2 hr, sh_lclm (k := k) h (by omega) (htc1 h2 (a := a) ha) (lenc1 hr), sh_lclm (k := k) h (by omega) (htc1 h2 (a := b) hb) (lenc1 hr), sh_lclm (k := k) h (by omega) (htc2 h2 ha hb) (lenc2 hr), sh_lclm (k := k) (htc1 h (a := a) ha) (lenc1 hl) (htc1 h2 (a := b) hb) (lenc1 hr)]
      rfl
end
theorem ne_comp {l : List Sy} {s : Sy} (h : s.ht ≤ 190) (hl : l.length ≤ 1000000) : compF (fun x15 => ((nB eqM) x15 (su s)).bind fun b17 => M.ok b17) (fun x15 => M.ok x15) (l.map su) = .ok ((wo l s).map su) := by
  rw [compF_ok su (fun x => decide (x ≠ s)) su (by omega) (fun x _ => by rw [nB_ok, eqM_su (by omega), M.bind_ok, M.bind_ok]; congr 1; rw [Bool.eq_iff_iff]; simp) (fun _ _ _ => rfl)]; rfl
def kidU (s : Sy) : Sy := match s with
  | .shown a => a
  | s => s
theorem kidU_ht (s : Sy) : (kidU s).ht ≤ s.ht := by cases s <;> simp [kidU, Sy.ht]
theorem sh_lneed {k : Nat} {c : Cl} (B : CB c) (r : Rl) {s : Sy} (hs : s.ht ≤ 149) : sh__law_needed (k + 4) [clU c, .str r.s, su s] = .ok (optU (need c r s)) := by
  obtain ⟨l, rr⟩ := c
  have i1 : inM (su s) (.lst (l.map su)) = .ok (decide (s ∈ l)) := inM_su rfl (by omega)
  have i2 : inM (su s) (.lst (rr.map su)) = .ok (decide (s ∈ rr)) := inM_su rfl (by omega)
  have e0 : eqM (su s) (.tup [.str "no"]) = .ok (decide (s = .no)) := eqM_su (t := .no) (by simp only [Sy.ht]; omega)
  have b1 := B.h1; have b2 := B.h2; have b3 := B.l1; have b4 := B.l2
  dsimp only at b1 b2 b3 b4
  rw [sh__law_needed, clU, un2_ok, M.bind_ok]
  dsimp only
  cases r with
  | same =>
    simp only [Rl.s, eqM_str, M.bind_ok, ofS_inj, String.reduceEq, decide_true, decide_false, Bool.false_eq_true, if_true, if_false, i1, i2, need]
    by_cases q1 : s ∈ l
    · by_cases q2 : s ∈ rr
      · simp [q1, q2, optU]
      · simp [q1, q2, optU]
    · simp [q1, optU]
  | never =>
    simp only [Rl.s, eqM_str, M.bind_ok, ofS_inj, String.reduceEq, decide_true, decide_false, Bool.false_eq_true, if_true, if_false, i1, e0, need]
    by_cases q1 : s = .no
    · subst q1
      by_cases q2 : Sy.no ∈ l
      · simp [q2, optU]
      · simp [q2, optU]
    · simp [q1, optU]
  | left =>
    simp only [Rl.s, eqM_str, M.bind_ok, ofS_inj, String.reduceEq, decide_true, decide_false, Bool.false_eq_true, if_true, if_false, i1, need]
    by_cases q1 : s ∈ l
    · have e2 := sh_lapL (k := k) (l := wo l s) (r := rr) (fun x hx => by have := b1 x (wo_iff.mp hx).1; omega) (by have := wo_len l s; omega) (fun x hx => by have := b2 x hx; omega) (by omega) s (by omega)
      simp only [q1, decide_true, if_true]
      rw [iterL_lst, M.bind_ok, ne_comp (by omega) (by omega), M.bind_ok, e2, M.bind_ok]
    · simp [q1, optU]
  | right =>
    simp only [Rl.s, eqM_str, M.bind_ok, ofS_inj, String.reduceEq, decide_true, decide_false, Bool.false_eq_true, if_true, if_false, i2, need]
    by_cases q1 : s ∈ rr
    · have e2 := sh_lapR (k := k) (l := l) (r := wo rr s) (fun x hx => by have := b1 x hx; omega) (by omega) (fun x hx => by have := b2 x (wo_iff.mp hx).1; omega) (by have := wo_len rr s; omega) s (by omega)
      simp only [q1, decide_true, if_true]
      rw [iterL_lst, M.bind_ok, ne_comp (by omega) (by omega), M.bind_ok, e2, M.bind_ok]
    · simp [q1, optU]
  | up =>
    simp only [Rl.s, eqM_str, M.bind_ok, ofS_inj, String.reduceEq, decide_true, decide_false, Bool.false_eq_true, if_true, if_false, i2, need]
    cases s with
    | shown a =>
      simp only [Sy.ht] at hs
      rw [show ixM (su (.shown a)) (.int 0) = .ok (.str "shown") from ix_t0, show ixM (su (.shown a)) (.int 1) = .ok (su a) from ix_t1]
      simp only [M.bind_ok, eqM_str, decide_true, if_true]
      by_cases q1 : Sy.shown a ∈ rr
      · simp only [q1, decide_true, if_true]
        have hf := List.length_filter_le isShown l
        have hx1 : ∀ x ∈ l.filter isShown, x.ht ≤ 149 := fun x hx => b1 x (List.mem_filter.mp hx).1
        have ec := sh_lclm (k := k + 1) (ls := (l.filter isShown ++ (l.filter isShown).map kidU) ++ [.shown a]) (rs := [a]) (fun x hx => by
          simp only [List.mem_append, List.mem_map, List.mem_singleton] at hx
          rcases hx with (z | ⟨y, hy, rfl⟩) | rfl
          · have := hx1 x z; omega
          · have := hx1 y hy
            have := kidU_ht y
            omega
          · simp only [Sy.ht]; omega) (by simp only [List.length_append, List.length_map, List.length_singleton]; omega) (fun x hx => by rw [List.mem_singleton] at hx; subst hx; omega) (by simp)
        rw [M.bind_ok, if_pos rfl, iterL_lst, M.bind_ok, compF_ok su isShown su (by omega) (fun x _ => by
          rw [ix_su0, M.bind_ok, eqM_str, M.bind_ok]
          congr 1
          cases x with
          | bin o a b => cases o <;> rfl
          | _ => rfl) (fun _ _ _ => rfl), M.bind_ok, iterL_lst, M.bind_ok, compM_ok su (fun x => su (kidU x)) (by omega) (fun x hx => by
          have := (List.mem_filter.mp hx).2
          cases x with
          | shown b => rfl
          | _ => simp [isShown] at this), M.bind_ok, addM_lst (by simp only [List.length_map]; omega), M.bind_ok, addM_lst (by simp only [List.length_append, List.length_map, List.length_singleton]; omega), M.bind_ok]
        have em : (l.filter isShown).map su ++ (l.filter isShown).map (fun x => su (kidU x)) ++ [su (.shown a)] = ((l.filter isShown ++ (l.filter isShown).map kidU) ++ [Sy.shown a]).map su := by
          rw [List.map_append, List.map_append, List.map_map]; rfl
        have ek : mkC ((l.filter isShown ++ (l.filter isShown).map kidU) ++ [Sy.shown a]) [a] = mkC (.shown a :: l.flatMap known1) [a] := by
          unfold mkC
          congr 1
          refine setS_ext fun x => ?_
          simp only [List.mem_append, List.mem_map, List.mem_cons, List.not_mem_nil, or_false, known_iff, List.mem_filter]
          constructor
          · rintro ((⟨z, h⟩ | ⟨y, ⟨z, h⟩, rfl⟩) | h)
            · cases x with
              | shown b => exact .inr ⟨b, z, .inl rfl⟩
              | _ => simp [isShown] at h
            · cases y with
              | shown b => exact .inr ⟨b, z, .inr rfl⟩
              | _ => simp [isShown] at h
            · exact .inl h
          · rintro (h | ⟨b, z, rfl | rfl⟩)
            · exact .inr h
            · exact .inl (.inl ⟨z, rfl⟩)
            · exact .inl (.inr ⟨.shown _, ⟨z, rfl⟩, rfl⟩)
        have ec : sh__law_claim (k + 3) [.lst (((l.filter isShown ++ (l.filter isShown).map kidU) ++ [Sy.shown a]).map su), .lst [su a]] = _ := ec
        rw [em, ec, M.bind_ok, ek]; rfl
      · simp [q1, optU]
    | no => simp [su, upC, optU]
    | lt l => simp [su, upC, optU]
    | not b => simp [su, upC, optU]
    | bin o b c => cases o <;> simp [su, upC, optU, Bop.s]


section
variable {k : Nat} {ls rs : List Sy}
end

/-- marks: which of p, q, r -/
structure Ms where
  p : Bool
  q : Bool
  r : Bool
def Ms.s : Ms → Str
  | ⟨false, false, false⟩ => ""
  | ⟨true, false, false⟩ => "p"
  | ⟨false, true, false⟩ => "q"
  | ⟨true, true, false⟩ => "pq"
  | ⟨false, false, true⟩ => "r"
  | ⟨true, false, true⟩ => "pr"
  | ⟨false, true, true⟩ => "qr"
  | ⟨true, true, true⟩ => "pqr"
def Ms.has : Ms → Lt → Bool
  | m, .p => m.p
  | m, .q => m.q
  | m, .r => m.r
/-- a room -/
structure Rm where
  b : Int
  m : Ms
def uR (x : Rm) : U := .tup [.int x.b, .str x.m.s]
/-- a tree's rooms -/
structure Tree (rs : List Rm) : Prop where
  ne : 0 < rs.length
  top : ∀ x, rs[0]? = some x → x.b = -1
  up : ∀ (k : Nat) (x : Rm), 0 < k → rs[k]? = some x → 0 ≤ x.b ∧ x.b < (k : Int)
/-- what a room stands on -/
def par (rs : List Rm) (k : Nat) : Nat := match rs[k]? with
  | some x => x.b.toNat
  | none => 0
/-- by how many rooms one comes from k down to r; 0: not at all -/
def dn (p : Nat → Nat) (r k : Nat) : Nat := if k ≤ r then 0 else if p k = r then 1 else if h : p k < k then (match dn p r (p k) with
  | 0 => 0
  | d + 1 => d + 2) else 0
termination_by k
def Bop.ev : Bop → Bool → Bool → Bool
  | .and, a, b => a && b
  | .or, a, b => a || b
  | .iff, a, b => !a || b
def mk (rs : List Rm) (k : Nat) (l : Lt) : Bool := match rs[k]? with
  | some x => x.m.has l
  | none => false
/-- whether a saying holds in a room -/
def val (rs : List Rm) : Sy → Nat → Bool
  | .no, _ => false
  | .lt l, k => mk rs k l
  | .not a, k => !val rs a k
  | .shown a, k => (List.range rs.length).all fun j => !decide (0 < dn (par rs) k j) || val rs a j
  | .bin o a b, k => o.ev (val rs a k) (val rs b k)
/-- where a claim holds -/
def clv (rs : List Rm) (c : Cl) (k : Nat) : Bool := (c.1.any fun s => !val rs s k) || c.2.any fun s => val rs s k
/-! the law's own reckoning -/
/-- a tree told by marks and the trees that stand on its first room -/
inductive Tr where
  | node (m : Ms) (ts : List Tr)
def Tr.m : Tr → Ms
  | .node m _ => m
def Tr.ts : Tr → List Tr
  | .node _ ts => ts
mutual
def desc : Tr → List Tr
  | .node _ ts => descs ts
def descs : List Tr → List Tr
  | [] => []
  | t :: ts => t :: (desc t ++ descs ts)
end
mutual
def hgt : Tr → Nat
  | .node _ ts => hgts ts + 1
def hgts : List Tr → Nat
  | [] => 0
  | t :: ts => max (hgt t) (hgts ts)
end
mutual
def tsz : Tr → Nat
  | .node _ ts => tszs ts + 1
def tszs : List Tr → Nat
  | [] => 0
  | t :: ts => tsz t + tszs ts
end
/-- whether a saying holds in the first room -/
def tv : Sy → Tr → Bool
  | .no, _ => false
  | .lt l, t => t.m.has l
  | .not a, t => !tv a t
  | .shown a, t => (desc t).all fun u => tv a u
  | .bin o a b, t => o.ev (tv a t) (tv b t)
def clt (t : Tr) (c : Cl) : Bool := (c.1.any fun s => !tv s t) || c.2.any fun s => tv s t
section
variable {α : Type} [DecidableEq α]
end
/-- how many words outside of shown -/
def cn : Sy → Nat
  | .no => 0
  | .lt _ => 0
  | .not a => cn a + 1
  | .shown _ => 0
  | .bin _ a b => cn a + cn b + 1
def brk : Sy → Bool
  | .not _ => true
  | .bin _ _ _ => true
  | _ => false
def kidS : Sy → Sy
  | .shown a => a
  | s => s
def wl (l : List Sy) : Nat := (l.map cn).sum
def wC (c : Cl) : Nat := wl c.1 + wl c.2
/-- a set of sayings with all their parts -/
structure UQ (Q : List Sy) : Prop where
  kid : ∀ s ∈ Q, ∀ x ∈ s.kids, x ∈ Q
  ht : ∀ s ∈ Q, s.ht ≤ 149
  sz : ∀ s ∈ Q, s.size ≤ 200
  rise : Rise Q
  len : Q.length ≤ 200
/-- a claim told sorted, of these sayings -/
structure WF (Q : List Sy) (c : Cl) : Prop where
  r1 : Rise c.1
  r2 : Rise c.2
  q1 : ∀ s ∈ c.1, s ∈ Q
  q2 : ∀ s ∈ c.2, s ∈ Q
/-- how many shown sayings are not known -/
def ups (Q : List Sy) (c : Cl) : Nat := (Q.filter fun s => isShown s && !decide (s ∈ c.1)).length
/-- what is first taken apart -/
def first (c : Cl) : Option (Rl × Sy) := match c.1.find? brk with
  | some s => some (.left, s)
  | none => match c.2.find? brk with
    | some s => some (.right, s)
    | none => none
section
variable {Q : List Sy} (u : UQ Q)
include u
end
def SL (Q : List Sy) : List Sy := Q.filter isShown
def SPw (Q : List Sy) : Nat := ((SL Q).map fun s => cn (kidS s)).sum
def mu (Q : List Sy) (c : Cl) : Nat := ups Q c * (SPw Q + 1) + wC c
section
variable {Q : List Sy} (u : UQ Q)
include u
end
/-- how many rooms a tree may have -/
def NN : Nat → Nat
  | 0 => 1
  | n + 1 => 1 + (n + 1) * NN n
structure Stp where
  c : Cl
  r : Rl
  s : Sy
  us : List Nat
def stpU (x : Stp) : U := .tup [.lst (x.c.1.map su), .lst (x.c.2.map su), .str x.r.s, su x.s, .lst (x.us.map fun n => .int (n : Nat))]
/-- the steps are a showing, each by what stands ahead of it -/
def Good (S : List Stp) : Prop := ∀ (i : Nat) (x : Stp), S[i]? = some x → mkC x.c.1 x.c.2 = x.c ∧ ∃ cs, need x.c x.r x.s = some cs ∧ x.us.length = cs.length ∧ ∀ (j : Nat) (d : Cl), cs[j]? = some d → ∃ (n : Nat) (y : Stp), x.us[j]? = some n ∧ n < i ∧ S[n]? = some y ∧ y.c = d
inductive Rz where
  | st (n : Nat)
  | tr (t : Tr)
section
variable {Q : List Sy}
/-- what is found for a claim is right -/
def Right (Q : List Sy) (S : List Stp) : Rz → Cl → Prop
  | .st n, c => ∃ x : Stp, S[n]? = some x ∧ x.c = c
  | .tr t, c => clt t c = false ∧ hgt t ≤ ups Q c + 1 ∧ tsz t ≤ NN (ups Q c)
theorem pre_getS {S S' : List Stp} (p : S <+: S') {n : Nat} {x : Stp} (h : S[n]? = some x) : S'[n]? = some x := by
  obtain ⟨t, rfl⟩ := p
  rw [List.getElem?_append_left (List.getElem?_eq_some_iff.mp h).1]; exact h
theorem Right.mono {S S' : List Stp} (p : S <+: S') {r : Rz} {c : Cl} (h : Right Q S r c) : Right Q S' r c := by
  cases r with
  | st n => obtain ⟨x, h1, h2⟩ := h; exact ⟨x, pre_getS p h1, h2⟩
  | tr t => exact h
/-- what stands fast while a search goes on -/
structure SI (Q : List Sy) (R : List Cl) (S : List Stp) (E : List (Cl × Rz)) : Prop where
  good : Good S
  nd : (E.map (·.1)).Nodup
  inR : ∀ e ∈ E, e.1 ∈ R
  right : ∀ e ∈ E, Right Q S e.2 e.1
  len : S.length ≤ E.length
  wf : ∀ x ∈ S, WF Q x.c
end

section
variable {Q : List Sy} {R : List Cl}
/-- what looking at a claim comes to -/
structure SO (Q : List Sy) (R : List Cl) (c : Cl) (S : List Stp) (E : List (Cl × Rz)) (r : Rz) (S' : List Stp) (E' : List (Cl × Rz)) : Prop where
  pre : S <+: S'
  good : Good S'
  nd : (E'.map (·.1)).Nodup
  inR : ∀ e ∈ E', e.1 ∈ R
  right : ∀ e ∈ E', Right Q S' e.2 e.1
  len : S'.length ≤ E'.length + 1
  is : Right Q S' r c
  old : ∀ e ∈ E', e ∈ E ∨ mu Q e.1 + 1 ≤ mu Q c
  last : ∀ n, r = .st n → n + 1 = S'.length
  wf : ∀ x ∈ S', WF Q x.c
end

section
variable {Q : List Sy} {R : List Cl}
end

section
variable {Q : List Sy} {R : List Cl}
end

/-- how many words in all -/
def op : Sy → Nat
  | .no => 0
  | .lt _ => 0
  | .not a => op a + 1
  | .shown a => op a + 1
  | .bin _ a b => op a + op b + 1
def nsh : Sy → Nat
  | .no => 0
  | .lt _ => 0
  | .not a => nsh a
  | .shown a => nsh a + 1
  | .bin _ a b => nsh a + nsh b
def wop (ss : List Sy) : Nat := (ss.map fun s => op s + 1).sum
def wns (ss : List Sy) : Nat := (ss.map nsh).sum
theorem wop_snoc (ss : List Sy) (s : Sy) : wop (ss ++ [s]) = wop ss + (op s + 1) := by unfold wop; rw [List.map_append, List.sum_append]; simp
theorem wns_snoc (ss : List Sy) (s : Sy) : wns (ss ++ [s]) = wns ss + nsh s := by unfold wns; rw [List.map_append, List.sum_append]; simp
theorem len_wop : ∀ ss : List Sy, ss.length ≤ wop ss
  | [] => by simp [wop]
  | s :: ss => by have := len_wop ss; unfold wop at *; rw [List.map_cons, List.sum_cons, List.length_cons]; omega
/-- a stack of at most n words, m of them shown -/
def Sts (n m : Nat) (l : List U) : Prop := ∃ ss : List Sy, l = ss.map su ∧ ss ≠ [] ∧ wop ss ≤ n ∧ wns ss ≤ m
theorem Sts.mono {n n' m m' : Nat} {l : List U} (h : Sts n m l) (i : n ≤ n') (j : m ≤ m') : Sts n' m' l := by obtain ⟨s, h1, h2, h3, h4⟩ := h; exact ⟨s, h1, h2, by omega, by omega⟩
theorem Sts.pop1 {n m : Nat} {l : List U} (h : Sts n m l) : ∃ (a : Sy) (ss : List Sy), popM l = .ok (su a, ss.map su) ∧ wop ss + (op a + 1) ≤ n ∧ wns ss + nsh a ≤ m := by
  obtain ⟨s, rfl, h2, h3, h4⟩ := h
  obtain ⟨ys, y, rfl⟩ := snoc_of h2
  exact ⟨y, ys, by rw [List.map_append, List.map_cons, List.map_nil, popM_last], by rw [wop_snoc] at h3; omega, by rw [wns_snoc] at h4; omega⟩
theorem push_s {ss : List Sy} {t : Sy} {n m : Nat} (h : wop ss + (op t + 1) ≤ n) (h2 : wns ss + nsh t ≤ m) (hn : n < 10000000) : Ok (appM (ss.map su) (su t)) (Sts n m) := by
  refine ⟨_, appM_ok (by rw [List.length_map]; have := len_wop ss; omega), ss ++ [t], by simp, by simp, by rw [wop_snoc]; exact h, by rw [wns_snoc]; exact h2⟩
theorem Sts.push {n m : Nat} {l : List U} {y : Sy} (h : Sts n m l) (hn : n < 1000000) (hy : op y ≤ 1000) : Ok (appM l (su y)) (Sts (n + (op y + 1)) (m + nsh y)) := by
  obtain ⟨s, rfl, h2, h3, h4⟩ := h
  exact push_s (by omega) (by omega) (by omega)
theorem Sts.two {n m : Nat} {l : List U} (h : Sts n m l) (hl : 2 ≤ l.length) : ∃ (a b : Sy) (ss : List Sy), popM l = .ok (su b, (ss ++ [a]).map su) ∧ popM ((ss ++ [a]).map su) = .ok (su a, ss.map su) ∧ wop ss + (op a + 1 + (op b + 1)) ≤ n ∧ wns ss + (nsh a + nsh b) ≤ m ∧ l.length = ss.length + 2 := by
  obtain ⟨s, rfl, h2, h3, h4⟩ := h
  rw [List.length_map] at hl
  obtain ⟨ys, y, z, rfl⟩ := snoc2_of hl
  refine ⟨y, z, ys, by rw [List.map_append, List.map_cons, List.map_nil, popM_last], by rw [List.map_append, List.map_cons, List.map_nil, popM_last], ?_, ?_, by simp⟩
  · rw [wop_snoc, wop_snoc] at h3; omega
  · rw [wns_snoc, wns_snoc] at h4; omega
mutual
theorem tsz_pos : ∀ t : Tr, 0 < tsz t
  | .node _ ts => by rw [tsz]; omega
end
/-- the queue: what a room stands on, and the tree that begins there -/
abbrev Qu := List (Int × Tr)
structure QI (t0 : Tr) (n : Nat) (W : Qu) : Prop where
  le : n ≤ W.length
  top : W[0]? = some (-1, t0)
  par : ∀ (j : Nat) (x : Int × Tr), 0 < j → W[j]? = some x → ∃ (p : Nat) (y : Int × Tr), x.1 = (p : Nat) ∧ p < j ∧ p < n ∧ W[p]? = some y ∧ x.2 ∈ y.2.ts
  kid : ∀ (p : Nat) (y : Int × Tr), p < n → W[p]? = some y → ∀ u ∈ y.2.ts, ∃ (j : Nat) (x : Int × Tr), 0 < j ∧ W[j]? = some x ∧ x.1 = (p : Nat) ∧ x.2 = u
  sum : n + ((W.drop n).map fun x => tsz x.2).sum = tsz t0
theorem sum_len {l : List (Int × Tr)} : l.length ≤ (l.map fun x => tsz x.2).sum := by
  induction l with
  | nil => simp
  | cons a l ih => rw [List.map_cons, List.sum_cons, List.length_cons]; have := tsz_pos a.2; omega
theorem QI.len {t0 : Tr} {n : Nat} {W : Qu} (h : QI t0 n W) : W.length ≤ tsz t0 := by
  have h1 := h.sum
  have h2 := h.le
  have h3 := sum_len (l := W.drop n)
  rw [List.length_drop] at h3
  omega
/-- what a search tells of a claim -/
inductive Told (c : Cl) (n : Nat) : U → Prop where
  | shows (S : List Stp) (x : Stp) (g : Good S) (hl : S.length ≤ 9000000) (h : S.getLast? = some x) (e : x.c = c) (hc : ∀ y ∈ S, CB y.c ∧ y.s.ht ≤ 149) : Told c n (.tup [.str "showing", .lst (S.map stpU)])
  | tree (rs : List Rm) (T : Tree rs) (hl : rs.length ≤ 2000) (hw : ∀ f : Nat → Nat, f 0 = 1 → (∀ j, 0 < j → j < rs.length → f j = f (par rs j) + 1) → ∀ j, j < rs.length → f j ≤ n + 1) (h : clv rs c 0 = false) (t : Tr) (ht : clt t c = false) : Told c n (.tup [.str "tree", .lst (rs.map uR)])
/-! what the law asks of a showing told -/
theorem pl_cl (c : Cl) : pl (clU c) = true := pl_tup two_pl
theorem mkC_all {P : Sy → Prop} {l r : List Sy} (h : ∀ x ∈ l, P x) (h2 : ∀ x ∈ r, P x) : ∀ x ∈ (mkC l r).1 ++ (mkC l r).2, P x := fun x hx => by
  rcases List.mem_append.mp hx with z | z
  · exact h x (setS_iff.mp z)
  · exact h2 x (setS_iff.mp z)
theorem need_CB {c : Cl} (B : ∀ s ∈ c.1 ++ c.2, s.ht ≤ 100) {r : Rl} {s : Sy} {cs : List Cl} (h : need c r s = some cs) : cs.length ≤ 2 ∧ ∀ d ∈ cs, ∀ x ∈ d.1 ++ d.2, x.ht ≤ 100 := by
  obtain ⟨l, rr⟩ := c
  have b1 : ∀ x ∈ l, x.ht ≤ 100 := fun x hx => B x (List.mem_append_left _ hx)
  have b2 : ∀ x ∈ rr, x.ht ≤ 100 := fun x hx => B x (List.mem_append_right _ hx)
  have w1 : ∀ x ∈ wo l s, x.ht ≤ 100 := fun x hx => b1 x (wo_iff.mp hx).1
  have w2 : ∀ x ∈ wo rr s, x.ht ≤ 100 := fun x hx => b2 x (wo_iff.mp hx).1
  have a1 : ∀ {l : List Sy} {a : Sy}, (∀ x ∈ l, x.ht ≤ 100) → a.ht ≤ 100 → ∀ x ∈ l ++ [a], x.ht ≤ 100 := fun h ha x hx => by
    rcases List.mem_append.mp hx with z | z
    · exact h x z
    · rw [List.mem_singleton] at z; subst z; exact ha
  have a2 : ∀ {l : List Sy} {a b : Sy}, (∀ x ∈ l, x.ht ≤ 100) → a.ht ≤ 100 → b.ht ≤ 100 → ∀ x ∈ l ++ [a, b], x.ht ≤ 100 := fun h ha hb x hx => by
    rcases List.mem_append.mp hx with z | z
    · exact h x z
    · simp only [List.mem_cons, List.not_mem_nil, or_false] at z
      rcases z with rfl | rfl
      · exact ha
      · exact hb
  have one : ∀ {d : Cl}, (∀ x ∈ d.1 ++ d.2, x.ht ≤ 100) → [d].length ≤ 2 ∧ ∀ e ∈ [d], ∀ x ∈ e.1 ++ e.2, x.ht ≤ 100 := fun h => ⟨by simp, fun e he => by rw [List.mem_singleton] at he; subst he; exact h⟩
  have two : ∀ {d d' : Cl}, (∀ x ∈ d.1 ++ d.2, x.ht ≤ 100) → (∀ x ∈ d'.1 ++ d'.2, x.ht ≤ 100) → [d, d'].length ≤ 2 ∧ ∀ e ∈ [d, d'], ∀ x ∈ e.1 ++ e.2, x.ht ≤ 100 := fun h h2 => ⟨by simp, fun e he => by
    simp only [List.mem_cons, List.not_mem_nil, or_false] at he
    rcases he with rfl | rfl
    · exact h
    · exact h2⟩
  cases r with
  | same =>
    unfold need at h
    dsimp only at h
    split at h
    · cases h; simp
    · cases h
  | never =>
    unfold need at h
    dsimp only at h
    split at h
    · cases h; simp
    · cases h
  | left =>
    unfold need at h
    dsimp only at h
    split at h
    · rename_i q
      have hs := b1 s q
      cases s with
      | no => cases h
      | lt a => cases h
      | shown a => cases h
      | not a =>
        simp only [Sy.ht] at hs
        cases h
        exact one (mkC_all w1 (a1 b2 (by omega)))
      | bin o a b =>
        simp only [Sy.ht] at hs
        have ha : a.ht ≤ 100 := by omega
        have hb : b.ht ≤ 100 := by omega
        cases o with
        | and => cases h; exact one (mkC_all (a2 w1 ha hb) b2)
        | or => cases h; exact two (mkC_all (a1 w1 ha) b2) (mkC_all (a1 w1 hb) b2)
        | iff => cases h; exact two (mkC_all w1 (a1 b2 ha)) (mkC_all (a1 w1 hb) b2)
    · cases h
  | right =>
    unfold need at h
    dsimp only at h
    split at h
    · rename_i q
      have hs := b2 s q
      cases s with
      | no => cases h
      | lt a => cases h
      | shown a => cases h
      | not a =>
        simp only [Sy.ht] at hs
        cases h
        exact one (mkC_all (a1 b1 (by omega)) w2)
      | bin o a b =>
        simp only [Sy.ht] at hs
        have ha : a.ht ≤ 100 := by omega
        have hb : b.ht ≤ 100 := by omega
        cases o with
        | and => cases h; exact two (mkC_all b1 (a1 w2 ha)) (mkC_all b1 (a1 w2 hb))
        | or => cases h; exact one (mkC_all b1 (a2 w2 ha hb))
        | iff => cases h; exact one (mkC_all (a1 b1 ha) (a1 w2 hb))
    · cases h
  | up =>
    unfold need at h
    dsimp only at h
    split at h
    · rename_i q
      have hs := b2 s q
      cases s with
      | shown a =>
        simp only [Sy.ht] at hs
        cases h
        refine one (mkC_all (fun x hx => ?_) fun x hx => by rw [List.mem_singleton] at hx; subst hx; omega)
        rcases List.mem_cons.mp hx with rfl | hx
        · simp only [Sy.ht]; omega
        · obtain ⟨b, hb, e⟩ := known_iff.mp hx
          have := b1 _ hb
          rcases e with rfl | rfl
          · exact this
          · simp only [Sy.ht] at this; omega
      | _ => cases h
    · cases h

/-! lists that nobody may change are read as lists -/
theorem fz_itL (us : List U) : iterL (.fzl us) = iterL (.lst us) := rfl
theorem fz_in (x : U) (us : List U) : inM x (.fzl us) = inM x (.lst us) := rfl
theorem fz_ad1 (us ws : List U) : addM (.fzl us) (.lst ws) = addM (.lst us) (.lst ws) := rfl
theorem fz_srt (us : List U) : sortedM (.fzl us) = sortedM (.lst us) := rfl
def clF (c : Cl) : U := .tup [.fzl (c.1.map su), .fzl (c.2.map su)]
theorem fz_pyc (l r : List U) : pyU (.tup [.fzl l, .fzl r]) = pyU (.tup [.lst l, .lst r]) := by simp only [pyU, pyUs]
theorem fz_pc (c : Cl) : pyU (clF c) = pyU (clU c) := fz_pyc _ _
theorem fz_eq (c : Cl) (u : U) : eqM (clF c) u = eqM (clU c) u := by unfold eqM pl dp; rw [fz_pc]
mutual
theorem frz_su : ∀ s : Sy, frzU (su s) = true
  | .no => rfl
  | .lt _ => rfl
  | .not a => by show (true && (frzU (su a) && true)) = true; rw [frz_su a]; rfl
  | .shown a => by show (true && (frzU (su a) && true)) = true; rw [frz_su a]; rfl
  | .bin _ a b => by show (true && (frzU (su a) && (frzU (su b) && true))) = true; rw [frz_su a, frz_su b]; rfl
end
theorem frz_sus : ∀ l : List Sy, frzUs (l.map su) = true
  | [] => rfl
  | a :: l => by show (frzU (su a) && frzUs (l.map su)) = true; rw [frz_su a, frz_sus l]; rfl
theorem frz_cl (c : Cl) : frzU (clF c) = true := by
  show (frzUs (c.1.map su) && (frzUs (c.2.map su) && true)) = true
  rw [frz_sus, frz_sus]; rfl
theorem hd_su (l : List Sy) : Hd1 (l.map su) := fun x hx => by
  rw [List.getElem?_map] at hx
  cases e : l[0]? with
  | none => rw [e] at hx; cases hx
  | some s =>
    rw [e] at hx
    cases hx
    exact .inl (by cases s <;> exact ⟨_, _, rfl⟩)
section
variable {k : Nat} {l r : List U} {x y z w : U}
theorem fz_once : sh_each_once k [.fzl l] = sh_each_once k [.lst l] := by
  cases k with
  | zero => rfl
  | succ k => rw [sh_each_once, sh_each_once, fz_srt]
theorem fz_unl : sh_unlike k [.fzl l] = sh_unlike k [.lst l] := by
  cases k with
  | zero => rfl
  | succ k => rw [sh_unlike, sh_unlike, fz_once]
theorem fz_cl1 : sh_claim_of k [.fzl l, x] = sh_claim_of k [.lst l, x] := by
  cases k with
  | zero => rfl
  | succ k => rw [sh_claim_of, sh_claim_of, fz_unl]
theorem fz_cl2 : sh_claim_of k [x, .fzl l] = sh_claim_of k [x, .lst l] := by
  cases k with
  | zero => rfl
  | succ k => rw [sh_claim_of, sh_claim_of, fz_unl]
theorem fz_wo : sh_without k [.fzl l, x] = sh_without k [.lst l, x] := by
  cases k with
  | zero => rfl
  | succ k => rw [sh_without, sh_without, fz_itL]
theorem fz_fl : sh_from_left k [y, .fzl r, x] = sh_from_left k [y, .lst r, x] := by
  cases k with
  | zero => rfl
  | succ k => rw [sh_from_left, sh_from_left]; simp only [fz_ad1, fz_cl2]
theorem fz_fr : sh_from_right k [.fzl l, y, x] = sh_from_right k [.lst l, y, x] := by
  cases k with
  | zero => rfl
  | succ k => rw [sh_from_right, sh_from_right]; simp only [fz_ad1, fz_cl1]
theorem fz_fu : sh_further_up k [.fzl l, x] = sh_further_up k [.lst l, x] := by
  cases k with
  | zero => rfl
  | succ k => rw [sh_further_up, sh_further_up, fz_itL]
theorem fz_need : sh_needed k [.tup [.fzl l, .fzl r], x, y] = sh_needed k [.tup [.lst l, .lst r], x, y] := by
  cases k with
  | zero => rfl
  | succ k =>
    rw [sh_needed, sh_needed]
    simp only [un2_ok, M.bind_ok, fz_in, fz_wo, fz_fl, fz_fr, fz_fu]
end

theorem sh_llistN {k : Nat} {ns : List Int} {at_ many most : Int} (hn : ns.length ≤ 63) (h : 0 ≤ at_) (h2 : at_ < 1000) (hm : 0 ≤ many) (hm2 : many ≤ 10) : Ok (sh__law_list (k + 3) [.fzl (ns.map .int), .int at_, .int many, .int most]) fun u => ∃ ss : List Sy, u = ss.map su ∧ (∀ s ∈ ss, s.size ≤ 30) ∧ ss.length ≤ 20 := by
  rw [sh__law_list, range1M_int (by omega) (by omega), M.bind_ok]
  unfold rangeU
  obtain ⟨ss, e, hss⟩ := compM_all (f := fun x2 => (mulM (.int 7) x2).bind fun z4 => (addM (.int at_) z4).bind fun z5 => (mulM (.int 7) x2).bind fun z6 => (addM (.int at_) z6).bind fun z7 => (sh__law_cell_at (k + 2) [.fzl (ns.map .int), z7]).bind fun z8 => (modM z8 (.int 5)).bind fun z9 => (sh__law_saying (k + 2) [.fzl (ns.map .int), z5, z9, .int most]).bind fun z10 => .ok z10)
    (fun i : Nat => .int (0 + (i : Int))) su (fun _ z => z.size ≤ 30) (xs := List.range many.toNat) (by simp; omega) (fun i hi => by
      have hi := List.mem_range.mp hi
      obtain ⟨_, e, c, rfl, hc⟩ := sh_cell (k := k + 1) (ns := ns) (i := at_ + 7 * (0 + (i : Int))) (by omega) (by omega) hn
      obtain ⟨_, e2, s, rfl, hs⟩ := sh_saying (k := k) (ns := ns) (at_ := at_ + 7 * (0 + (i : Int))) (many := c % 5) (most := most) hn (by omega) (by omega) (by omega) (by omega)
      refine ⟨s, ?_, by omega⟩
      rw [mulM_l (by decide) (by decide), M.bind_ok, addM_int, M.bind_ok, M.bind_ok, addM_int, M.bind_ok, e, M.bind_ok, modM_int (by decide), M.bind_ok, e2]; rfl)
  have h3 := All2.right hss
  have h4 := hss.len
  rw [List.length_range] at h4
  rw [e, M.bind_ok]
  obtain ⟨_, e, c, rfl, hc⟩ := sh_cell (k := k + 1) (ns := ns) (i := at_) (by omega) (by omega) hn
  rw [e, M.bind_ok, fdivM_int (by decide) (by decide), M.bind_ok, modM_int (by decide), M.bind_ok, endM_int, M.bind_ok, slM_take (by omega), M.bind_ok]
  have hl : (ss.map su).length + ((ss.map su).take (c / 8 % 2).toNat).length ≤ 20 := by rw [List.length_take, List.length_map]; omega
  have ea : addnM (.lst (ss.map su)) (.lst ((ss.map su).take (c / 8 % 2).toNat)) = .ok ((ss ++ ss.take (c / 8 % 2).toNat).map su) := by
    show sz _ (M.ok _) = _
    rw [sz_ok (by omega), List.map_append, List.map_take]
  rw [ea, M.bind_ok]
  refine ⟨_, rfl, ss ++ ss.take (c / 8 % 2).toNat, rfl, fun s hs => ?_, by rw [List.length_append, List.length_take]; omega⟩
  rcases List.mem_append.mp hs with z | z
  · exact h3 s z
  · exact h3 s (List.mem_of_mem_take z)
/-- how long are the claims needed -/
theorem need_ln {c : Cl} {r : Rl} {s : Sy} {cs : List Cl} (h : need c r s = some cs) : ∀ d ∈ cs, d.1.length ≤ 2 * c.1.length + 3 := by
  obtain ⟨l, rr⟩ := c
  have w1 := wo_len l s
  have one : ∀ {p q : List Sy}, p.length ≤ 2 * l.length + 3 → ∀ d ∈ [mkC p q], d.1.length ≤ 2 * l.length + 3 := fun {p q} hp d hd => by
    rw [List.mem_singleton] at hd; subst hd
    exact Nat.le_trans (setS_len p) hp
  have two : ∀ {p q p' q' : List Sy}, p.length ≤ 2 * l.length + 3 → p'.length ≤ 2 * l.length + 3 → ∀ d ∈ [mkC p q, mkC p' q'], d.1.length ≤ 2 * l.length + 3 := fun {p q p' q'} hp hp' d hd => by
    simp only [List.mem_cons, List.not_mem_nil, or_false] at hd
    rcases hd with rfl | rfl
    · exact Nat.le_trans (setS_len p) hp
    · exact Nat.le_trans (setS_len p') hp'
  have n1 : ∀ {l : List Sy} {a : Sy}, (l ++ [a]).length = l.length + 1 := fun {l a} => by rw [List.length_append]; rfl
  have n2 : ∀ {l : List Sy} {a b : Sy}, (l ++ [a, b]).length = l.length + 2 := fun {l a b} => by rw [List.length_append]; rfl
  unfold need at h
  dsimp only at h
  cases r <;> dsimp only at h <;> split at h <;> try cases h
  · intro d hd; simp at hd
  · intro d hd; simp at hd
  · unfold fromL at h
    split at h <;> cases h
    · exact one (by omega)
    · exact one (by rw [n2]; omega)
    · exact two (by rw [n1]; omega) (by rw [n1]; omega)
    · exact two (by omega) (by rw [n1]; omega)
  · unfold fromR at h
    split at h <;> cases h
    · exact one (by rw [n1]; omega)
    · exact two (by omega) (by omega)
    · exact one (by omega)
    · exact one (by rw [n1]; omega)
  · unfold upC at h
    split at h <;> cases h
    have := known_len l
    exact one (by rw [List.length_cons]; omega)
theorem lalone {k : Nat} : sh__law_alone (k + 1) [.exc "NoRule" []] = .ok (.bl true) := by
  have e1 : isEM [("NoRule", true)] (.exc "NoRule" []) = .ok (.bl true) := rfl
  have e2 : isEM [("NoRule", false)] (.exc "NoRule" []) = .ok (.bl false) := rfl
  rw [sh__law_alone, e1, e2]
  rfl
theorem all_true (n : Nat) : allM (.lst ((List.replicate n true).map .bl)) = .ok (.bl true) := by
  rw [allM_bls]
  congr 2
  rw [List.all_eq_true]
  intro b hb
  exact (List.mem_replicate.mp hb).2
/-- what is told of a rule -/
theorem lt_told {k : Nat} {c : Cl} {w : Str} {s : Sy} {o : Option (List Cl)} (h : sh_needed (k + 1) [clU c, .str w, su s] = res o) (ho : ∀ cs, o = some cs → cs.length ≤ 2) : sh__law_told (k + 2) [clF c, .str w, su s] = .ok (optU o) := by
  have h' : sh_needed (k + 1) [clF c, .str w, su s] = res o := fz_need.trans h
  rw [sh__law_told, h']
  cases o with
  | none =>
    show tryK [("NoRule", 0)] (M.err "NoRule" [] : M U) _ _ = _
    rw [tryK_err, if_pos (by decide +kernel), lalone, M.calm_ok, M.bind_ok, boolM_bl, M.bind_ok, if_pos rfl]; rfl
  | some cs =>
    have hl := ho cs rfl
    have ec : compM (fun x7 => (isiM x7 "tuple").bind fun z9 => M.ok z9) (cs.map clU) = .ok ((List.replicate cs.length true).map .bl) := by
      rw [compM_ok clU (fun _ => .bl true) (by omega) (fun x _ => by unfold clU; rw [isi_tup, M.bind_ok])]
      congr 1
      rw [List.map_replicate]
      exact List.map_const'
    show tryK [("NoRule", 0)] (M.ok (.lst (cs.map clU)) : M U) _ _ = _
    rw [tryK_ok, boolM_bl, M.bind_ok, if_neg (by simp), isi_lst, M.bind_ok, boolM_bl, M.bind_ok, if_neg (by simp), iterL_lst, M.bind_ok, ec, M.bind_ok, all_true, M.bind_ok, boolM_bl, M.bind_ok, M.bind_ok, if_neg (by simp)]; rfl
theorem pls_cl : ∀ cs : List Cl, PyData.plainAll (pyUs (cs.map clU)) = true
  | [] => rfl
  | c :: cs => by rw [List.map_cons, pyUs, PyData.plainAll, pls_cl cs, Bool.and_true]; exact pl_cl c
theorem dps_cl : ∀ {cs : List Cl}, (∀ c ∈ cs, dp (clU c) ≤ 151) → PyData.depthAll (pyUs (cs.map clU)) ≤ 151
  | [], _ => by simp [pyUs, PyData.depthAll]
  | c :: cs, h => by
    rw [List.map_cons, pyUs, PyData.depthAll]
    have h1 := h c (by simp)
    have h2 := dps_cl (cs := cs) fun c hc => h c (by simp [hc])
    unfold dp at h1
    omega
theorem eq_opt {o : Option (List Cl)} (ho : ∀ cs, o = some cs → ∀ d ∈ cs, ∀ x ∈ d.1 ++ d.2, x.ht ≤ 100) : eqM (optU o) (optU o) = .ok true := by
  cases o with
  | none => rfl
  | some cs =>
    refine eqM_rfl (pl_lst (pls_cl cs)) ?_
    have := dp_lst (dps_cl (cs := cs) fun d hd => by
      have := dp_tup (two_dp (n := 149) (fun s hs => by have := ho cs rfl d hd s (List.mem_append_left _ hs); omega) (fun s hs => by have := ho cs rfl d hd s (List.mem_append_right _ hs); omega))
      exact this)
    show dp (.lst (cs.map clU)) ≤ 190
    omega
theorem sh_lright {k : Nat} {c : Cl} {w : Str} {s : Sy} {o : Option (List Cl)} (B : ∀ x ∈ c.1 ++ c.2, x.ht ≤ 100) (h : sh_needed (k + 1) [clU c, .str w, su s] = res o) (h2 : sh__law_needed (k + 2) [clU c, .str w, su s] = .ok (optU o)) (ho : ∀ cs, o = some cs → cs.length ≤ 2 ∧ ∀ d ∈ cs, (∀ x ∈ d.1 ++ d.2, x.ht ≤ 100) ∧ d.1.length ≤ 2000000) : sh__law_right (k + 3) [clU c, .str w, su s] = .ok (.bl true) := by
  have i0 : ixM (clU c) (.int 0) = .ok (.lst (c.1.map su)) := ix_t0
  have i1 : ixM (clU c) (.int 1) = .ok (.lst (c.2.map su)) := ix_t1
  have eF : U.tup [.fzl (c.1.map su), .fzl (c.2.map su)] = clF c := rfl
  have ez : frzM [clF c, .str w, su s] (sh__law_told (k + 2) [clF c, .str w, su s]) = .ok (optU o) := by
    unfold frzM
    rw [if_pos (by show (frzU (clF c) && (true && (frzU (su s) && true))) = true; rw [frz_cl, frz_su]; rfl)]
    exact lt_told h fun cs e => (ho cs e).1
  have e1 := eq_opt (o := o) fun cs e d hd => ((ho cs e).2 d hd).1
  have e2 : eqM (clF c) (clU c) = .ok true := by
    rw [fz_eq]
    exact eqM_rfl (pl_cl c) (by
      have := dp_tup (two_dp (a := c.1) (b := c.2) (n := 100) (fun s hs => B s (List.mem_append_left _ hs)) (fun s hs => B s (List.mem_append_right _ hs)))
      have : dp (clU c) ≤ _ := this
      omega)
  have et : ∃ b, isntM (optU o) .non = .ok b ∧ tr32 b (optU o) = .ok () := by
    cases o with
    | none =>
      refine ⟨false, rfl, ?_⟩
      unfold tr32
      exact if_pos (show T32 false (optU none) from fun z => by cases z)
    | some cs =>
      refine ⟨true, rfl, ?_⟩
      unfold tr32
      exact if_pos (show T32 true (optU (some cs)) from fun _ => ⟨_, rfl, by rw [List.length_map]; have := (ho cs rfl).1; omega, fun x hx => by
        obtain ⟨d, hd, rfl⟩ := List.mem_map.mp hx
        exact ⟨_, _, rfl, hd_su _, by rw [List.length_map]; exact ((ho cs rfl).2 d hd).2⟩⟩)
  obtain ⟨b, b1, b2⟩ := et
  rw [sh__law_right, h2, M.bind_ok, i0, M.bind_ok, listM_lst, M.bind_ok, i1, M.bind_ok, listM_lst, M.bind_ok, range1M_int (by decide) (by decide), M.bind_ok, eF, forC_unit (fun x hx => by
    rw [ez, M.calm_ok, M.bind_ok, nB_ok, e1, M.bind_ok, M.bind_ok, if_neg (by simp), nB_ok, e2, M.bind_ok, M.bind_ok, M.bind_ok, if_neg (by simp), b1, M.bind_ok, b2, M.bind_ok]), M.bind_ok]
/-- the words that are no rule -/
def oddW : List Str := ["down", "Left", "upright", "", "left ", "sam"]
theorem odd_need {k : Nat} {c : Cl} {w : Str} (hw : w ∈ oddW) {s : Sy} : sh_needed (k + 1) [clU c, .str w, su s] = res none ∧ sh__law_needed (k + 1) [clU c, .str w, su s] = .ok (optU none) := by
  have key : ∀ w : Str, (w ≠ "same" ∧ w ≠ "never" ∧ w ≠ "left" ∧ w ≠ "right" ∧ w ≠ "up") → sh_needed (k + 1) [clU c, .str w, su s] = res none ∧ sh__law_needed (k + 1) [clU c, .str w, su s] = .ok (optU none) := fun w ⟨h1, h2, h3, h4, h5⟩ => by
    rw [sh_needed, sh__law_needed, clU, un2_ok, M.bind_ok]
    simp only [eqM_str, M.bind_ok, decide_eq_false h1, decide_eq_false h2, decide_eq_false h3, decide_eq_false h4, decide_eq_false h5, Bool.false_eq_true, if_false]
    exact ⟨rfl, rfl⟩
  simp only [oddW, List.mem_cons, List.not_mem_nil, or_false] at hw
  rcases hw with rfl | rfl | rfl | rfl | rfl | rfl <;> exact key _ (by decide +kernel)
theorem pure_law (ns : List Int) (hn : ns.length ≤ 63) : sh_law (200 + 1) [.fzl (ns.map .int)] = .ok (.bl true) := by
  rw [sh_law]
  obtain ⟨_, e, c, rfl, hc⟩ := sh_cell (k := 199) (ns := ns) (i := 0) (by decide) (by decide) hn
  rw [e, M.bind_ok, modM_int (by decide), M.bind_ok]
  obtain ⟨_, e, ls, rfl, hl, hl2⟩ := sh_llistN (k := 197) (ns := ns) (at_ := 1) (many := c % 4) (most := 2) hn (by decide) (by decide) (by omega) (by omega)
  rw [e, M.bind_ok, fdivM_int (by decide) (by decide), M.bind_ok, modM_int (by decide), M.bind_ok]
  obtain ⟨_, e, rs, rfl, hr, hr2⟩ := sh_llistN (k := 197) (ns := ns) (at_ := 31) (many := c / 4 % 4) (most := 2) hn (by decide) (by decide) (by omega) (by omega)
  rw [e, M.bind_ok, fdivM_int (by decide) (by decide), M.bind_ok, modM_int (by decide), M.bind_ok, eqM_int, M.bind_ok]
  have k1 : ∃ r2 : List Sy, (if decide (c / 16 % 3 = 1) = true then (endM (.int 1)).bind fun z10 => (slM (.lst (ls.map su)) none z10).bind fun z11 => (addM (.lst (rs.map su)) z11).bind fun z12 => M.ok z12 else M.ok (U.lst (rs.map su))) = .ok (.lst (r2.map su)) ∧ (∀ s ∈ r2, s.size ≤ 30) ∧ r2.length ≤ 40 := by
    by_cases q : c / 16 % 3 = 1
    · rw [decide_eq_true q, if_pos rfl, endM_int, M.bind_ok, slM_take (by decide), M.bind_ok, addM_lst (by rw [List.length_take, List.length_map, List.length_map]; omega), M.bind_ok]
      refine ⟨rs ++ ls.take (1 : Int).toNat, by rw [List.map_append, List.map_take], fun s hs => ?_, by rw [List.length_append, List.length_take]; omega⟩
      rcases List.mem_append.mp hs with z | z
      · exact hr s z
      · exact hl s (List.mem_of_mem_take z)
    · rw [decide_eq_false q, if_neg (by simp)]
      exact ⟨rs, rfl, hr, by omega⟩
  obtain ⟨r2, ek, hR, hR2⟩ := k1
  rw [ek, M.bind_ok, fdivM_int (by decide) (by decide), M.bind_ok, modM_int (by decide), M.bind_ok, eqM_int, M.bind_ok]
  have k2 : ∃ l2 : List Sy, (if decide (c / 48 % 3 = 1) = true then (appM (ls.map su) (.tup [.str "no"])).bind fun l17 => M.ok l17 else M.ok (ls.map su)) = .ok (l2.map su) ∧ (∀ s ∈ l2, s.size ≤ 30) ∧ l2.length ≤ 40 := by
    by_cases q : c / 48 % 3 = 1
    · rw [decide_eq_true q, if_pos rfl, appM_ok (by rw [List.length_map]; omega), M.bind_ok]
      refine ⟨ls ++ [.no], by rw [List.map_append]; rfl, fun s hs => ?_, by rw [List.length_append, List.length_singleton]; omega⟩
      rcases List.mem_append.mp hs with z | z
      · exact hl s z
      · rw [List.mem_singleton] at z; subst z; decide
    · rw [decide_eq_false q, if_neg (by simp)]
      exact ⟨ls, rfl, hl, by omega⟩
  obtain ⟨l2, ek2, hL, hL2⟩ := k2
  have htL : ∀ s ∈ l2, s.ht ≤ 100 := fun s hs => by have := pv_ht (hL s hs); omega
  have htR : ∀ s ∈ r2, s.ht ≤ 100 := fun s hs => by have := pv_ht (hR s hs); omega
  have ec := sh_lclm (k := 198) (ls := l2) (rs := r2) (fun s hs => by have := htL s hs; omega) (by omega) (fun s hs => by have := htR s hs; omega) (by omega)
  have ec : sh__law_claim 200 [.lst (l2.map su), .lst (r2.map su)] = _ := ec
  have q1 := setS_len l2
  have q2 := setS_len r2
  have sL : ∀ s ∈ setS l2, s.ht ≤ 100 := fun s hs => htL s (setS_iff.mp hs)
  have sR : ∀ s ∈ setS r2, s.ht ≤ 100 := fun s hs => htR s (setS_iff.mp hs)
  have ecl : mkC l2 r2 = (setS l2, setS r2) := rfl
  rw [ek2, M.bind_ok, ec, M.bind_ok, ecl]
  generalize setS l2 = l at *
  generalize setS r2 = r at *
  have i0 : ixM (clU (l, r)) (.int 0) = .ok (.lst (l.map su)) := ix_t0
  have i1 : ixM (clU (l, r)) (.int 1) = .ok (.lst (r.map su)) := ix_t1
  have ea : addM (.lst (l.map su ++ r.map su)) (.lst [.tup [.str "not", .tup [.str "shown", .tup [.str "or", .tup [.str "no"], .tup [.str "no"]]]], .tup [.str "no"]]) = .ok (.lst ((l ++ r ++ [Sy.not (.shown (.bin .or .no .no)), Sy.no]).map su)) := by
    rw [addM_lst (by rw [List.length_append, List.length_map, List.length_map]; simp only [List.length_cons, List.length_nil]; omega), List.map_append, List.map_append]; rfl
  rw [i0, M.bind_ok, i1, M.bind_ok, addM_lst (by rw [List.length_map, List.length_map]; omega), M.bind_ok, ea, M.bind_ok, fdivM_int (by decide) (by decide), M.bind_ok, modM_int (by decide), M.bind_ok]
  obtain ⟨u, hu, eu⟩ := ixM_any (i := c / 144 % 6) (x := .lst (oddW.map .str)) rfl (by omega) (by simp [oddW]; omega)
  obtain ⟨wo, hwo, rfl⟩ := List.mem_map.mp hu
  have eu : ixM (.lst [.str "down", .str "Left", .str "upright", .str "", .str "left ", .str "sam"]) (.int (c / 144 % 6)) = _ := eu
  have hS : ∀ s ∈ l ++ r ++ [Sy.not (.shown (.bin .or .no .no)), .no], s.ht ≤ 149 := fun s hs => by
    rcases List.mem_append.mp hs with z | z
    · rcases List.mem_append.mp z with z | z
      · have := sL s z; omega
      · have := sR s z; omega
    · simp only [List.mem_cons, List.not_mem_nil, or_false] at z
      rcases z with rfl | rfl <;> simp [Sy.ht]
  have B : ∀ x ∈ (l, r).1 ++ (l, r).2, x.ht ≤ 100 := fun x hx => by
    rcases List.mem_append.mp hx with z | z
    · exact sL x z
    · exact sR x z
  have CBc : CB (l, r) := ⟨fun s hs => by have := sL s hs; omega, fun s hs => by have := sR s hs; omega, by show l.length ≤ _; omega, by show r.length ≤ _; omega⟩
  have rules : ∀ w ∈ [("same" : Str), "never", "left", "right", "up", wo], ∀ s ∈ l ++ r ++ [Sy.not (.shown (.bin .or .no .no)), .no], sh__law_right 200 [clU (l, r), .str w, su s] = .ok (.bl true) := fun w hw s hs => by
    have rule : ∀ q : Rl, sh__law_right 200 [clU (l, r), .str q.s, su s] = .ok (.bl true) := fun q => by
      refine sh_lright (k := 197) (o := need (l, r) q s) B (sh_need (k := 193) CBc q (hS s hs)) (sh_lneed (k := 195) CBc q (hS s hs)) fun cs e => ?_
      obtain ⟨g1, g2⟩ := need_CB B e
      have g3 := need_ln e
      exact ⟨g1, fun d hd => ⟨g2 d hd, by have : d.1.length ≤ 2 * l.length + 3 := g3 d hd; omega⟩⟩
    simp only [List.mem_cons, List.not_mem_nil, or_false] at hw
    rcases hw with rfl | rfl | rfl | rfl | rfl | rfl
    · exact rule .same
    · exact rule .never
    · exact rule .left
    · exact rule .right
    · exact rule .up
    · exact sh_lright (k := 197) (o := none) B (odd_need (k := 197) hwo).1 (odd_need (k := 198) hwo).2 (fun cs e => by cases e)
  have ew : [U.str "same", .str "never", .str "left", .str "right", .str "up", .str wo] = [("same" : Str), "never", "left", "right", "up", wo].map .str := rfl
  rw [eu, M.bind_ok, iterL_lst, M.bind_ok, ew, forC_unit (fun x hx => by
    obtain ⟨w, hw, rfl⟩ := List.mem_map.mp hx
    rw [iterL_lst, M.bind_ok, forC_unit (fun x hx => by
      obtain ⟨s, hs, rfl⟩ := List.mem_map.mp hx
      rw [rules w hw s hs, M.bind_ok, boolM_bl, M.bind_ok, if_neg (by simp)]), M.bind_ok]), M.bind_ok]
--#end 200

def topS (i : Nat) : Stmt := PySem.Challenge.pw_selfsay_k32_what_a_claim_needs.main.body.getD i (.Pass ⟨0, 0, 0, 0⟩)
/-- what the text told -/
structure Tp (G : Gl) (κ : Kl) : Prop where
  z_len : G.mg "len" = none
  z_list : G.mg "list" = none
  z_tuple : G.mg "tuple" = none
  z_all : G.mg "all" = none
  z_int : G.mg "int" = none
  z_isinstance : G.mg "isinstance" = none
  z_range : G.mg "range" = none
  z_sorted : G.mg "sorted" = none
  z_ValueError : G.mg "ValueError" = none
  d_each_once : DefAt G.K G.mg "each_once" (topS 11) ["some"]
  d_unlike : DefAt G.K G.mg "unlike" (topS 14) ["sayings"]
  d_claim_of : DefAt G.K G.mg "claim_of" (topS 15) ["left", "right"]
  d_without : DefAt G.K G.mg "without" (topS 16) ["sayings", "saying"]
  d_from_left : DefAt G.K G.mg "from_left" (topS 17) ["left", "right", "saying"]
  d_from_right : DefAt G.K G.mg "from_right" (topS 18) ["left", "right", "saying"]
  d_further_up : DefAt G.K G.mg "further_up" (topS 19) ["left", "saying"]
  d_needed : DefAt G.K G.mg "needed" (topS 20) ["claim", "rule", "saying"]
  d__law_unlike : DefAt G.K G.mg "_law_unlike" (topS 22) ["_law_some"]
  d__law_cell_at : DefAt G.K G.mg "_law_cell_at" (topS 23) ["_law_script", "_law_k"]
  d__law_leaf : DefAt G.K G.mg "_law_leaf" (topS 24) ["_law_cell"]
  d__law_saying : DefAt G.K G.mg "_law_saying" (topS 25) ["_law_script", "_law_at", "_law_many", "_law_most"]
  d__law_list : DefAt G.K G.mg "_law_list" (topS 26) ["_law_script", "_law_at", "_law_many", "_law_most"]
  d__law_claim : DefAt G.K G.mg "_law_claim" (topS 27) ["_law_left", "_law_right_here"]
  d__law_apart : DefAt G.K G.mg "_law_apart" (topS 28) ["_law_left", "_law_right_here", "_law_rule", "_law_saying_here"]
  d__law_needed : DefAt G.K G.mg "_law_needed" (topS 29) ["_law_claim_here", "_law_rule", "_law_saying_here"]
  d__law_alone : DefAt G.K G.mg "_law_alone" (topS 30) ["_law_e"]
  d__law_told : DefAt G.K G.mg "_law_told" (topS 31) ["_law_claim_here", "_law_rule", "_law_saying_here"]
  d__law_right : DefAt G.K G.mg "_law_right" (topS 32) ["_law_claim_here", "_law_rule", "_law_saying_here"]
  d_law : DefAt G.K G.mg "law" (topS 33) ["_law_script"]
  g_NoRule : G.mg "NoRule" = some (.ref (κ.ad "NoRule"))
  g_SayError : G.mg "SayError" = some (.ref (κ.ad "SayError"))
  g_NoSaying : G.mg "NoSaying" = some (.ref (κ.ad "NoSaying"))
  g_NoTree : G.mg "NoTree" = some (.ref (κ.ad "NoTree"))
  g_HasLetter : G.mg "HasLetter" = some (.ref (κ.ad "HasLetter"))
  g_TooMany : G.mg "TooMany" = some (.ref (κ.ad "TooMany"))
  g_Outside : G.mg "Outside" = some (.ref (κ.ad "Outside"))
  g_NoLine : G.mg "NoLine" = some (.ref (κ.ad "NoLine"))
  g_Nothing : G.mg "Nothing" = some (.ref (κ.ad "Nothing"))
  x_NoRule : ExcK G.K G.mg κ "NoRule"
  xc_NoRule : ExcC G.K (κ.ad "NoRule")
  xi_NoRule : ∀ q ∈ ([("NoRule", true)] : List (Str × Bool)), ExcC G.K (κ.ad q.1) ∧ PySem.W.kitOne G.K (.ref (κ.ad q.1)) (.ref (κ.ad "NoRule")) = some q.2
  xi_NoSaying : ∀ q ∈ ([("NoRule", false)] : List (Str × Bool)), ExcC G.K (κ.ad q.1) ∧ PySem.W.kitOne G.K (.ref (κ.ad q.1)) (.ref (κ.ad "NoSaying")) = some q.2
  xi_NoTree : ∀ q ∈ ([("NoRule", false)] : List (Str × Bool)), ExcC G.K (κ.ad q.1) ∧ PySem.W.kitOne G.K (.ref (κ.ad q.1)) (.ref (κ.ad "NoTree")) = some q.2
  xi_HasLetter : ∀ q ∈ ([("NoRule", false)] : List (Str × Bool)), ExcC G.K (κ.ad q.1) ∧ PySem.W.kitOne G.K (.ref (κ.ad q.1)) (.ref (κ.ad "HasLetter")) = some q.2
  xi_TooMany : ∀ q ∈ ([("NoRule", false)] : List (Str × Bool)), ExcC G.K (κ.ad q.1) ∧ PySem.W.kitOne G.K (.ref (κ.ad q.1)) (.ref (κ.ad "TooMany")) = some q.2
  xi_Outside : ∀ q ∈ ([("NoRule", false)] : List (Str × Bool)), ExcC G.K (κ.ad q.1) ∧ PySem.W.kitOne G.K (.ref (κ.ad q.1)) (.ref (κ.ad "Outside")) = some q.2
  xi_NoLine : ∀ q ∈ ([("NoRule", false)] : List (Str × Bool)), ExcC G.K (κ.ad q.1) ∧ PySem.W.kitOne G.K (.ref (κ.ad q.1)) (.ref (κ.ad "NoLine")) = some q.2
  xi_Nothing : ∀ q ∈ ([("NoRule", false)] : List (Str × Bool)), ExcC G.K (κ.ad q.1) ∧ PySem.W.kitOne G.K (.ref (κ.ad q.1)) (.ref (κ.ad "Nothing")) = some q.2
  xi_ValueError : ∀ q ∈ ([("NoRule", true)] : List (Str × Bool)), ExcC G.K (κ.ad q.1) ∧ PySem.W.kitOne G.K (.ref (κ.ad q.1)) (.type "ValueError") = some q.2
  xt_SayError : ∀ c ∈ ([("NoRule", 0)] : List (Str × Nat)), PySem.W.exmOne G.K (.ref (κ.ad c.1)) (.ref (κ.ad "SayError")) = some true ∧ (κ.fs c.1).length = c.2
  c_NEVER : TupAt G.K G.mg "NEVER" "no"
variable {G : Gl} {κ : Kl}
abbrev st__law_cell_at : Stmt := topS 23
abbrev N__law_cell_at : List Str := ["_law_script", "_law_k", "_law_cell", "_law_mixed"]
abbrev vs__law_cell_at : List Bool := [true, true, true, true]
abbrev gl__law_cell_at : List Str := ["len"]
theorem sc__law_cell_at : FnScope N__law_cell_at ["_law_script", "_law_k"] (defScope st__law_cell_at) := ⟨rfl, rfl, rfl, by decide +kernel, rfl, by decide +kernel, by decide +kernel⟩
theorem gd__law_cell_at : goodC N__law_cell_at (defScope st__law_cell_at) vs__law_cell_at vs__law_cell_at gl__law_cell_at = true := by decide +kernel
@[reducible] def cx__law_cell_at (G : Gl) (k : Nat) : Pl.Ctx := G.cx N__law_cell_at (defScope st__law_cell_at) vs__law_cell_at vs__law_cell_at gl__law_cell_at k

theorem ok__law_cell_at (T : Tp G κ) : ∀ k, G.fn k "_law_cell_at" 2 (spV κ 2 (sh__law_cell_at k))
  | 0 => fn_none T.d__law_cell_at (spV_none fun us => rfl)
  | kk + 1 => by
    refine def_V T.d__law_cell_at sc__law_cell_at gd__law_cell_at fun us hl Q Eh h => ?_
    have hE : EI κ Eh (erM κ Eh) := EI.erM
    obtain ⟨v_script, v_k, rfl⟩ := len2 hl
    change WSs _ [some (em κ v_script), some (em κ v_k), none, none] _ (_ :: _) _
    refine wss_cons ?_
    refine ws_if ?_
    refine wt_eqM (κ := κ) ?_
    refine we_lenM (κ := κ) ⟨0, rfl⟩ T.z_len ?_
    refine we_name (i := 0) rfl rfl rfl ?_
    refine fin1 (f := lenM) v_script (vE (u := v_script)) ‹_› fun z1 h => ?_
    refine we_int ?_
    refine fin2 (f := eqM) z1 (.int 0) (vE (u := z1)) (vE (u := .int 0)) ‹_› fun b2 h => ?_
    refine ite_m ‹_› (fun h => ?_) (fun h => ?_)
    · refine wss_cons ?_
      refine ws_ret ?_
      refine we_modM (κ := κ) ?_
      refine we_mulM (κ := κ) ?_
      refine we_mulM (κ := κ) ?_
      refine we_name (i := 1) rfl rfl rfl ?_
      refine we_name (i := 1) rfl rfl rfl ?_
      refine fin2 (f := mulM) v_k v_k (vE (u := v_k)) (vE (u := v_k)) ‹_› fun z3 h => ?_
      refine we_int ?_
      refine fin2 (f := mulM) z3 (.int 7919) (vE (u := z3)) (vE (u := .int 7919)) ‹_› fun z4 h => ?_
      refine we_int ?_
      refine fin2 (f := modM) z4 (.int 1000003) (vE (u := z4)) (vE (u := .int 1000003)) ‹_› fun z5 h => ?_
      exact rtV_v (u := z5) h
    · refine wss_nil ?_
      refine wss_cons ?_
      refine ws_set (i := 2) rfl rfl ?_ rfl
      refine we_ixM (κ := κ) ?_
      refine we_name (i := 0) rfl rfl rfl ?_
      refine we_modM (κ := κ) ?_
      refine we_name (i := 1) rfl rfl rfl ?_
      refine we_lenM (κ := κ) ⟨0, rfl⟩ T.z_len ?_
      refine we_name (i := 0) rfl rfl rfl ?_
      refine fin1 (f := lenM) v_script (vE (u := v_script)) ‹_› fun z6 h => ?_
      refine fin2 (f := modM) v_k z6 (vE (u := v_k)) (vE (u := z6)) ‹_› fun z7 h => ?_
      refine fin2 (f := ixM) v_script z7 (vE (u := v_script)) (vE (u := z7)) ‹_› fun z8 h => ?_
      refine wss_cons ?_
      refine ws_set (i := 3) rfl rfl ?_ rfl
      refine we_addM (κ := κ) ?_
      refine we_mulM (κ := κ) ?_
      refine we_modM (κ := κ) ?_
      refine we_name (i := 2) rfl rfl rfl ?_
      refine we_int ?_
      refine fin2 (f := modM) z8 (.int 1000003) (vE (u := z8)) (vE (u := .int 1000003)) ‹_› fun z9 h => ?_
      refine we_int ?_
      refine fin2 (f := mulM) z9 (.int 48271) (vE (u := z9)) (vE (u := .int 48271)) ‹_› fun z10 h => ?_
      refine we_modM (κ := κ) ?_
      refine we_fdivM (κ := κ) ?_
      refine we_name (i := 2) rfl rfl rfl ?_
      refine we_int ?_
      refine fin2 (f := fdivM) z8 (.int 1000003) (vE (u := z8)) (vE (u := .int 1000003)) ‹_› fun z11 h => ?_
      refine we_int ?_
      refine fin2 (f := modM) z11 (.int 999983) (vE (u := z11)) (vE (u := .int 999983)) ‹_› fun z12 h => ?_
      refine fin2 (f := addM) z10 z12 (vE (u := z10)) (vE (u := z12)) ‹_› fun z13 h => ?_
      refine wss_cons ?_
      refine ws_ret ?_
      refine we_modM (κ := κ) ?_
      refine we_mulM (κ := κ) ?_
      refine we_modM (κ := κ) ?_
      refine we_addM (κ := κ) ?_
      refine we_addM (κ := κ) ?_
      refine we_name (i := 3) rfl rfl rfl ?_
      refine we_mulM (κ := κ) ?_
      refine we_mulM (κ := κ) ?_
      refine we_name (i := 1) rfl rfl rfl ?_
      refine we_name (i := 1) rfl rfl rfl ?_
      refine fin2 (f := mulM) v_k v_k (vE (u := v_k)) (vE (u := v_k)) ‹_› fun z14 h => ?_
      refine we_int ?_
      refine fin2 (f := mulM) z14 (.int 7919) (vE (u := z14)) (vE (u := .int 7919)) ‹_› fun z15 h => ?_
      refine fin2 (f := addM) z13 z15 (vE (u := z13)) (vE (u := z15)) ‹_› fun z16 h => ?_
      refine we_mulM (κ := κ) ?_
      refine we_name (i := 1) rfl rfl rfl ?_
      refine we_int ?_
      refine fin2 (f := mulM) v_k (.int 104729) (vE (u := v_k)) (vE (u := .int 104729)) ‹_› fun z17 h => ?_
      refine fin2 (f := addM) z16 z17 (vE (u := z16)) (vE (u := z17)) ‹_› fun z18 h => ?_
      refine we_int ?_
      refine fin2 (f := modM) z18 (.int 1000003) (vE (u := z18)) (vE (u := .int 1000003)) ‹_› fun z19 h => ?_
      refine we_int ?_
      refine fin2 (f := mulM) z19 (.int 69621) (vE (u := z19)) (vE (u := .int 69621)) ‹_› fun z20 h => ?_
      refine we_int ?_
      refine fin2 (f := modM) z20 (.int 999983) (vE (u := z20)) (vE (u := .int 999983)) ‹_› fun z21 h => ?_
      exact rtV_v (u := z21) h

abbrev st__law_leaf : Stmt := topS 24
abbrev N__law_leaf : List Str := ["_law_cell"]
abbrev vs__law_leaf : List Bool := [true]
abbrev gl__law_leaf : List Str := []
theorem sc__law_leaf : FnScope N__law_leaf ["_law_cell"] (defScope st__law_leaf) := ⟨rfl, rfl, rfl, by decide +kernel, rfl, by decide +kernel, by decide +kernel⟩
theorem gd__law_leaf : goodC N__law_leaf (defScope st__law_leaf) vs__law_leaf vs__law_leaf gl__law_leaf = true := by decide +kernel
@[reducible] def cx__law_leaf (G : Gl) (k : Nat) : Pl.Ctx := G.cx N__law_leaf (defScope st__law_leaf) vs__law_leaf vs__law_leaf gl__law_leaf k

theorem ok__law_leaf (T : Tp G κ) : ∀ k, G.fn k "_law_leaf" 1 (spV κ 1 (sh__law_leaf k))
  | 0 => fn_none T.d__law_leaf (spV_none fun us => rfl)
  | kk + 1 => by
    refine def_V T.d__law_leaf sc__law_leaf gd__law_leaf fun us hl Q Eh h => ?_
    have hE : EI κ Eh (erM κ Eh) := EI.erM
    obtain ⟨v_cell, rfl⟩ := len1 hl
    change WSs _ [some (em κ v_cell)] _ (_ :: _) _
    refine wss_cons ?_
    refine ws_ret ?_
    refine we_ixM (κ := κ) ?_
    refine we_f ?_
    refine wn_lst ?_
    refine wa_cons ?_ rfl
    refine we_tup ?_
    refine wa_cons ?_ rfl
    refine we_str ?_
    refine wa_cons ?_ rfl
    refine we_str ?_
    refine wa_nil ?_
    refine ⟨szd (by decide : 2 < 10000000), ?_⟩
    refine wa_cons ?_ rfl
    refine we_tup ?_
    refine wa_cons ?_ rfl
    refine we_str ?_
    refine wa_cons ?_ rfl
    refine we_str ?_
    refine wa_nil ?_
    refine ⟨szd (by decide : 2 < 10000000), ?_⟩
    refine wa_cons ?_ rfl
    refine we_tup ?_
    refine wa_cons ?_ rfl
    refine we_str ?_
    refine wa_cons ?_ rfl
    refine we_str ?_
    refine wa_nil ?_
    refine ⟨szd (by decide : 2 < 10000000), ?_⟩
    refine wa_cons ?_ rfl
    refine we_tup ?_
    refine wa_cons ?_ rfl
    refine we_str ?_
    refine wa_nil ?_
    refine ⟨szd (by decide : 1 < 10000000), ?_⟩
    refine wa_cons ?_ rfl
    refine we_tup ?_
    refine wa_cons ?_ rfl
    refine we_str ?_
    refine wa_cons ?_ rfl
    refine we_str ?_
    refine wa_nil ?_
    refine ⟨szd (by decide : 2 < 10000000), ?_⟩
    refine wa_cons ?_ rfl
    refine we_tup ?_
    refine wa_cons ?_ rfl
    refine we_str ?_
    refine wa_cons ?_ rfl
    refine we_str ?_
    refine wa_nil ?_
    refine ⟨szd (by decide : 2 < 10000000), ?_⟩
    refine wa_nil ?_
    refine ⟨szd (by decide : 6 < 10000000), ?_⟩
    refine we_modM (κ := κ) ?_
    refine we_name (i := 0) rfl rfl rfl ?_
    refine we_int ?_
    refine fin2 (f := modM) v_cell (.int 6) (vE (u := v_cell)) (vE (u := .int 6)) ‹_› fun z1 h => ?_
    refine fin2 (f := ixM) (.lst [.tup [.str "letter", .str "p"], .tup [.str "letter", .str "q"], .tup [.str "letter", .str "p"], .tup [.str "no"], .tup [.str "letter", .str "r"], .tup [.str "letter", .str "q"]]) z1 (vE (u := .lst [.tup [.str "letter", .str "p"], .tup [.str "letter", .str "q"], .tup [.str "letter", .str "p"], .tup [.str "no"], .tup [.str "letter", .str "r"], .tup [.str "letter", .str "q"]])) (vE (u := z1)) ‹_› fun z2 h => ?_
    exact rtV_v (u := z2) h

abbrev st__law_saying : Stmt := topS 25
abbrev N__law_saying : List Str := ["_law_script", "_law_at", "_law_many", "_law_most", "_law_stack", "_law_shown", "_law_k", "_law_cell", "_law_kind", "_law_other"]
abbrev vs__law_saying : List Bool := [true, true, true, true, true, true, true, true, true, true]
abbrev gl__law_saying : List Str := ["_law_leaf", "_law_cell_at", "range", "len"]
theorem sc__law_saying : FnScope N__law_saying ["_law_script", "_law_at", "_law_many", "_law_most"] (defScope st__law_saying) := ⟨rfl, rfl, rfl, by decide +kernel, rfl, by decide +kernel, by decide +kernel⟩
theorem gd__law_saying : goodC N__law_saying (defScope st__law_saying) vs__law_saying vs__law_saying gl__law_saying = true := by decide +kernel
@[reducible] def cx__law_saying (G : Gl) (k : Nat) : Pl.Ctx := G.cx N__law_saying (defScope st__law_saying) vs__law_saying vs__law_saying gl__law_saying k

theorem ok__law_saying (T : Tp G κ) : ∀ k, G.fn k "_law_saying" 4 (spV κ 4 (sh__law_saying k))
  | 0 => fn_none T.d__law_saying (spV_none fun us => rfl)
  | kk + 1 => by
    have h__law_leaf := ok__law_leaf T kk
    have h__law_cell_at := ok__law_cell_at T kk
    refine def_V T.d__law_saying sc__law_saying gd__law_saying fun us hl Q Eh h => ?_
    have hE : EI κ Eh (erM κ Eh) := EI.erM
    obtain ⟨v_script, v_at, v_many, v_most, rfl⟩ := len4 hl
    change WSs _ [some (em κ v_script), some (em κ v_at), some (em κ v_many), some (em κ v_most), none, none, none, none, none, none] _ (_ :: _) _
    refine wss_cons ?_
    refine ws_set (i := 4) rfl rfl (we_o ?_) rfl
    refine wn_lst ?_
    refine wa_cons ?_ rfl
    refine we_callV (κ := κ) h__law_leaf (Nat.le_refl _) ⟨0, rfl⟩ ?_
    refine wa_cons ?_ rfl
    refine we_callV (κ := κ) h__law_cell_at (Nat.le_refl _) ⟨1, rfl⟩ ?_
    refine wa_cons ?_ rfl
    refine we_name (i := 0) rfl rfl rfl ?_
    refine wa_cons ?_ rfl
    refine we_name (i := 1) rfl rfl rfl ?_
    refine wa_nil ?_
    refine finF (Γ := _) [v_script, v_at] rfl rfl hE ‹_› fun z1 h => ?_
    refine wa_nil ?_
    refine finF (Γ := _) [z1] rfl rfl hE ‹_› fun z2 h => ?_
    refine wa_nil ?_
    refine ⟨szd (by decide : 1 < 10000000), ?_⟩
    refine wss_cons ?_
    refine ws_set (i := 5) rfl rfl ?_ rfl
    refine we_int ?_
    refine wss_cons ?_
    refine ws_for [6] ?_
    refine wi_range1M (κ := κ) ⟨2, rfl⟩ T.z_range ?_
    refine we_name (i := 2) rfl rfl rfl ?_
    refine fin1 (f := range1M) v_many (vE (u := v_many)) ‹_› fun it3 h => ?_
    refine loopN_m (fun (st : U × List U) (Γ : Pl.Env) (Λ : Cells) => ∃ (y0 : Option D) (y1 : Option D) (y2 : Option D) (y3 : Option D), Γ = [some (em κ v_script), some (em κ v_at), some (em κ v_many), some (em κ v_most), some (.loc 0), some (em κ st.1), y0, y1, y2, y3] ∧ Λ = [.lst (ems κ st.2)]) h ⟨_, _, _, _, rfl, rfl⟩ (fun st x6 Γ Λ Q1 hs h => ?_) (fun st Γ Λ hs h => ?_)
    · obtain ⟨v_shown_4, v_stack_5⟩ := st
      obtain ⟨y0, y1, y2, y3, rfl, rfl⟩ := hs
      refine wg_name (i := 6) rfl rfl ?_
      refine wss_cons ?_
      refine ws_set (i := 7) rfl rfl ?_ rfl
      refine we_callV (κ := κ) h__law_cell_at (Nat.le_refl _) ⟨1, rfl⟩ ?_
      refine wa_cons ?_ rfl
      refine we_name (i := 0) rfl rfl rfl ?_
      refine wa_cons ?_ rfl
      refine we_addM (κ := κ) ?_
      refine we_addM (κ := κ) ?_
      refine we_name (i := 1) rfl rfl rfl ?_
      refine we_int ?_
      refine fin2 (f := addM) v_at (.int 1) (vE (u := v_at)) (vE (u := .int 1)) ‹_› fun z7 h => ?_
      refine we_name (i := 6) rfl rfl rfl ?_
      refine fin2 (f := addM) z7 x6 (vE (u := z7)) (vE (u := x6)) ‹_› fun z8 h => ?_
      refine wa_nil ?_
      refine finF (Γ := _) [v_script, z8] rfl rfl hE ‹_› fun z9 h => ?_
      refine wss_cons ?_
      refine ws_set (i := 8) rfl rfl ?_ rfl
      refine we_modM (κ := κ) ?_
      refine we_name (i := 7) rfl rfl rfl ?_
      refine we_int ?_
      refine fin2 (f := modM) z9 (.int 8) (vE (u := z9)) (vE (u := .int 8)) ‹_› fun z10 h => ?_
      refine wss_cons ?_
      refine ws_cutM (fun (st : U × List U) (Γ : Pl.Env) (Λ : Cells) => ∃ (y0 : Option D), Γ = [some (em κ v_script), some (em κ v_at), some (em κ v_many), some (em κ v_most), some (.loc 0), some (em κ st.1), some (em κ x6), some (em κ z9), some (em κ z10), y0] ∧ Λ = [.lst (ems κ st.2)]) h (fun Q1 h => ?_) (fun st Γ Λ hs h => ?_)
      · refine ws_if ?_
        refine wt_cutM ‹_› (fun Q1 h => ?_) (fun b16 h => ?_)
        · refine wt_ww (ww_or ?_)
          refine wt_eqM (κ := κ) ?_
          refine we_name (i := 8) rfl rfl rfl ?_
          refine we_int ?_
          refine fin2 (f := eqM) z10 (.int 0) (vE (u := z10)) (vE (u := .int 0)) ‹_› fun b11 h => ?_
          refine ite_m ‹_› (fun h => ?_) (fun h => ?_)
          · exact ⟨rfl, h⟩
          · refine ww_or1 ?_
            refine wt_cutM ‹_› (fun Q1 h => ?_) (fun b15 h => ?_)
            · refine wt_ww (ww_and ?_)
              refine wt_gtM (κ := κ) ?_
              refine we_name (i := 8) rfl rfl rfl ?_
              refine we_int ?_
              refine fin2 (f := gtM) z10 (.int 4) (vE (u := z10)) (vE (u := .int 4)) ‹_› fun b12 h => ?_
              refine ite_m ‹_› (fun h => ?_) (fun h => ?_)
              · refine ww_and1 ?_
                refine wt_ltM (κ := κ) ?_
                refine we_lenM (κ := κ) ⟨3, rfl⟩ T.z_len ?_
                refine we_name (i := 4) rfl rfl rfl ?_
                refine fin1 (f := lenM) (.lst v_stack_5) (vL rfl) ‹_› fun z13 h => ?_
                refine we_int ?_
                refine fin2 (f := ltM) z13 (.int 2) (vE (u := z13)) (vE (u := .int 2)) ‹_› fun b14 h => ?_
                exact ⟨rfl, h⟩
              · exact ⟨rfl, h⟩
            exact ⟨rfl, h⟩
        refine ite_m ‹_› (fun h => ?_) (fun h => ?_)
        · refine wss_cons ?_
          refine ws_expr ?_
          refine we_appM (κ := κ) 0 ?_
          refine we_name (i := 4) rfl rfl rfl ?_
          refine ⟨rfl, ⟨v_stack_5, rfl⟩, ?_⟩
          refine we_callV (κ := κ) h__law_leaf (Nat.le_refl _) ⟨0, rfl⟩ ?_
          refine wa_cons ?_ rfl
          refine we_fdivM (κ := κ) ?_
          refine we_name (i := 7) rfl rfl rfl ?_
          refine we_int ?_
          refine fin2 (f := fdivM) z9 (.int 8) (vE (u := z9)) (vE (u := .int 8)) ‹_› fun z17 h => ?_
          refine wa_nil ?_
          refine finF (Γ := _) [z17] rfl rfl hE ‹_› fun z18 h => ?_
          refine finA (f := appM) v_stack_5 z18 rfl ‹_› fun l19 h => ?_
          refine wss_nil ?_
          exact ⟨(v_shown_4, l19), ⟨_, rfl, rfl⟩, h⟩
        · refine wss_cons ?_
          refine ws_cutM (fun (st : U × List U) (Γ : Pl.Env) (Λ : Cells) => ∃ (y0 : Option D), Γ = [some (em κ v_script), some (em κ v_at), some (em κ v_many), some (em κ v_most), some (.loc 0), some (em κ st.1), some (em κ x6), some (em κ z9), some (em κ z10), y0] ∧ Λ = [.lst (ems κ st.2)]) h (fun Q1 h => ?_) (fun st Γ Λ hs h => ?_)
          · refine ws_if ?_
            refine wt_eqM (κ := κ) ?_
            refine we_name (i := 8) rfl rfl rfl ?_
            refine we_int ?_
            refine fin2 (f := eqM) z10 (.int 1) (vE (u := z10)) (vE (u := .int 1)) ‹_› fun b20 h => ?_
            refine ite_m ‹_› (fun h => ?_) (fun h => ?_)
            · refine wss_cons ?_
              refine ws_expr ?_
              refine we_appM (κ := κ) 0 ?_
              refine we_name (i := 4) rfl rfl rfl ?_
              refine ⟨rfl, ⟨v_stack_5, rfl⟩, ?_⟩
              refine we_tup ?_
              refine wa_cons ?_ rfl
              refine we_str ?_
              refine wa_cons ?_ rfl
              refine we_popM (κ := κ) 0 ?_
              refine we_name (i := 4) rfl rfl rfl ?_
              refine ⟨rfl, finC (f := popM) v_stack_5 rfl h fun (z21, l22) h => ?_⟩
              refine wa_nil ?_
              refine ⟨szd (by decide : 2 < 10000000), ?_⟩
              refine finA (f := appM) l22 (.tup [.str "not", z21]) rfl ‹_› fun l24 h => ?_
              refine wss_nil ?_
              exact ⟨(v_shown_4, l24), ⟨_, rfl, rfl⟩, h⟩
            · refine wss_cons ?_
              refine ws_cutM (fun (st : U × List U) (Γ : Pl.Env) (Λ : Cells) => ∃ (y0 : Option D), Γ = [some (em κ v_script), some (em κ v_at), some (em κ v_many), some (em κ v_most), some (.loc 0), some (em κ st.1), some (em κ x6), some (em κ z9), some (em κ z10), y0] ∧ Λ = [.lst (ems κ st.2)]) h (fun Q1 h => ?_) (fun st Γ Λ hs h => ?_)
              · refine ws_if ?_
                refine wt_cutM ‹_› (fun Q1 h => ?_) (fun b27 h => ?_)
                · refine wt_ww (ww_and ?_)
                  refine wt_ltM (κ := κ) ?_
                  refine we_name (i := 8) rfl rfl rfl ?_
                  refine we_int ?_
                  refine fin2 (f := ltM) z10 (.int 5) (vE (u := z10)) (vE (u := .int 5)) ‹_› fun b25 h => ?_
                  refine ite_m ‹_› (fun h => ?_) (fun h => ?_)
                  · refine ww_and1 ?_
                    refine wt_ltM (κ := κ) ?_
                    refine we_name (i := 5) rfl rfl rfl ?_
                    refine we_name (i := 3) rfl rfl rfl ?_
                    refine fin2 (f := ltM) v_shown_4 v_most (vE (u := v_shown_4)) (vE (u := v_most)) ‹_› fun b26 h => ?_
                    exact ⟨rfl, h⟩
                  · exact ⟨rfl, h⟩
                refine ite_m ‹_› (fun h => ?_) (fun h => ?_)
                · refine wss_cons ?_
                  refine ws_set (i := 5) rfl rfl ?_ rfl
                  refine we_addM (κ := κ) ?_
                  refine we_name (i := 5) rfl rfl rfl ?_
                  refine we_int ?_
                  refine fin2 (f := addM) v_shown_4 (.int 1) (vE (u := v_shown_4)) (vE (u := .int 1)) ‹_› fun z28 h => ?_
                  refine wss_cons ?_
                  refine ws_expr ?_
                  refine we_appM (κ := κ) 0 ?_
                  refine we_name (i := 4) rfl rfl rfl ?_
                  refine ⟨rfl, ⟨v_stack_5, rfl⟩, ?_⟩
                  refine we_tup ?_
                  refine wa_cons ?_ rfl
                  refine we_str ?_
                  refine wa_cons ?_ rfl
                  refine we_popM (κ := κ) 0 ?_
                  refine we_name (i := 4) rfl rfl rfl ?_
                  refine ⟨rfl, finC (f := popM) v_stack_5 rfl h fun (z29, l30) h => ?_⟩
                  refine wa_nil ?_
                  refine ⟨szd (by decide : 2 < 10000000), ?_⟩
                  refine finA (f := appM) l30 (.tup [.str "shown", z29]) rfl ‹_› fun l32 h => ?_
                  refine wss_nil ?_
                  exact ⟨(z28, l32), ⟨_, rfl, rfl⟩, h⟩
                · refine wss_cons ?_
                  refine ws_cutM (fun (st : List U) (Γ : Pl.Env) (Λ : Cells) => ∃ (y0 : Option D), Γ = [some (em κ v_script), some (em κ v_at), some (em κ v_many), some (em κ v_most), some (.loc 0), some (em κ v_shown_4), some (em κ x6), some (em κ z9), some (em κ z10), y0] ∧ Λ = [.lst (ems κ st)]) h (fun Q1 h => ?_) (fun v_stack_45 Γ Λ hs h => ?_)
                  · refine ws_if ?_
                    refine wt_gtM (κ := κ) ?_
                    refine we_lenM (κ := κ) ⟨3, rfl⟩ T.z_len ?_
                    refine we_name (i := 4) rfl rfl rfl ?_
                    refine fin1 (f := lenM) (.lst v_stack_5) (vL rfl) ‹_› fun z33 h => ?_
                    refine we_int ?_
                    refine fin2 (f := gtM) z33 (.int 1) (vE (u := z33)) (vE (u := .int 1)) ‹_› fun b34 h => ?_
                    refine ite_m ‹_› (fun h => ?_) (fun h => ?_)
                    · refine wss_cons ?_
                      refine ws_set (i := 9) rfl rfl ?_ rfl
                      refine we_popM (κ := κ) 0 ?_
                      refine we_name (i := 4) rfl rfl rfl ?_
                      refine ⟨rfl, finC (f := popM) v_stack_5 rfl h fun (z35, l36) h => ?_⟩
                      refine wss_cons ?_
                      refine ws_expr ?_
                      refine we_appM (κ := κ) 0 ?_
                      refine we_name (i := 4) rfl rfl rfl ?_
                      refine ⟨rfl, ⟨l36, rfl⟩, ?_⟩
                      refine we_tup ?_
                      refine wa_cons ?_ rfl
                      refine we_ixM (κ := κ) ?_
                      refine we_f ?_
                      refine wn_lst ?_
                      refine wa_cons ?_ rfl
                      refine we_str ?_
                      refine wa_cons ?_ rfl
                      refine we_str ?_
                      refine wa_cons ?_ rfl
                      refine we_str ?_
                      refine wa_nil ?_
                      refine ⟨szd (by decide : 3 < 10000000), ?_⟩
                      refine we_modM (κ := κ) ?_
                      refine we_fdivM (κ := κ) ?_
                      refine we_name (i := 7) rfl rfl rfl ?_
                      refine we_int ?_
                      refine fin2 (f := fdivM) z9 (.int 8) (vE (u := z9)) (vE (u := .int 8)) ‹_› fun z38 h => ?_
                      refine we_int ?_
                      refine fin2 (f := modM) z38 (.int 3) (vE (u := z38)) (vE (u := .int 3)) ‹_› fun z39 h => ?_
                      refine fin2 (f := ixM) (.lst [.str "and", .str "or", .str "if"]) z39 (vE (u := .lst [.str "and", .str "or", .str "if"])) (vE (u := z39)) ‹_› fun z40 h => ?_
                      refine wa_cons ?_ rfl
                      refine we_popM (κ := κ) 0 ?_
                      refine we_name (i := 4) rfl rfl rfl ?_
                      refine ⟨rfl, finC (f := popM) l36 rfl h fun (z41, l42) h => ?_⟩
                      refine wa_cons ?_ rfl
                      refine we_name (i := 9) rfl rfl rfl ?_
                      refine wa_nil ?_
                      refine ⟨szd (by decide : 3 < 10000000), ?_⟩
                      refine finA (f := appM) l42 (.tup [z40, z41, z35]) rfl ‹_› fun l44 h => ?_
                      refine wss_nil ?_
                      exact ⟨l44, ⟨_, rfl, rfl⟩, h⟩
                    · refine wss_nil ?_
                      exact ⟨v_stack_5, ⟨_, rfl, rfl⟩, h⟩
                  · obtain ⟨y0, rfl, rfl⟩ := hs
                    refine wss_nil ?_
                    exact ⟨(v_shown_4, v_stack_45), ⟨_, rfl, rfl⟩, h⟩
              · obtain ⟨v_shown_46, v_stack_47⟩ := st
                obtain ⟨y0, rfl, rfl⟩ := hs
                refine wss_nil ?_
                exact ⟨(v_shown_46, v_stack_47), ⟨_, rfl, rfl⟩, h⟩
          · obtain ⟨v_shown_48, v_stack_49⟩ := st
            obtain ⟨y0, rfl, rfl⟩ := hs
            refine wss_nil ?_
            exact ⟨(v_shown_48, v_stack_49), ⟨_, rfl, rfl⟩, h⟩
      · obtain ⟨v_shown_50, v_stack_51⟩ := st
        obtain ⟨y0, rfl, rfl⟩ := hs
        refine wss_nil ?_
        exact ⟨(v_shown_50, v_stack_51), ⟨_, _, _, _, rfl, rfl⟩, h⟩
    · obtain ⟨v_shown_52, v_stack_53⟩ := st
      obtain ⟨y0, y1, y2, y3, rfl, rfl⟩ := hs
      refine wss_cons ?_
      refine whN_m (fun (st : List U) (Γ : Pl.Env) (Λ : Cells) => ∃ (y0 : Option D) (y1 : Option D) (y2 : Option D) (y3 : Option D), Γ = [some (em κ v_script), some (em κ v_at), some (em κ v_many), some (em κ v_most), some (.loc 0), some (em κ v_shown_52), y0, y1, y2, y3] ∧ Λ = [.lst (ems κ st)]) h ⟨_, _, _, _, rfl, rfl⟩ (fun v_stack_54 Γ Λ Q1 hs h => ?_) (fun v_stack_57 Γ Λ Q1 hs h => ?_) (fun v_stack_68 Γ Λ hs h => ?_)
      · obtain ⟨y0, y1, y2, y3, rfl, rfl⟩ := hs
        refine wt_gtM (κ := κ) ?_
        refine we_lenM (κ := κ) ⟨3, rfl⟩ T.z_len ?_
        refine we_name (i := 4) rfl rfl rfl ?_
        refine fin1 (f := lenM) (.lst v_stack_54) (vL rfl) ‹_› fun z55 h => ?_
        refine we_int ?_
        refine fin2 (f := gtM) z55 (.int 1) (vE (u := z55)) (vE (u := .int 1)) ‹_› fun b56 h => ?_
        exact ⟨rfl, h⟩
      · obtain ⟨y0, y1, y2, y3, rfl, rfl⟩ := hs
        refine wss_cons ?_
        refine ws_set (i := 9) rfl rfl ?_ rfl
        refine we_popM (κ := κ) 0 ?_
        refine we_name (i := 4) rfl rfl rfl ?_
        refine ⟨rfl, finC (f := popM) v_stack_57 rfl h fun (z58, l59) h => ?_⟩
        refine wss_cons ?_
        refine ws_expr ?_
        refine we_appM (κ := κ) 0 ?_
        refine we_name (i := 4) rfl rfl rfl ?_
        refine ⟨rfl, ⟨l59, rfl⟩, ?_⟩
        refine we_tup ?_
        refine wa_cons ?_ rfl
        refine we_ixM (κ := κ) ?_
        refine we_f ?_
        refine wn_lst ?_
        refine wa_cons ?_ rfl
        refine we_str ?_
        refine wa_cons ?_ rfl
        refine we_str ?_
        refine wa_cons ?_ rfl
        refine we_str ?_
        refine wa_nil ?_
        refine ⟨szd (by decide : 3 < 10000000), ?_⟩
        refine we_modM (κ := κ) ?_
        refine we_lenM (κ := κ) ⟨3, rfl⟩ T.z_len ?_
        refine we_name (i := 4) rfl rfl rfl ?_
        refine fin1 (f := lenM) (.lst l59) (vL rfl) ‹_› fun z61 h => ?_
        refine we_int ?_
        refine fin2 (f := modM) z61 (.int 3) (vE (u := z61)) (vE (u := .int 3)) ‹_› fun z62 h => ?_
        refine fin2 (f := ixM) (.lst [.str "if", .str "or", .str "and"]) z62 (vE (u := .lst [.str "if", .str "or", .str "and"])) (vE (u := z62)) ‹_› fun z63 h => ?_
        refine wa_cons ?_ rfl
        refine we_popM (κ := κ) 0 ?_
        refine we_name (i := 4) rfl rfl rfl ?_
        refine ⟨rfl, finC (f := popM) l59 rfl h fun (z64, l65) h => ?_⟩
        refine wa_cons ?_ rfl
        refine we_name (i := 9) rfl rfl rfl ?_
        refine wa_nil ?_
        refine ⟨szd (by decide : 3 < 10000000), ?_⟩
        refine finA (f := appM) l65 (.tup [z63, z64, z58]) rfl ‹_› fun l67 h => ?_
        refine wss_nil ?_
        exact ⟨l67, ⟨_, _, _, _, rfl, rfl⟩, h⟩
      · obtain ⟨y0, y1, y2, y3, rfl, rfl⟩ := hs
        refine wss_cons ?_
        refine ws_ret ?_
        refine we_ixM (κ := κ) ?_
        refine we_name (i := 4) rfl rfl rfl ?_
        refine we_int ?_
        refine fin2 (f := ixM) (.lst v_stack_68) (.int 0) (vL rfl) (vE (u := .int 0)) ‹_› fun z69 h => ?_
        exact rtV_v (u := z69) h

abbrev st__law_list : Stmt := topS 26
abbrev N__law_list : List Str := ["_law_script", "_law_at", "_law_many", "_law_most", "_law_made", "_law_k"]
abbrev vs__law_list : List Bool := [true, true, true, true, true, false]
abbrev gl__law_list : List Str := ["range", "_law_cell_at"]
theorem sc__law_list : FnScope N__law_list ["_law_script", "_law_at", "_law_many", "_law_most"] (defScope st__law_list) := ⟨rfl, rfl, rfl, by decide +kernel, rfl, by decide +kernel, by decide +kernel⟩
theorem gd__law_list : goodC N__law_list (defScope st__law_list) vs__law_list vs__law_list gl__law_list = true := by decide +kernel
@[reducible] def cx__law_list (G : Gl) (k : Nat) : Pl.Ctx := G.cx N__law_list (defScope st__law_list) vs__law_list vs__law_list gl__law_list k

theorem ok__law_list (T : Tp G κ) : ∀ k, G.fn k "_law_list" 4 (spN κ 4 (sh__law_list k))
  | 0 => fn_none T.d__law_list (spN_none fun us => rfl)
  | kk + 1 => by
    have h__law_saying := ok__law_saying T kk
    have h__law_cell_at := ok__law_cell_at T kk
    refine def_N T.d__law_list sc__law_list gd__law_list fun us hl Q Eh h => ?_
    have hE : EI κ Eh (erM κ Eh) := EI.erM
    obtain ⟨v_script, v_at, v_many, v_most, rfl⟩ := len4 hl
    change WSs _ [some (em κ v_script), some (em κ v_at), some (em κ v_many), some (em κ v_most), none, none] _ (_ :: _) _
    refine wss_cons ?_
    refine ws_setlc (i := 4) [("_law_k", 5)] [true, true, false, true, false, true] [false, false, false, false, false, true] ["_law_saying", "_law_cell_at"] [5] rfl rfl rfl rfl (by decide +kernel) (blkOk_by (by decide +kernel : blkC N__law_list (defScope st__law_list) _ [("_law_k", 5)] = true)) (good_blk (by decide +kernel : goodC N__law_list (relS _ (defScope st__law_list)) [true, true, false, true, false, true] [false, false, false, false, false, true] ["_law_saying", "_law_cell_at"] = true)) (sto_by (by decide +kernel : stoC N__law_list _ [false, false, false, false, false, true] = true)) (by decide) ?_
    refine wi_range1M (κ := κ) ⟨0, rfl⟩ T.z_range ?_
    refine we_name (i := 2) rfl rfl rfl ?_
    refine fin1 (f := range1M) v_many (vE (u := v_many)) ‹_› fun it1 h => ?_
    refine comp_m h (fun x2 Q1 h => ?_) (fun zs3 h => ?_)
    · have hE : EI κ no ER.none := EI.no
      refine wg_name (i := 5) rfl rfl ?_
      refine we_callV (κ := κ) h__law_saying (Nat.le_refl _) ⟨0, rfl⟩ ?_
      refine wa_cons ?_ rfl
      refine we_name (i := 0) rfl rfl rfl ?_
      refine wa_cons ?_ rfl
      refine we_addM (κ := κ) ?_
      refine we_name (i := 1) rfl rfl rfl ?_
      refine we_mulM (κ := κ) ?_
      refine we_int ?_
      refine we_name (i := 5) rfl rfl rfl ?_
      refine fin2 (f := mulM) (.int 7) x2 (vE (u := .int 7)) (vE (u := x2)) ‹_› fun z4 h => ?_
      refine fin2 (f := addM) v_at z4 (vE (u := v_at)) (vE (u := z4)) ‹_› fun z5 h => ?_
      refine wa_cons ?_ rfl
      refine we_modM (κ := κ) ?_
      refine we_callV (κ := κ) h__law_cell_at (Nat.le_refl _) ⟨1, rfl⟩ ?_
      refine wa_cons ?_ rfl
      refine we_name (i := 0) rfl rfl rfl ?_
      refine wa_cons ?_ rfl
      refine we_addM (κ := κ) ?_
      refine we_name (i := 1) rfl rfl rfl ?_
      refine we_mulM (κ := κ) ?_
      refine we_int ?_
      refine we_name (i := 5) rfl rfl rfl ?_
      refine fin2 (f := mulM) (.int 7) x2 (vE (u := .int 7)) (vE (u := x2)) ‹_› fun z6 h => ?_
      refine fin2 (f := addM) v_at z6 (vE (u := v_at)) (vE (u := z6)) ‹_› fun z7 h => ?_
      refine wa_nil ?_
      refine finF (Γ := _) [v_script, z7] rfl rfl hE ‹_› fun z8 h => ?_
      refine we_int ?_
      refine fin2 (f := modM) z8 (.int 5) (vE (u := z8)) (vE (u := .int 5)) ‹_› fun z9 h => ?_
      refine wa_cons ?_ rfl
      refine we_name (i := 3) rfl rfl rfl ?_
      refine wa_nil ?_
      refine finF (Γ := _) [v_script, z5, z9, v_most] rfl rfl hE ‹_› fun z10 h => ?_
      exact ⟨rfl, z10, rfl, h⟩
    refine wss_cons ?_
    refine ws_retn ?_
    refine wn_addM (κ := κ) ?_
    refine we_name (i := 4) rfl rfl rfl ?_
    refine we_slM (κ := κ) ?_
    refine we_name (i := 4) rfl rfl rfl ?_
    refine we_modM (κ := κ) ?_
    refine we_fdivM (κ := κ) ?_
    refine we_callV (κ := κ) h__law_cell_at (Nat.le_refl _) ⟨1, rfl⟩ ?_
    refine wa_cons ?_ rfl
    refine we_name (i := 0) rfl rfl rfl ?_
    refine wa_cons ?_ rfl
    refine we_name (i := 1) rfl rfl rfl ?_
    refine wa_nil ?_
    refine finF (Γ := _) [v_script, v_at] rfl rfl hE ‹_› fun z11 h => ?_
    refine we_int ?_
    refine fin2 (f := fdivM) z11 (.int 8) (vE (u := z11)) (vE (u := .int 8)) ‹_› fun z12 h => ?_
    refine we_int ?_
    refine fin2 (f := modM) z12 (.int 2) (vE (u := z12)) (vE (u := .int 2)) ‹_› fun z13 h => ?_
    refine fin1 (f := endM) z13 (vE (u := z13)) ‹_› fun z14 h => ?_
    refine fin1 (f := fun u => slM u none z14) (.lst zs3) (vE (u := .lst zs3)) ‹_› fun z15 h => ?_
    refine fin2 (f := addnM) (.lst zs3) z15 (vE (u := .lst zs3)) (vE (u := z15)) ‹_› fun z16 h => ?_
    exact rtL_v (us := z16) h

abbrev st__law_unlike : Stmt := topS 22
abbrev N__law_unlike : List Str := ["_law_some", "_law_told_here", "_law_one"]
abbrev vs__law_unlike : List Bool := [true, true, true]
abbrev gl__law_unlike : List Str := ["sorted"]
theorem sc__law_unlike : FnScope N__law_unlike ["_law_some"] (defScope st__law_unlike) := ⟨rfl, rfl, rfl, by decide +kernel, rfl, by decide +kernel, by decide +kernel⟩
theorem gd__law_unlike : goodC N__law_unlike (defScope st__law_unlike) vs__law_unlike vs__law_unlike gl__law_unlike = true := by decide +kernel
@[reducible] def cx__law_unlike (G : Gl) (k : Nat) : Pl.Ctx := G.cx N__law_unlike (defScope st__law_unlike) vs__law_unlike vs__law_unlike gl__law_unlike k

theorem ok__law_unlike (T : Tp G κ) : ∀ k, G.fn k "_law_unlike" 1 (spN κ 1 (sh__law_unlike k))
  | 0 => fn_none T.d__law_unlike (spN_none fun us => rfl)
  | kk + 1 => by
    refine def_N T.d__law_unlike sc__law_unlike gd__law_unlike fun us hl Q Eh h => ?_
    have hE : EI κ Eh (erM κ Eh) := EI.erM
    obtain ⟨v_some, rfl⟩ := len1 hl
    change WSs _ [some (em κ v_some), none, none] _ (_ :: _) _
    refine wss_cons ?_
    refine ws_set (i := 1) rfl rfl (we_o ?_) rfl
    refine wn_lst ?_
    refine wa_nil ?_
    refine ⟨szd (by decide : 0 < 10000000), ?_⟩
    refine wss_cons ?_
    refine ws_for [2] ?_
    refine wi_LM (κ := κ) ?_
    refine we_f ?_
    refine wn_sortedM (κ := κ) ⟨0, rfl⟩ T.z_sorted ?_
    refine we_name (i := 0) rfl rfl rfl ?_
    refine fin1 (f := sortedM) v_some (vE (u := v_some)) ‹_› fun z1 h => ?_
    refine finI (f := iterL) (.lst z1) ‹_› fun it2 h => ?_
    refine loopN_m (fun (st : List U) (Γ : Pl.Env) (Λ : Cells) => ∃ (y0 : Option D), Γ = [some (em κ v_some), some (.loc 0), y0] ∧ Λ = [.lst (ems κ st)]) h ⟨_, rfl, rfl⟩ (fun v_told_here_3 x4 Γ Λ Q1 hs h => ?_) (fun v_told_here_12 Γ Λ hs h => ?_)
    · obtain ⟨y0, rfl, rfl⟩ := hs
      refine wg_name (i := 2) rfl rfl ?_
      refine wss_cons ?_
      refine ws_cutM (fun (st : List U) (Γ : Pl.Env) (Λ : Cells) => Γ = [some (em κ v_some), some (.loc 0), some (em κ x4)] ∧ Λ = [.lst (ems κ st)]) h (fun Q1 h => ?_) (fun v_told_here_11 Γ Λ hs h => ?_)
      · refine ws_if ?_
        refine wt_cutM ‹_› (fun Q1 h => ?_) (fun b9 h => ?_)
        · refine wt_ww (ww_or ?_)
          refine wt_eqM (κ := κ) ?_
          refine we_name (i := 1) rfl rfl rfl ?_
          refine we_f ?_
          refine wn_lst ?_
          refine wa_nil ?_
          refine ⟨szd (by decide : 0 < 10000000), ?_⟩
          refine fin2 (f := eqM) (.lst v_told_here_3) (.lst []) (vL rfl) (vE (u := .lst [])) ‹_› fun b5 h => ?_
          refine ite_m ‹_› (fun h => ?_) (fun h => ?_)
          · exact ⟨rfl, h⟩
          · refine ww_or1 ?_
            refine wt_neM (κ := κ) ?_
            refine we_ixM (κ := κ) ?_
            refine we_name (i := 1) rfl rfl rfl ?_
            refine we_negM (κ := κ) ?_
            refine we_int ?_
            refine fin1 (f := negM) (.int 1) (vE (u := .int 1)) ‹_› fun z6 h => ?_
            refine fin2 (f := ixM) (.lst v_told_here_3) z6 (vL rfl) (vE (u := z6)) ‹_› fun z7 h => ?_
            refine we_name (i := 2) rfl rfl rfl ?_
            refine fin2 (f := (nB eqM)) z7 x4 (vE (u := z7)) (vE (u := x4)) ‹_› fun b8 h => ?_
            exact ⟨rfl, h⟩
        refine ite_m ‹_› (fun h => ?_) (fun h => ?_)
        · refine wss_cons ?_
          refine ws_expr ?_
          refine we_appM (κ := κ) 0 ?_
          refine we_name (i := 1) rfl rfl rfl ?_
          refine ⟨rfl, ⟨v_told_here_3, rfl⟩, ?_⟩
          refine we_name (i := 2) rfl rfl rfl ?_
          refine finA (f := appM) v_told_here_3 x4 rfl ‹_› fun l10 h => ?_
          refine wss_nil ?_
          exact ⟨l10, ⟨rfl, rfl⟩, h⟩
        · refine wss_nil ?_
          exact ⟨v_told_here_3, ⟨rfl, rfl⟩, h⟩
      · obtain ⟨rfl, rfl⟩ := hs
        refine wss_nil ?_
        exact ⟨v_told_here_11, ⟨_, rfl, rfl⟩, h⟩
    · obtain ⟨y0, rfl, rfl⟩ := hs
      refine wss_cons ?_
      refine ws_ret ?_
      refine we_name (i := 1) rfl rfl rfl ?_
      exact rtL_o (us := v_told_here_12) rfl h

abbrev st__law_claim : Stmt := topS 27
abbrev N__law_claim : List Str := ["_law_left", "_law_right_here"]
abbrev vs__law_claim : List Bool := [true, true]
abbrev gl__law_claim : List Str := ["_law_unlike"]
theorem sc__law_claim : FnScope N__law_claim ["_law_left", "_law_right_here"] (defScope st__law_claim) := ⟨rfl, rfl, rfl, by decide +kernel, rfl, by decide +kernel, by decide +kernel⟩
theorem gd__law_claim : goodC N__law_claim (defScope st__law_claim) vs__law_claim vs__law_claim gl__law_claim = true := by decide +kernel
@[reducible] def cx__law_claim (G : Gl) (k : Nat) : Pl.Ctx := G.cx N__law_claim (defScope st__law_claim) vs__law_claim vs__law_claim gl__law_claim k

theorem ok__law_claim (T : Tp G κ) : ∀ k, G.fn k "_law_claim" 2 (spV κ 2 (sh__law_claim k))
  | 0 => fn_none T.d__law_claim (spV_none fun us => rfl)
  | kk + 1 => by
    have h__law_unlike := ok__law_unlike T kk
    refine def_V T.d__law_claim sc__law_claim gd__law_claim fun us hl Q Eh h => ?_
    have hE : EI κ Eh (erM κ Eh) := EI.erM
    obtain ⟨v_left, v_right_here, rfl⟩ := len2 hl
    change WSs _ [some (em κ v_left), some (em κ v_right_here)] _ (_ :: _) _
    refine wss_cons ?_
    refine ws_ret ?_
    refine we_tup ?_
    refine wa_cons ?_ rfl
    refine we_f ?_
    refine wn_callN (κ := κ) h__law_unlike (Nat.le_refl _) ⟨0, rfl⟩ ?_
    refine wa_cons ?_ rfl
    refine we_name (i := 0) rfl rfl rfl ?_
    refine wa_nil ?_
    refine finF (Γ := _) [v_left] rfl rfl hE ‹_› fun z1 h => ?_
    refine wa_cons ?_ rfl
    refine we_f ?_
    refine wn_callN (κ := κ) h__law_unlike (Nat.le_refl _) ⟨0, rfl⟩ ?_
    refine wa_cons ?_ rfl
    refine we_name (i := 1) rfl rfl rfl ?_
    refine wa_nil ?_
    refine finF (Γ := _) [v_right_here] rfl rfl hE ‹_› fun z2 h => ?_
    refine wa_nil ?_
    refine ⟨szd (by decide : 2 < 10000000), ?_⟩
    exact rtV_v (u := (.tup [.lst z1, .lst z2])) h

abbrev st__law_apart : Stmt := topS 28
abbrev N__law_apart : List Str := ["_law_left", "_law_right_here", "_law_rule", "_law_saying_here", "_law_word", "_law_one", "_law_other"]
abbrev vs__law_apart : List Bool := [true, true, true, true, true, true, true]
abbrev gl__law_apart : List Str := ["_law_claim"]
theorem sc__law_apart : FnScope N__law_apart ["_law_left", "_law_right_here", "_law_rule", "_law_saying_here"] (defScope st__law_apart) := ⟨rfl, rfl, rfl, by decide +kernel, rfl, by decide +kernel, by decide +kernel⟩
theorem gd__law_apart : goodC N__law_apart (defScope st__law_apart) vs__law_apart vs__law_apart gl__law_apart = true := by decide +kernel
@[reducible] def cx__law_apart (G : Gl) (k : Nat) : Pl.Ctx := G.cx N__law_apart (defScope st__law_apart) vs__law_apart vs__law_apart gl__law_apart k

theorem ok__law_apart (T : Tp G κ) : ∀ k, G.fn k "_law_apart" 4 (spV κ 4 (sh__law_apart k))
  | 0 => fn_none T.d__law_apart (spV_none fun us => rfl)
  | kk + 1 => by
    have h__law_claim := ok__law_claim T kk
    refine def_V T.d__law_apart sc__law_apart gd__law_apart fun us hl Q Eh h => ?_
    have hE : EI κ Eh (erM κ Eh) := EI.erM
    obtain ⟨v_left, v_right_here, v_rule, v_saying_here, rfl⟩ := len4 hl
    change WSs _ [some (em κ v_left), some (em κ v_right_here), some (em κ v_rule), some (em κ v_saying_here), none, none, none] _ (_ :: _) _
    refine wss_cons ?_
    refine ws_set (i := 4) rfl rfl ?_ rfl
    refine we_ixM (κ := κ) ?_
    refine we_name (i := 3) rfl rfl rfl ?_
    refine we_int ?_
    refine fin2 (f := ixM) v_saying_here (.int 0) (vE (u := v_saying_here)) (vE (u := .int 0)) ‹_› fun z1 h => ?_
    refine wss_cons ?_
    refine ws_if ?_
    refine wt_eqM (κ := κ) ?_
    refine we_name (i := 4) rfl rfl rfl ?_
    refine we_str ?_
    refine fin2 (f := eqM) z1 (.str "not") (vE (u := z1)) (vE (u := .str "not")) ‹_› fun b2 h => ?_
    refine ite_m ‹_› (fun h => ?_) (fun h => ?_)
    · refine wss_cons ?_
      refine ws_if ?_
      refine wt_eqM (κ := κ) ?_
      refine we_name (i := 2) rfl rfl rfl ?_
      refine we_str ?_
      refine fin2 (f := eqM) v_rule (.str "left") (vE (u := v_rule)) (vE (u := .str "left")) ‹_› fun b3 h => ?_
      refine ite_m ‹_› (fun h => ?_) (fun h => ?_)
      · refine wss_cons ?_
        refine ws_ret ?_
        refine we_f ?_
        refine wn_lst ?_
        refine wa_cons ?_ rfl
        refine we_callV (κ := κ) h__law_claim (Nat.le_refl _) ⟨0, rfl⟩ ?_
        refine wa_cons ?_ rfl
        refine we_name (i := 0) rfl rfl rfl ?_
        refine wa_cons ?_ rfl
        refine we_addM (κ := κ) ?_
        refine we_name (i := 1) rfl rfl rfl ?_
        refine we_f ?_
        refine wn_lst ?_
        refine wa_cons ?_ rfl
        refine we_ixM (κ := κ) ?_
        refine we_name (i := 3) rfl rfl rfl ?_
        refine we_int ?_
        refine fin2 (f := ixM) v_saying_here (.int 1) (vE (u := v_saying_here)) (vE (u := .int 1)) ‹_› fun z4 h => ?_
        refine wa_nil ?_
        refine ⟨szd (by decide : 1 < 10000000), ?_⟩
        refine fin2 (f := addM) v_right_here (.lst [z4]) (vE (u := v_right_here)) (vE (u := .lst [z4])) ‹_› fun z5 h => ?_
        refine wa_nil ?_
        refine finF (Γ := _) [v_left, z5] rfl rfl hE ‹_› fun z6 h => ?_
        refine wa_nil ?_
        refine ⟨szd (by decide : 1 < 10000000), ?_⟩
        exact rtV_v (u := (.lst [z6])) h
      · refine wss_nil ?_
        refine wss_cons ?_
        refine ws_ret ?_
        refine we_f ?_
        refine wn_lst ?_
        refine wa_cons ?_ rfl
        refine we_callV (κ := κ) h__law_claim (Nat.le_refl _) ⟨0, rfl⟩ ?_
        refine wa_cons ?_ rfl
        refine we_addM (κ := κ) ?_
        refine we_name (i := 0) rfl rfl rfl ?_
        refine we_f ?_
        refine wn_lst ?_
        refine wa_cons ?_ rfl
        refine we_ixM (κ := κ) ?_
        refine we_name (i := 3) rfl rfl rfl ?_
        refine we_int ?_
        refine fin2 (f := ixM) v_saying_here (.int 1) (vE (u := v_saying_here)) (vE (u := .int 1)) ‹_› fun z7 h => ?_
        refine wa_nil ?_
        refine ⟨szd (by decide : 1 < 10000000), ?_⟩
        refine fin2 (f := addM) v_left (.lst [z7]) (vE (u := v_left)) (vE (u := .lst [z7])) ‹_› fun z8 h => ?_
        refine wa_cons ?_ rfl
        refine we_name (i := 1) rfl rfl rfl ?_
        refine wa_nil ?_
        refine finF (Γ := _) [z8, v_right_here] rfl rfl hE ‹_› fun z9 h => ?_
        refine wa_nil ?_
        refine ⟨szd (by decide : 1 < 10000000), ?_⟩
        exact rtV_v (u := (.lst [z9])) h
    · refine wss_nil ?_
      refine wss_cons ?_
      refine ws_if ?_
      refine wt_ninM (κ := κ) ?_
      refine we_name (i := 4) rfl rfl rfl ?_
      refine we_f ?_
      refine wn_lst ?_
      refine wa_cons ?_ rfl
      refine we_str ?_
      refine wa_cons ?_ rfl
      refine we_str ?_
      refine wa_cons ?_ rfl
      refine we_str ?_
      refine wa_nil ?_
      refine ⟨szd (by decide : 3 < 10000000), ?_⟩
      refine fin2 (f := (nB inM)) z1 (.lst [.str "and", .str "or", .str "if"]) (vE (u := z1)) (vE (u := .lst [.str "and", .str "or", .str "if"])) ‹_› fun b10 h => ?_
      refine ite_m ‹_› (fun h => ?_) (fun h => ?_)
      · refine wss_cons ?_
        refine ws_ret ?_
        refine we_non ?_
        exact rtV_v (u := .non) h
      · refine wss_nil ?_
        refine wss_cons ?_
        refine ws_sett [5, 6] ?_ rfl rfl
        refine we_slM (κ := κ) ?_
        refine we_name (i := 3) rfl rfl rfl ?_
        refine we_int ?_
        refine fin1 (f := endM) (.int 1) (vE (u := .int 1)) ‹_› fun z11 h => ?_
        refine fin1 (f := fun u => slM u z11 none) v_saying_here (vE (u := v_saying_here)) ‹_› fun z12 h => ?_
        refine tg2 z12 ‹_› fun v_one_13 v_other_14 h => ?_
        refine wg_tup ?_ rfl
        refine wgs_cons1 ?_ rfl
        refine wg_name (i := 5) rfl rfl ?_
        refine wgs_cons1 ?_ rfl
        refine wg_name (i := 6) rfl rfl ?_
        refine wgs_nil ?_
        refine wss_cons ?_
        refine ws_if ?_
        refine wt_cutM ‹_› (fun Q1 h => ?_) (fun b17 h => ?_)
        · refine wt_ww (ww_and ?_)
          refine wt_eqM (κ := κ) ?_
          refine we_name (i := 2) rfl rfl rfl ?_
          refine we_str ?_
          refine fin2 (f := eqM) v_rule (.str "left") (vE (u := v_rule)) (vE (u := .str "left")) ‹_› fun b15 h => ?_
          refine ite_m ‹_› (fun h => ?_) (fun h => ?_)
          · refine ww_and1 ?_
            refine wt_eqM (κ := κ) ?_
            refine we_name (i := 4) rfl rfl rfl ?_
            refine we_str ?_
            refine fin2 (f := eqM) z1 (.str "and") (vE (u := z1)) (vE (u := .str "and")) ‹_› fun b16 h => ?_
            exact ⟨rfl, h⟩
          · exact ⟨rfl, h⟩
        refine ite_m ‹_› (fun h => ?_) (fun h => ?_)
        · refine wss_cons ?_
          refine ws_ret ?_
          refine we_f ?_
          refine wn_lst ?_
          refine wa_cons ?_ rfl
          refine we_callV (κ := κ) h__law_claim (Nat.le_refl _) ⟨0, rfl⟩ ?_
          refine wa_cons ?_ rfl
          refine we_addM (κ := κ) ?_
          refine we_name (i := 0) rfl rfl rfl ?_
          refine we_f ?_
          refine wn_lst ?_
          refine wa_cons ?_ rfl
          refine we_name (i := 5) rfl rfl rfl ?_
          refine wa_cons ?_ rfl
          refine we_name (i := 6) rfl rfl rfl ?_
          refine wa_nil ?_
          refine ⟨szd (by decide : 2 < 10000000), ?_⟩
          refine fin2 (f := addM) v_left (.lst [v_one_13, v_other_14]) (vE (u := v_left)) (vE (u := .lst [v_one_13, v_other_14])) ‹_› fun z18 h => ?_
          refine wa_cons ?_ rfl
          refine we_name (i := 1) rfl rfl rfl ?_
          refine wa_nil ?_
          refine finF (Γ := _) [z18, v_right_here] rfl rfl hE ‹_› fun z19 h => ?_
          refine wa_nil ?_
          refine ⟨szd (by decide : 1 < 10000000), ?_⟩
          exact rtV_v (u := (.lst [z19])) h
        · refine wss_nil ?_
          refine wss_cons ?_
          refine ws_if ?_
          refine wt_cutM ‹_› (fun Q1 h => ?_) (fun b22 h => ?_)
          · refine wt_ww (ww_and ?_)
            refine wt_eqM (κ := κ) ?_
            refine we_name (i := 2) rfl rfl rfl ?_
            refine we_str ?_
            refine fin2 (f := eqM) v_rule (.str "right") (vE (u := v_rule)) (vE (u := .str "right")) ‹_› fun b20 h => ?_
            refine ite_m ‹_› (fun h => ?_) (fun h => ?_)
            · refine ww_and1 ?_
              refine wt_eqM (κ := κ) ?_
              refine we_name (i := 4) rfl rfl rfl ?_
              refine we_str ?_
              refine fin2 (f := eqM) z1 (.str "or") (vE (u := z1)) (vE (u := .str "or")) ‹_› fun b21 h => ?_
              exact ⟨rfl, h⟩
            · exact ⟨rfl, h⟩
          refine ite_m ‹_› (fun h => ?_) (fun h => ?_)
          · refine wss_cons ?_
            refine ws_ret ?_
            refine we_f ?_
            refine wn_lst ?_
            refine wa_cons ?_ rfl
            refine we_callV (κ := κ) h__law_claim (Nat.le_refl _) ⟨0, rfl⟩ ?_
            refine wa_cons ?_ rfl
            refine we_name (i := 0) rfl rfl rfl ?_
            refine wa_cons ?_ rfl
            refine we_addM (κ := κ) ?_
            refine we_name (i := 1) rfl rfl rfl ?_
            refine we_f ?_
            refine wn_lst ?_
            refine wa_cons ?_ rfl
            refine we_name (i := 5) rfl rfl rfl ?_
            refine wa_cons ?_ rfl
            refine we_name (i := 6) rfl rfl rfl ?_
            refine wa_nil ?_
            refine ⟨szd (by decide : 2 < 10000000), ?_⟩
            refine fin2 (f := addM) v_right_here (.lst [v_one_13, v_other_14]) (vE (u := v_right_here)) (vE (u := .lst [v_one_13, v_other_14])) ‹_› fun z23 h => ?_
            refine wa_nil ?_
            refine finF (Γ := _) [v_left, z23] rfl rfl hE ‹_› fun z24 h => ?_
            refine wa_nil ?_
            refine ⟨szd (by decide : 1 < 10000000), ?_⟩
            exact rtV_v (u := (.lst [z24])) h
          · refine wss_nil ?_
            refine wss_cons ?_
            refine ws_if ?_
            refine wt_cutM ‹_› (fun Q1 h => ?_) (fun b27 h => ?_)
            · refine wt_ww (ww_and ?_)
              refine wt_eqM (κ := κ) ?_
              refine we_name (i := 2) rfl rfl rfl ?_
              refine we_str ?_
              refine fin2 (f := eqM) v_rule (.str "right") (vE (u := v_rule)) (vE (u := .str "right")) ‹_› fun b25 h => ?_
              refine ite_m ‹_› (fun h => ?_) (fun h => ?_)
              · refine ww_and1 ?_
                refine wt_eqM (κ := κ) ?_
                refine we_name (i := 4) rfl rfl rfl ?_
                refine we_str ?_
                refine fin2 (f := eqM) z1 (.str "if") (vE (u := z1)) (vE (u := .str "if")) ‹_› fun b26 h => ?_
                exact ⟨rfl, h⟩
              · exact ⟨rfl, h⟩
            refine ite_m ‹_› (fun h => ?_) (fun h => ?_)
            · refine wss_cons ?_
              refine ws_ret ?_
              refine we_f ?_
              refine wn_lst ?_
              refine wa_cons ?_ rfl
              refine we_callV (κ := κ) h__law_claim (Nat.le_refl _) ⟨0, rfl⟩ ?_
              refine wa_cons ?_ rfl
              refine we_addM (κ := κ) ?_
              refine we_name (i := 0) rfl rfl rfl ?_
              refine we_f ?_
              refine wn_lst ?_
              refine wa_cons ?_ rfl
              refine we_name (i := 5) rfl rfl rfl ?_
              refine wa_nil ?_
              refine ⟨szd (by decide : 1 < 10000000), ?_⟩
              refine fin2 (f := addM) v_left (.lst [v_one_13]) (vE (u := v_left)) (vE (u := .lst [v_one_13])) ‹_› fun z28 h => ?_
              refine wa_cons ?_ rfl
              refine we_addM (κ := κ) ?_
              refine we_name (i := 1) rfl rfl rfl ?_
              refine we_f ?_
              refine wn_lst ?_
              refine wa_cons ?_ rfl
              refine we_name (i := 6) rfl rfl rfl ?_
              refine wa_nil ?_
              refine ⟨szd (by decide : 1 < 10000000), ?_⟩
              refine fin2 (f := addM) v_right_here (.lst [v_other_14]) (vE (u := v_right_here)) (vE (u := .lst [v_other_14])) ‹_› fun z29 h => ?_
              refine wa_nil ?_
              refine finF (Γ := _) [z28, z29] rfl rfl hE ‹_› fun z30 h => ?_
              refine wa_nil ?_
              refine ⟨szd (by decide : 1 < 10000000), ?_⟩
              exact rtV_v (u := (.lst [z30])) h
            · refine wss_nil ?_
              refine wss_cons ?_
              refine ws_if ?_
              refine wt_cutM ‹_› (fun Q1 h => ?_) (fun b33 h => ?_)
              · refine wt_ww (ww_and ?_)
                refine wt_eqM (κ := κ) ?_
                refine we_name (i := 2) rfl rfl rfl ?_
                refine we_str ?_
                refine fin2 (f := eqM) v_rule (.str "left") (vE (u := v_rule)) (vE (u := .str "left")) ‹_› fun b31 h => ?_
                refine ite_m ‹_› (fun h => ?_) (fun h => ?_)
                · refine ww_and1 ?_
                  refine wt_eqM (κ := κ) ?_
                  refine we_name (i := 4) rfl rfl rfl ?_
                  refine we_str ?_
                  refine fin2 (f := eqM) z1 (.str "if") (vE (u := z1)) (vE (u := .str "if")) ‹_› fun b32 h => ?_
                  exact ⟨rfl, h⟩
                · exact ⟨rfl, h⟩
              refine ite_m ‹_› (fun h => ?_) (fun h => ?_)
              · refine wss_cons ?_
                refine ws_ret ?_
                refine we_f ?_
                refine wn_lst ?_
                refine wa_cons ?_ rfl
                refine we_callV (κ := κ) h__law_claim (Nat.le_refl _) ⟨0, rfl⟩ ?_
                refine wa_cons ?_ rfl
                refine we_name (i := 0) rfl rfl rfl ?_
                refine wa_cons ?_ rfl
                refine we_addM (κ := κ) ?_
                refine we_name (i := 1) rfl rfl rfl ?_
                refine we_f ?_
                refine wn_lst ?_
                refine wa_cons ?_ rfl
                refine we_name (i := 5) rfl rfl rfl ?_
                refine wa_nil ?_
                refine ⟨szd (by decide : 1 < 10000000), ?_⟩
                refine fin2 (f := addM) v_right_here (.lst [v_one_13]) (vE (u := v_right_here)) (vE (u := .lst [v_one_13])) ‹_› fun z34 h => ?_
                refine wa_nil ?_
                refine finF (Γ := _) [v_left, z34] rfl rfl hE ‹_› fun z35 h => ?_
                refine wa_cons ?_ rfl
                refine we_callV (κ := κ) h__law_claim (Nat.le_refl _) ⟨0, rfl⟩ ?_
                refine wa_cons ?_ rfl
                refine we_addM (κ := κ) ?_
                refine we_name (i := 0) rfl rfl rfl ?_
                refine we_f ?_
                refine wn_lst ?_
                refine wa_cons ?_ rfl
                refine we_name (i := 6) rfl rfl rfl ?_
                refine wa_nil ?_
                refine ⟨szd (by decide : 1 < 10000000), ?_⟩
                refine fin2 (f := addM) v_left (.lst [v_other_14]) (vE (u := v_left)) (vE (u := .lst [v_other_14])) ‹_› fun z36 h => ?_
                refine wa_cons ?_ rfl
                refine we_name (i := 1) rfl rfl rfl ?_
                refine wa_nil ?_
                refine finF (Γ := _) [z36, v_right_here] rfl rfl hE ‹_› fun z37 h => ?_
                refine wa_nil ?_
                refine ⟨szd (by decide : 2 < 10000000), ?_⟩
                exact rtV_v (u := (.lst [z35, z37])) h
              · refine wss_nil ?_
                refine wss_cons ?_
                refine ws_if ?_
                refine wt_eqM (κ := κ) ?_
                refine we_name (i := 2) rfl rfl rfl ?_
                refine we_str ?_
                refine fin2 (f := eqM) v_rule (.str "left") (vE (u := v_rule)) (vE (u := .str "left")) ‹_› fun b38 h => ?_
                refine ite_m ‹_› (fun h => ?_) (fun h => ?_)
                · refine wss_cons ?_
                  refine ws_ret ?_
                  refine we_f ?_
                  refine wn_lst ?_
                  refine wa_cons ?_ rfl
                  refine we_callV (κ := κ) h__law_claim (Nat.le_refl _) ⟨0, rfl⟩ ?_
                  refine wa_cons ?_ rfl
                  refine we_addM (κ := κ) ?_
                  refine we_name (i := 0) rfl rfl rfl ?_
                  refine we_f ?_
                  refine wn_lst ?_
                  refine wa_cons ?_ rfl
                  refine we_name (i := 5) rfl rfl rfl ?_
                  refine wa_nil ?_
                  refine ⟨szd (by decide : 1 < 10000000), ?_⟩
                  refine fin2 (f := addM) v_left (.lst [v_one_13]) (vE (u := v_left)) (vE (u := .lst [v_one_13])) ‹_› fun z39 h => ?_
                  refine wa_cons ?_ rfl
                  refine we_name (i := 1) rfl rfl rfl ?_
                  refine wa_nil ?_
                  refine finF (Γ := _) [z39, v_right_here] rfl rfl hE ‹_› fun z40 h => ?_
                  refine wa_cons ?_ rfl
                  refine we_callV (κ := κ) h__law_claim (Nat.le_refl _) ⟨0, rfl⟩ ?_
                  refine wa_cons ?_ rfl
                  refine we_addM (κ := κ) ?_
                  refine we_name (i := 0) rfl rfl rfl ?_
                  refine we_f ?_
                  refine wn_lst ?_
                  refine wa_cons ?_ rfl
                  refine we_name (i := 6) rfl rfl rfl ?_
                  refine wa_nil ?_
                  refine ⟨szd (by decide : 1 < 10000000), ?_⟩
                  refine fin2 (f := addM) v_left (.lst [v_other_14]) (vE (u := v_left)) (vE (u := .lst [v_other_14])) ‹_› fun z41 h => ?_
                  refine wa_cons ?_ rfl
                  refine we_name (i := 1) rfl rfl rfl ?_
                  refine wa_nil ?_
                  refine finF (Γ := _) [z41, v_right_here] rfl rfl hE ‹_› fun z42 h => ?_
                  refine wa_nil ?_
                  refine ⟨szd (by decide : 2 < 10000000), ?_⟩
                  exact rtV_v (u := (.lst [z40, z42])) h
                · refine wss_nil ?_
                  refine wss_cons ?_
                  refine ws_ret ?_
                  refine we_f ?_
                  refine wn_lst ?_
                  refine wa_cons ?_ rfl
                  refine we_callV (κ := κ) h__law_claim (Nat.le_refl _) ⟨0, rfl⟩ ?_
                  refine wa_cons ?_ rfl
                  refine we_name (i := 0) rfl rfl rfl ?_
                  refine wa_cons ?_ rfl
                  refine we_addM (κ := κ) ?_
                  refine we_name (i := 1) rfl rfl rfl ?_
                  refine we_f ?_
                  refine wn_lst ?_
                  refine wa_cons ?_ rfl
                  refine we_name (i := 5) rfl rfl rfl ?_
                  refine wa_nil ?_
                  refine ⟨szd (by decide : 1 < 10000000), ?_⟩
                  refine fin2 (f := addM) v_right_here (.lst [v_one_13]) (vE (u := v_right_here)) (vE (u := .lst [v_one_13])) ‹_› fun z43 h => ?_
                  refine wa_nil ?_
                  refine finF (Γ := _) [v_left, z43] rfl rfl hE ‹_› fun z44 h => ?_
                  refine wa_cons ?_ rfl
                  refine we_callV (κ := κ) h__law_claim (Nat.le_refl _) ⟨0, rfl⟩ ?_
                  refine wa_cons ?_ rfl
                  refine we_name (i := 0) rfl rfl rfl ?_
                  refine wa_cons ?_ rfl
                  refine we_addM (κ := κ) ?_
                  refine we_name (i := 1) rfl rfl rfl ?_
                  refine we_f ?_
                  refine wn_lst ?_
                  refine wa_cons ?_ rfl
                  refine we_name (i := 6) rfl rfl rfl ?_
                  refine wa_nil ?_
                  refine ⟨szd (by decide : 1 < 10000000), ?_⟩
                  refine fin2 (f := addM) v_right_here (.lst [v_other_14]) (vE (u := v_right_here)) (vE (u := .lst [v_other_14])) ‹_› fun z45 h => ?_
                  refine wa_nil ?_
                  refine finF (Γ := _) [v_left, z45] rfl rfl hE ‹_› fun z46 h => ?_
                  refine wa_nil ?_
                  refine ⟨szd (by decide : 2 < 10000000), ?_⟩
                  exact rtV_v (u := (.lst [z44, z46])) h

abbrev st__law_needed : Stmt := topS 29
abbrev N__law_needed : List Str := ["_law_claim_here", "_law_rule", "_law_saying_here", "_law_left", "_law_right_here", "_law_shown", "_law_each"]
abbrev vs__law_needed : List Bool := [true, true, true, true, true, true, false]
abbrev gl__law_needed : List Str := ["_law_apart", "_law_claim"]
theorem sc__law_needed : FnScope N__law_needed ["_law_claim_here", "_law_rule", "_law_saying_here"] (defScope st__law_needed) := ⟨rfl, rfl, rfl, by decide +kernel, rfl, by decide +kernel, by decide +kernel⟩
theorem gd__law_needed : goodC N__law_needed (defScope st__law_needed) vs__law_needed vs__law_needed gl__law_needed = true := by decide +kernel
@[reducible] def cx__law_needed (G : Gl) (k : Nat) : Pl.Ctx := G.cx N__law_needed (defScope st__law_needed) vs__law_needed vs__law_needed gl__law_needed k

theorem ok__law_needed (T : Tp G κ) : ∀ k, G.fn k "_law_needed" 3 (spV κ 3 (sh__law_needed k))
  | 0 => fn_none T.d__law_needed (spV_none fun us => rfl)
  | kk + 1 => by
    have h__law_apart := ok__law_apart T kk
    have h__law_claim := ok__law_claim T kk
    refine def_V T.d__law_needed sc__law_needed gd__law_needed fun us hl Q Eh h => ?_
    have hE : EI κ Eh (erM κ Eh) := EI.erM
    obtain ⟨v_claim_here, v_rule, v_saying_here, rfl⟩ := len3 hl
    change WSs _ [some (em κ v_claim_here), some (em κ v_rule), some (em κ v_saying_here), none, none, none, none] _ (_ :: _) _
    refine wss_cons ?_
    refine ws_sett [3, 4] ?_ rfl rfl
    refine we_name (i := 0) rfl rfl rfl ?_
    refine tg2 v_claim_here ‹_› fun v_left_1 v_right_here_2 h => ?_
    refine wg_tup ?_ rfl
    refine wgs_cons1 ?_ rfl
    refine wg_name (i := 3) rfl rfl ?_
    refine wgs_cons1 ?_ rfl
    refine wg_name (i := 4) rfl rfl ?_
    refine wgs_nil ?_
    refine wss_cons ?_
    refine ws_if ?_
    refine wt_cutM ‹_› (fun Q1 h => ?_) (fun b6 h => ?_)
    · refine wt_ww (ww_and ?_)
      refine wt_eqM (κ := κ) ?_
      refine we_name (i := 1) rfl rfl rfl ?_
      refine we_str ?_
      refine fin2 (f := eqM) v_rule (.str "same") (vE (u := v_rule)) (vE (u := .str "same")) ‹_› fun b3 h => ?_
      refine ite_m ‹_› (fun h => ?_) (fun h => ?_)
      · refine ww_and ?_
        refine wt_inM (κ := κ) ?_
        refine we_name (i := 2) rfl rfl rfl ?_
        refine we_name (i := 3) rfl rfl rfl ?_
        refine fin2 (f := inM) v_saying_here v_left_1 (vE (u := v_saying_here)) (vE (u := v_left_1)) ‹_› fun b4 h => ?_
        refine ite_m ‹_› (fun h => ?_) (fun h => ?_)
        · refine ww_and1 ?_
          refine wt_inM (κ := κ) ?_
          refine we_name (i := 2) rfl rfl rfl ?_
          refine we_name (i := 4) rfl rfl rfl ?_
          refine fin2 (f := inM) v_saying_here v_right_here_2 (vE (u := v_saying_here)) (vE (u := v_right_here_2)) ‹_› fun b5 h => ?_
          exact ⟨rfl, h⟩
        · exact ⟨rfl, h⟩
      · exact ⟨rfl, h⟩
    refine ite_m ‹_› (fun h => ?_) (fun h => ?_)
    · refine wss_cons ?_
      refine ws_ret ?_
      refine we_f ?_
      refine wn_lst ?_
      refine wa_nil ?_
      refine ⟨szd (by decide : 0 < 10000000), ?_⟩
      exact rtV_v (u := (.lst [])) h
    · refine wss_nil ?_
      refine wss_cons ?_
      refine ws_if ?_
      refine wt_cutM ‹_› (fun Q1 h => ?_) (fun b10 h => ?_)
      · refine wt_ww (ww_and ?_)
        refine wt_eqM (κ := κ) ?_
        refine we_name (i := 1) rfl rfl rfl ?_
        refine we_str ?_
        refine fin2 (f := eqM) v_rule (.str "never") (vE (u := v_rule)) (vE (u := .str "never")) ‹_› fun b7 h => ?_
        refine ite_m ‹_› (fun h => ?_) (fun h => ?_)
        · refine ww_and ?_
          refine wt_eqM (κ := κ) ?_
          refine we_name (i := 2) rfl rfl rfl ?_
          refine we_tup ?_
          refine wa_cons ?_ rfl
          refine we_str ?_
          refine wa_nil ?_
          refine ⟨szd (by decide : 1 < 10000000), ?_⟩
          refine fin2 (f := eqM) v_saying_here (.tup [.str "no"]) (vE (u := v_saying_here)) (vE (u := .tup [.str "no"])) ‹_› fun b8 h => ?_
          refine ite_m ‹_› (fun h => ?_) (fun h => ?_)
          · refine ww_and1 ?_
            refine wt_inM (κ := κ) ?_
            refine we_name (i := 2) rfl rfl rfl ?_
            refine we_name (i := 3) rfl rfl rfl ?_
            refine fin2 (f := inM) v_saying_here v_left_1 (vE (u := v_saying_here)) (vE (u := v_left_1)) ‹_› fun b9 h => ?_
            exact ⟨rfl, h⟩
          · exact ⟨rfl, h⟩
        · exact ⟨rfl, h⟩
      refine ite_m ‹_› (fun h => ?_) (fun h => ?_)
      · refine wss_cons ?_
        refine ws_ret ?_
        refine we_f ?_
        refine wn_lst ?_
        refine wa_nil ?_
        refine ⟨szd (by decide : 0 < 10000000), ?_⟩
        exact rtV_v (u := (.lst [])) h
      · refine wss_nil ?_
        refine wss_cons ?_
        refine ws_if ?_
        refine wt_cutM ‹_› (fun Q1 h => ?_) (fun b13 h => ?_)
        · refine wt_ww (ww_and ?_)
          refine wt_eqM (κ := κ) ?_
          refine we_name (i := 1) rfl rfl rfl ?_
          refine we_str ?_
          refine fin2 (f := eqM) v_rule (.str "left") (vE (u := v_rule)) (vE (u := .str "left")) ‹_› fun b11 h => ?_
          refine ite_m ‹_› (fun h => ?_) (fun h => ?_)
          · refine ww_and1 ?_
            refine wt_inM (κ := κ) ?_
            refine we_name (i := 2) rfl rfl rfl ?_
            refine we_name (i := 3) rfl rfl rfl ?_
            refine fin2 (f := inM) v_saying_here v_left_1 (vE (u := v_saying_here)) (vE (u := v_left_1)) ‹_› fun b12 h => ?_
            exact ⟨rfl, h⟩
          · exact ⟨rfl, h⟩
        refine ite_m ‹_› (fun h => ?_) (fun h => ?_)
        · refine wss_cons ?_
          refine ws_ret ?_
          refine we_callV (κ := κ) h__law_apart (Nat.le_refl _) ⟨0, rfl⟩ ?_
          refine wa_cons ?_ rfl
          refine we_f ?_
          refine wn_lc [("_law_each", 6)] [false, false, true, false, false, false, true] [false, false, false, false, false, false, true] [] [6] (blkOk_by (by decide +kernel : blkC N__law_needed (defScope st__law_needed) _ [("_law_each", 6)] = true)) (good_blk (by decide +kernel : goodC N__law_needed (relS _ (defScope st__law_needed)) [false, false, true, false, false, false, true] [false, false, false, false, false, false, true] [] = true)) (sto_by (by decide +kernel : stoC N__law_needed _ [false, false, false, false, false, false, true] = true)) (by decide) ?_
          refine wi_LM (κ := κ) ?_
          refine we_name (i := 3) rfl rfl rfl ?_
          refine finI (f := iterL) v_left_1 ‹_› fun it14 h => ?_
          refine compF_m h (fun x15 Qb Q1 h h2 => ?_) (fun zs16 h => ?_)
          · have hE : EI κ no ER.none := EI.no
            refine wg_name (i := 6) rfl rfl ?_
            refine wt_neM (κ := κ) ?_
            refine we_name (i := 6) rfl rfl rfl ?_
            refine we_name (i := 2) rfl rfl rfl ?_
            refine fin2 (f := (nB eqM)) x15 v_saying_here (vE (u := x15)) (vE (u := v_saying_here)) ‹_› fun b17 h => ?_
            refine ⟨rfl, h, fun hb => ?_⟩
            replace h := h2 (by cases hb; exact h)
            refine we_name (i := 6) rfl rfl rfl ?_
            exact ⟨rfl, x15, rfl, h⟩
          refine wa_cons ?_ rfl
          refine we_name (i := 4) rfl rfl rfl ?_
          refine wa_cons ?_ rfl
          refine we_name (i := 1) rfl rfl rfl ?_
          refine wa_cons ?_ rfl
          refine we_name (i := 2) rfl rfl rfl ?_
          refine wa_nil ?_
          refine finF (Γ := _) [.lst zs16, v_right_here_2, v_rule, v_saying_here] rfl rfl hE ‹_› fun z18 h => ?_
          exact rtV_v (u := z18) h
        · refine wss_nil ?_
          refine wss_cons ?_
          refine ws_if ?_
          refine wt_cutM ‹_› (fun Q1 h => ?_) (fun b21 h => ?_)
          · refine wt_ww (ww_and ?_)
            refine wt_eqM (κ := κ) ?_
            refine we_name (i := 1) rfl rfl rfl ?_
            refine we_str ?_
            refine fin2 (f := eqM) v_rule (.str "right") (vE (u := v_rule)) (vE (u := .str "right")) ‹_› fun b19 h => ?_
            refine ite_m ‹_› (fun h => ?_) (fun h => ?_)
            · refine ww_and1 ?_
              refine wt_inM (κ := κ) ?_
              refine we_name (i := 2) rfl rfl rfl ?_
              refine we_name (i := 4) rfl rfl rfl ?_
              refine fin2 (f := inM) v_saying_here v_right_here_2 (vE (u := v_saying_here)) (vE (u := v_right_here_2)) ‹_› fun b20 h => ?_
              exact ⟨rfl, h⟩
            · exact ⟨rfl, h⟩
          refine ite_m ‹_› (fun h => ?_) (fun h => ?_)
          · refine wss_cons ?_
            refine ws_ret ?_
            refine we_callV (κ := κ) h__law_apart (Nat.le_refl _) ⟨0, rfl⟩ ?_
            refine wa_cons ?_ rfl
            refine we_name (i := 3) rfl rfl rfl ?_
            refine wa_cons ?_ rfl
            refine we_f ?_
            refine wn_lc [("_law_each", 6)] [false, false, true, false, false, false, true] [false, false, false, false, false, false, true] [] [6] (blkOk_by (by decide +kernel : blkC N__law_needed (defScope st__law_needed) _ [("_law_each", 6)] = true)) (good_blk (by decide +kernel : goodC N__law_needed (relS _ (defScope st__law_needed)) [false, false, true, false, false, false, true] [false, false, false, false, false, false, true] [] = true)) (sto_by (by decide +kernel : stoC N__law_needed _ [false, false, false, false, false, false, true] = true)) (by decide) ?_
            refine wi_LM (κ := κ) ?_
            refine we_name (i := 4) rfl rfl rfl ?_
            refine finI (f := iterL) v_right_here_2 ‹_› fun it22 h => ?_
            refine compF_m h (fun x23 Qb Q1 h h2 => ?_) (fun zs24 h => ?_)
            · have hE : EI κ no ER.none := EI.no
              refine wg_name (i := 6) rfl rfl ?_
              refine wt_neM (κ := κ) ?_
              refine we_name (i := 6) rfl rfl rfl ?_
              refine we_name (i := 2) rfl rfl rfl ?_
              refine fin2 (f := (nB eqM)) x23 v_saying_here (vE (u := x23)) (vE (u := v_saying_here)) ‹_› fun b25 h => ?_
              refine ⟨rfl, h, fun hb => ?_⟩
              replace h := h2 (by cases hb; exact h)
              refine we_name (i := 6) rfl rfl rfl ?_
              exact ⟨rfl, x23, rfl, h⟩
            refine wa_cons ?_ rfl
            refine we_name (i := 1) rfl rfl rfl ?_
            refine wa_cons ?_ rfl
            refine we_name (i := 2) rfl rfl rfl ?_
            refine wa_nil ?_
            refine finF (Γ := _) [v_left_1, .lst zs24, v_rule, v_saying_here] rfl rfl hE ‹_› fun z26 h => ?_
            exact rtV_v (u := z26) h
          · refine wss_nil ?_
            refine wss_cons ?_
            refine ws_if ?_
            refine wt_cutM ‹_› (fun Q1 h => ?_) (fun b31 h => ?_)
            · refine wt_ww (ww_and ?_)
              refine wt_eqM (κ := κ) ?_
              refine we_name (i := 1) rfl rfl rfl ?_
              refine we_str ?_
              refine fin2 (f := eqM) v_rule (.str "up") (vE (u := v_rule)) (vE (u := .str "up")) ‹_› fun b27 h => ?_
              refine ite_m ‹_› (fun h => ?_) (fun h => ?_)
              · refine ww_and ?_
                refine wt_inM (κ := κ) ?_
                refine we_name (i := 2) rfl rfl rfl ?_
                refine we_name (i := 4) rfl rfl rfl ?_
                refine fin2 (f := inM) v_saying_here v_right_here_2 (vE (u := v_saying_here)) (vE (u := v_right_here_2)) ‹_› fun b28 h => ?_
                refine ite_m ‹_› (fun h => ?_) (fun h => ?_)
                · refine ww_and1 ?_
                  refine wt_eqM (κ := κ) ?_
                  refine we_ixM (κ := κ) ?_
                  refine we_name (i := 2) rfl rfl rfl ?_
                  refine we_int ?_
                  refine fin2 (f := ixM) v_saying_here (.int 0) (vE (u := v_saying_here)) (vE (u := .int 0)) ‹_› fun z29 h => ?_
                  refine we_str ?_
                  refine fin2 (f := eqM) z29 (.str "shown") (vE (u := z29)) (vE (u := .str "shown")) ‹_› fun b30 h => ?_
                  exact ⟨rfl, h⟩
                · exact ⟨rfl, h⟩
              · exact ⟨rfl, h⟩
            refine ite_m ‹_› (fun h => ?_) (fun h => ?_)
            · refine wss_cons ?_
              refine ws_setlc (i := 5) [("_law_each", 6)] [false, false, false, false, false, false, true] [false, false, false, false, false, false, true] [] [6] rfl rfl rfl rfl (by decide +kernel) (blkOk_by (by decide +kernel : blkC N__law_needed (defScope st__law_needed) _ [("_law_each", 6)] = true)) (good_blk (by decide +kernel : goodC N__law_needed (relS _ (defScope st__law_needed)) [false, false, false, false, false, false, true] [false, false, false, false, false, false, true] [] = true)) (sto_by (by decide +kernel : stoC N__law_needed _ [false, false, false, false, false, false, true] = true)) (by decide) ?_
              refine wi_LM (κ := κ) ?_
              refine we_name (i := 3) rfl rfl rfl ?_
              refine finI (f := iterL) v_left_1 ‹_› fun it32 h => ?_
              refine compF_m h (fun x33 Qb Q1 h h2 => ?_) (fun zs34 h => ?_)
              · have hE : EI κ no ER.none := EI.no
                refine wg_name (i := 6) rfl rfl ?_
                refine wt_eqM (κ := κ) ?_
                refine we_ixM (κ := κ) ?_
                refine we_name (i := 6) rfl rfl rfl ?_
                refine we_int ?_
                refine fin2 (f := ixM) x33 (.int 0) (vE (u := x33)) (vE (u := .int 0)) ‹_› fun z35 h => ?_
                refine we_str ?_
                refine fin2 (f := eqM) z35 (.str "shown") (vE (u := z35)) (vE (u := .str "shown")) ‹_› fun b36 h => ?_
                refine ⟨rfl, h, fun hb => ?_⟩
                replace h := h2 (by cases hb; exact h)
                refine we_name (i := 6) rfl rfl rfl ?_
                exact ⟨rfl, x33, rfl, h⟩
              refine wss_cons ?_
              refine ws_ret ?_
              refine we_f ?_
              refine wn_lst ?_
              refine wa_cons ?_ rfl
              refine we_callV (κ := κ) h__law_claim (Nat.le_refl _) ⟨1, rfl⟩ ?_
              refine wa_cons ?_ rfl
              refine we_addM (κ := κ) ?_
              refine we_addM (κ := κ) ?_
              refine we_name (i := 5) rfl rfl rfl ?_
              refine we_f ?_
              refine wn_lc [("_law_each", 6)] [false, false, false, false, false, false, true] [false, false, false, false, false, false, true] [] [6] (blkOk_by (by decide +kernel : blkC N__law_needed (defScope st__law_needed) _ [("_law_each", 6)] = true)) (good_blk (by decide +kernel : goodC N__law_needed (relS _ (defScope st__law_needed)) [false, false, false, false, false, false, true] [false, false, false, false, false, false, true] [] = true)) (sto_by (by decide +kernel : stoC N__law_needed _ [false, false, false, false, false, false, true] = true)) (by decide) ?_
              refine wi_LM (κ := κ) ?_
              refine we_name (i := 5) rfl rfl rfl ?_
              refine finI (f := iterL) (.lst zs34) ‹_› fun it37 h => ?_
              refine comp_m h (fun x38 Q1 h => ?_) (fun zs39 h => ?_)
              · have hE : EI κ no ER.none := EI.no
                refine wg_name (i := 6) rfl rfl ?_
                refine we_ixM (κ := κ) ?_
                refine we_name (i := 6) rfl rfl rfl ?_
                refine we_int ?_
                refine fin2 (f := ixM) x38 (.int 1) (vE (u := x38)) (vE (u := .int 1)) ‹_› fun z40 h => ?_
                exact ⟨rfl, z40, rfl, h⟩
              refine fin2 (f := addM) (.lst zs34) (.lst zs39) (vE (u := .lst zs34)) (vE (u := .lst zs39)) ‹_› fun z41 h => ?_
              refine we_f ?_
              refine wn_lst ?_
              refine wa_cons ?_ rfl
              refine we_name (i := 2) rfl rfl rfl ?_
              refine wa_nil ?_
              refine ⟨szd (by decide : 1 < 10000000), ?_⟩
              refine fin2 (f := addM) z41 (.lst [v_saying_here]) (vE (u := z41)) (vE (u := .lst [v_saying_here])) ‹_› fun z42 h => ?_
              refine wa_cons ?_ rfl
              refine we_f ?_
              refine wn_lst ?_
              refine wa_cons ?_ rfl
              refine we_ixM (κ := κ) ?_
              refine we_name (i := 2) rfl rfl rfl ?_
              refine we_int ?_
              refine fin2 (f := ixM) v_saying_here (.int 1) (vE (u := v_saying_here)) (vE (u := .int 1)) ‹_› fun z43 h => ?_
              refine wa_nil ?_
              refine ⟨szd (by decide : 1 < 10000000), ?_⟩
              refine wa_nil ?_
              refine finF (Γ := _) [z42, .lst [z43]] rfl rfl hE ‹_› fun z44 h => ?_
              refine wa_nil ?_
              refine ⟨szd (by decide : 1 < 10000000), ?_⟩
              exact rtV_v (u := (.lst [z44])) h
            · refine wss_nil ?_
              refine wss_cons ?_
              refine ws_ret ?_
              refine we_non ?_
              exact rtV_v (u := .non) h

abbrev st_each_once : Stmt := topS 11
abbrev N_each_once : List Str := ["some", "told", "one"]
abbrev vs_each_once : List Bool := [true, true, true]
abbrev gl_each_once : List Str := ["sorted", "len"]
theorem sc_each_once : FnScope N_each_once ["some"] (defScope st_each_once) := ⟨rfl, rfl, rfl, by decide +kernel, rfl, by decide +kernel, by decide +kernel⟩
theorem gd_each_once : goodC N_each_once (defScope st_each_once) vs_each_once vs_each_once gl_each_once = true := by decide +kernel
@[reducible] def cx_each_once (G : Gl) (k : Nat) : Pl.Ctx := G.cx N_each_once (defScope st_each_once) vs_each_once vs_each_once gl_each_once k

theorem ok_each_once (T : Tp G κ) : ∀ k, G.fn k "each_once" 1 (spN κ 1 (sh_each_once k))
  | 0 => fn_none T.d_each_once (spN_none fun us => rfl)
  | kk + 1 => by
    refine def_N T.d_each_once sc_each_once gd_each_once fun us hl Q Eh h => ?_
    have hE : EI κ Eh (erM κ Eh) := EI.erM
    obtain ⟨v_some, rfl⟩ := len1 hl
    change WSs _ [some (em κ v_some), none, none] _ (_ :: _) _
    refine wss_cons ?_
    refine ws_set (i := 1) rfl rfl (we_o ?_) rfl
    refine wn_lst ?_
    refine wa_nil ?_
    refine ⟨szd (by decide : 0 < 10000000), ?_⟩
    refine wss_cons ?_
    refine ws_for [2] ?_
    refine wi_LM (κ := κ) ?_
    refine we_f ?_
    refine wn_sortedM (κ := κ) ⟨0, rfl⟩ T.z_sorted ?_
    refine we_name (i := 0) rfl rfl rfl ?_
    refine fin1 (f := sortedM) v_some (vE (u := v_some)) ‹_› fun z1 h => ?_
    refine finI (f := iterL) (.lst z1) ‹_› fun it2 h => ?_
    refine loopN_m (fun (st : List U) (Γ : Pl.Env) (Λ : Cells) => ∃ (y0 : Option D), Γ = [some (em κ v_some), some (.loc 0), y0] ∧ Λ = [.lst (ems κ st)]) h ⟨_, rfl, rfl⟩ (fun v_told_3 x4 Γ Λ Q1 hs h => ?_) (fun v_told_13 Γ Λ hs h => ?_)
    · obtain ⟨y0, rfl, rfl⟩ := hs
      refine wg_name (i := 2) rfl rfl ?_
      refine wss_cons ?_
      refine ws_cutM (fun (st : List U) (Γ : Pl.Env) (Λ : Cells) => Γ = [some (em κ v_some), some (.loc 0), some (em κ x4)] ∧ Λ = [.lst (ems κ st)]) h (fun Q1 h => ?_) (fun v_told_12 Γ Λ hs h => ?_)
      · refine ws_if ?_
        refine wt_cutM ‹_› (fun Q1 h => ?_) (fun b10 h => ?_)
        · refine wt_ww (ww_or ?_)
          refine wt_eqM (κ := κ) ?_
          refine we_lenM (κ := κ) ⟨1, rfl⟩ T.z_len ?_
          refine we_name (i := 1) rfl rfl rfl ?_
          refine fin1 (f := lenM) (.lst v_told_3) (vL rfl) ‹_› fun z5 h => ?_
          refine we_int ?_
          refine fin2 (f := eqM) z5 (.int 0) (vE (u := z5)) (vE (u := .int 0)) ‹_› fun b6 h => ?_
          refine ite_m ‹_› (fun h => ?_) (fun h => ?_)
          · exact ⟨rfl, h⟩
          · refine ww_or1 ?_
            refine wt_neM (κ := κ) ?_
            refine we_ixM (κ := κ) ?_
            refine we_name (i := 1) rfl rfl rfl ?_
            refine we_negM (κ := κ) ?_
            refine we_int ?_
            refine fin1 (f := negM) (.int 1) (vE (u := .int 1)) ‹_› fun z7 h => ?_
            refine fin2 (f := ixM) (.lst v_told_3) z7 (vL rfl) (vE (u := z7)) ‹_› fun z8 h => ?_
            refine we_name (i := 2) rfl rfl rfl ?_
            refine fin2 (f := (nB eqM)) z8 x4 (vE (u := z8)) (vE (u := x4)) ‹_› fun b9 h => ?_
            exact ⟨rfl, h⟩
        refine ite_m ‹_› (fun h => ?_) (fun h => ?_)
        · refine wss_cons ?_
          refine ws_expr ?_
          refine we_appM (κ := κ) 0 ?_
          refine we_name (i := 1) rfl rfl rfl ?_
          refine ⟨rfl, ⟨v_told_3, rfl⟩, ?_⟩
          refine we_name (i := 2) rfl rfl rfl ?_
          refine finA (f := appM) v_told_3 x4 rfl ‹_› fun l11 h => ?_
          refine wss_nil ?_
          exact ⟨l11, ⟨rfl, rfl⟩, h⟩
        · refine wss_nil ?_
          exact ⟨v_told_3, ⟨rfl, rfl⟩, h⟩
      · obtain ⟨rfl, rfl⟩ := hs
        refine wss_nil ?_
        exact ⟨v_told_12, ⟨_, rfl, rfl⟩, h⟩
    · obtain ⟨y0, rfl, rfl⟩ := hs
      refine wss_cons ?_
      refine ws_ret ?_
      refine we_name (i := 1) rfl rfl rfl ?_
      exact rtL_o (us := v_told_13) rfl h

abbrev st_unlike : Stmt := topS 14
abbrev N_unlike : List Str := ["sayings"]
abbrev vs_unlike : List Bool := [true]
abbrev gl_unlike : List Str := ["each_once"]
theorem sc_unlike : FnScope N_unlike ["sayings"] (defScope st_unlike) := ⟨rfl, rfl, rfl, by decide +kernel, rfl, by decide +kernel, by decide +kernel⟩
theorem gd_unlike : goodC N_unlike (defScope st_unlike) vs_unlike vs_unlike gl_unlike = true := by decide +kernel
@[reducible] def cx_unlike (G : Gl) (k : Nat) : Pl.Ctx := G.cx N_unlike (defScope st_unlike) vs_unlike vs_unlike gl_unlike k

theorem ok_unlike (T : Tp G κ) : ∀ k, G.fn k "unlike" 1 (spN κ 1 (sh_unlike k))
  | 0 => fn_none T.d_unlike (spN_none fun us => rfl)
  | kk + 1 => by
    have h_each_once := ok_each_once T kk
    refine def_N T.d_unlike sc_unlike gd_unlike fun us hl Q Eh h => ?_
    have hE : EI κ Eh (erM κ Eh) := EI.erM
    obtain ⟨v_sayings, rfl⟩ := len1 hl
    change WSs _ [some (em κ v_sayings)] _ (_ :: _) _
    refine wss_cons ?_
    refine ws_retn ?_
    refine wn_callN (κ := κ) h_each_once (Nat.le_refl _) ⟨0, rfl⟩ ?_
    refine wa_cons ?_ rfl
    refine we_name (i := 0) rfl rfl rfl ?_
    refine wa_nil ?_
    refine finF (Γ := _) [v_sayings] rfl rfl hE ‹_› fun z1 h => ?_
    exact rtL_v (us := z1) h

abbrev st_claim_of : Stmt := topS 15
abbrev N_claim_of : List Str := ["left", "right"]
abbrev vs_claim_of : List Bool := [true, true]
abbrev gl_claim_of : List Str := ["unlike"]
theorem sc_claim_of : FnScope N_claim_of ["left", "right"] (defScope st_claim_of) := ⟨rfl, rfl, rfl, by decide +kernel, rfl, by decide +kernel, by decide +kernel⟩
theorem gd_claim_of : goodC N_claim_of (defScope st_claim_of) vs_claim_of vs_claim_of gl_claim_of = true := by decide +kernel
@[reducible] def cx_claim_of (G : Gl) (k : Nat) : Pl.Ctx := G.cx N_claim_of (defScope st_claim_of) vs_claim_of vs_claim_of gl_claim_of k

theorem ok_claim_of (T : Tp G κ) : ∀ k, G.fn k "claim_of" 2 (spV κ 2 (sh_claim_of k))
  | 0 => fn_none T.d_claim_of (spV_none fun us => rfl)
  | kk + 1 => by
    have h_unlike := ok_unlike T kk
    refine def_V T.d_claim_of sc_claim_of gd_claim_of fun us hl Q Eh h => ?_
    have hE : EI κ Eh (erM κ Eh) := EI.erM
    obtain ⟨v_left, v_right, rfl⟩ := len2 hl
    change WSs _ [some (em κ v_left), some (em κ v_right)] _ (_ :: _) _
    refine wss_cons ?_
    refine ws_ret ?_
    refine we_tup ?_
    refine wa_cons ?_ rfl
    refine we_f ?_
    refine wn_callN (κ := κ) h_unlike (Nat.le_refl _) ⟨0, rfl⟩ ?_
    refine wa_cons ?_ rfl
    refine we_name (i := 0) rfl rfl rfl ?_
    refine wa_nil ?_
    refine finF (Γ := _) [v_left] rfl rfl hE ‹_› fun z1 h => ?_
    refine wa_cons ?_ rfl
    refine we_f ?_
    refine wn_callN (κ := κ) h_unlike (Nat.le_refl _) ⟨0, rfl⟩ ?_
    refine wa_cons ?_ rfl
    refine we_name (i := 1) rfl rfl rfl ?_
    refine wa_nil ?_
    refine finF (Γ := _) [v_right] rfl rfl hE ‹_› fun z2 h => ?_
    refine wa_nil ?_
    refine ⟨szd (by decide : 2 < 10000000), ?_⟩
    exact rtV_v (u := (.tup [.lst z1, .lst z2])) h

abbrev st_from_left : Stmt := topS 17
abbrev N_from_left : List Str := ["left", "right", "saying"]
abbrev vs_from_left : List Bool := [true, true, true]
abbrev gl_from_left : List Str := ["claim_of", "NoRule"]
theorem sc_from_left : FnScope N_from_left ["left", "right", "saying"] (defScope st_from_left) := ⟨rfl, rfl, rfl, by decide +kernel, rfl, by decide +kernel, by decide +kernel⟩
theorem gd_from_left : goodC N_from_left (defScope st_from_left) vs_from_left vs_from_left gl_from_left = true := by decide +kernel
@[reducible] def cx_from_left (G : Gl) (k : Nat) : Pl.Ctx := G.cx N_from_left (defScope st_from_left) vs_from_left vs_from_left gl_from_left k

theorem ok_from_left (T : Tp G κ) : ∀ k, G.fn k "from_left" 3 (spN κ 3 (sh_from_left k))
  | 0 => fn_none T.d_from_left (spN_none fun us => rfl)
  | kk + 1 => by
    have h_claim_of := ok_claim_of T kk
    refine def_N T.d_from_left sc_from_left gd_from_left fun us hl Q Eh h => ?_
    have hE : EI κ Eh (erM κ Eh) := EI.erM
    obtain ⟨v_left, v_right, v_saying, rfl⟩ := len3 hl
    change WSs _ [some (em κ v_left), some (em κ v_right), some (em κ v_saying)] _ (_ :: _) _
    refine wss_cons ?_
    refine ws_if ?_
    refine wt_eqM (κ := κ) ?_
    refine we_ixM (κ := κ) ?_
    refine we_name (i := 2) rfl rfl rfl ?_
    refine we_int ?_
    refine fin2 (f := ixM) v_saying (.int 0) (vE (u := v_saying)) (vE (u := .int 0)) ‹_› fun z1 h => ?_
    refine we_str ?_
    refine fin2 (f := eqM) z1 (.str "not") (vE (u := z1)) (vE (u := .str "not")) ‹_› fun b2 h => ?_
    refine ite_m ‹_› (fun h => ?_) (fun h => ?_)
    · refine wss_cons ?_
      refine ws_retn ?_
      refine wn_lst ?_
      refine wa_cons ?_ rfl
      refine we_callV (κ := κ) h_claim_of (Nat.le_refl _) ⟨0, rfl⟩ ?_
      refine wa_cons ?_ rfl
      refine we_name (i := 0) rfl rfl rfl ?_
      refine wa_cons ?_ rfl
      refine we_addM (κ := κ) ?_
      refine we_name (i := 1) rfl rfl rfl ?_
      refine we_f ?_
      refine wn_lst ?_
      refine wa_cons ?_ rfl
      refine we_ixM (κ := κ) ?_
      refine we_name (i := 2) rfl rfl rfl ?_
      refine we_int ?_
      refine fin2 (f := ixM) v_saying (.int 1) (vE (u := v_saying)) (vE (u := .int 1)) ‹_› fun z3 h => ?_
      refine wa_nil ?_
      refine ⟨szd (by decide : 1 < 10000000), ?_⟩
      refine fin2 (f := addM) v_right (.lst [z3]) (vE (u := v_right)) (vE (u := .lst [z3])) ‹_› fun z4 h => ?_
      refine wa_nil ?_
      refine finF (Γ := _) [v_left, z4] rfl rfl hE ‹_› fun z5 h => ?_
      refine wa_nil ?_
      refine ⟨szd (by decide : 1 < 10000000), ?_⟩
      exact rtL_v (us := [z5]) h
    · refine wss_nil ?_
      refine wss_cons ?_
      refine ws_if ?_
      refine wt_eqM (κ := κ) ?_
      refine we_ixM (κ := κ) ?_
      refine we_name (i := 2) rfl rfl rfl ?_
      refine we_int ?_
      refine fin2 (f := ixM) v_saying (.int 0) (vE (u := v_saying)) (vE (u := .int 0)) ‹_› fun z6 h => ?_
      refine we_str ?_
      refine fin2 (f := eqM) z6 (.str "and") (vE (u := z6)) (vE (u := .str "and")) ‹_› fun b7 h => ?_
      refine ite_m ‹_› (fun h => ?_) (fun h => ?_)
      · refine wss_cons ?_
        refine ws_retn ?_
        refine wn_lst ?_
        refine wa_cons ?_ rfl
        refine we_callV (κ := κ) h_claim_of (Nat.le_refl _) ⟨0, rfl⟩ ?_
        refine wa_cons ?_ rfl
        refine we_addM (κ := κ) ?_
        refine we_name (i := 0) rfl rfl rfl ?_
        refine we_f ?_
        refine wn_lst ?_
        refine wa_cons ?_ rfl
        refine we_ixM (κ := κ) ?_
        refine we_name (i := 2) rfl rfl rfl ?_
        refine we_int ?_
        refine fin2 (f := ixM) v_saying (.int 1) (vE (u := v_saying)) (vE (u := .int 1)) ‹_› fun z8 h => ?_
        refine wa_cons ?_ rfl
        refine we_ixM (κ := κ) ?_
        refine we_name (i := 2) rfl rfl rfl ?_
        refine we_int ?_
        refine fin2 (f := ixM) v_saying (.int 2) (vE (u := v_saying)) (vE (u := .int 2)) ‹_› fun z9 h => ?_
        refine wa_nil ?_
        refine ⟨szd (by decide : 2 < 10000000), ?_⟩
        refine fin2 (f := addM) v_left (.lst [z8, z9]) (vE (u := v_left)) (vE (u := .lst [z8, z9])) ‹_› fun z10 h => ?_
        refine wa_cons ?_ rfl
        refine we_name (i := 1) rfl rfl rfl ?_
        refine wa_nil ?_
        refine finF (Γ := _) [z10, v_right] rfl rfl hE ‹_› fun z11 h => ?_
        refine wa_nil ?_
        refine ⟨szd (by decide : 1 < 10000000), ?_⟩
        exact rtL_v (us := [z11]) h
      · refine wss_nil ?_
        refine wss_cons ?_
        refine ws_if ?_
        refine wt_eqM (κ := κ) ?_
        refine we_ixM (κ := κ) ?_
        refine we_name (i := 2) rfl rfl rfl ?_
        refine we_int ?_
        refine fin2 (f := ixM) v_saying (.int 0) (vE (u := v_saying)) (vE (u := .int 0)) ‹_› fun z12 h => ?_
        refine we_str ?_
        refine fin2 (f := eqM) z12 (.str "or") (vE (u := z12)) (vE (u := .str "or")) ‹_› fun b13 h => ?_
        refine ite_m ‹_› (fun h => ?_) (fun h => ?_)
        · refine wss_cons ?_
          refine ws_retn ?_
          refine wn_lst ?_
          refine wa_cons ?_ rfl
          refine we_callV (κ := κ) h_claim_of (Nat.le_refl _) ⟨0, rfl⟩ ?_
          refine wa_cons ?_ rfl
          refine we_addM (κ := κ) ?_
          refine we_name (i := 0) rfl rfl rfl ?_
          refine we_f ?_
          refine wn_lst ?_
          refine wa_cons ?_ rfl
          refine we_ixM (κ := κ) ?_
          refine we_name (i := 2) rfl rfl rfl ?_
          refine we_int ?_
          refine fin2 (f := ixM) v_saying (.int 1) (vE (u := v_saying)) (vE (u := .int 1)) ‹_› fun z14 h => ?_
          refine wa_nil ?_
          refine ⟨szd (by decide : 1 < 10000000), ?_⟩
          refine fin2 (f := addM) v_left (.lst [z14]) (vE (u := v_left)) (vE (u := .lst [z14])) ‹_› fun z15 h => ?_
          refine wa_cons ?_ rfl
          refine we_name (i := 1) rfl rfl rfl ?_
          refine wa_nil ?_
          refine finF (Γ := _) [z15, v_right] rfl rfl hE ‹_› fun z16 h => ?_
          refine wa_cons ?_ rfl
          refine we_callV (κ := κ) h_claim_of (Nat.le_refl _) ⟨0, rfl⟩ ?_
          refine wa_cons ?_ rfl
          refine we_addM (κ := κ) ?_
          refine we_name (i := 0) rfl rfl rfl ?_
          refine we_f ?_
          refine wn_lst ?_
          refine wa_cons ?_ rfl
          refine we_ixM (κ := κ) ?_
          refine we_name (i := 2) rfl rfl rfl ?_
          refine we_int ?_
          refine fin2 (f := ixM) v_saying (.int 2) (vE (u := v_saying)) (vE (u := .int 2)) ‹_› fun z17 h => ?_
          refine wa_nil ?_
          refine ⟨szd (by decide : 1 < 10000000), ?_⟩
          refine fin2 (f := addM) v_left (.lst [z17]) (vE (u := v_left)) (vE (u := .lst [z17])) ‹_› fun z18 h => ?_
          refine wa_cons ?_ rfl
          refine we_name (i := 1) rfl rfl rfl ?_
          refine wa_nil ?_
          refine finF (Γ := _) [z18, v_right] rfl rfl hE ‹_› fun z19 h => ?_
          refine wa_nil ?_
          refine ⟨szd (by decide : 2 < 10000000), ?_⟩
          exact rtL_v (us := [z16, z19]) h
        · refine wss_nil ?_
          refine wss_cons ?_
          refine ws_if ?_
          refine wt_eqM (κ := κ) ?_
          refine we_ixM (κ := κ) ?_
          refine we_name (i := 2) rfl rfl rfl ?_
          refine we_int ?_
          refine fin2 (f := ixM) v_saying (.int 0) (vE (u := v_saying)) (vE (u := .int 0)) ‹_› fun z20 h => ?_
          refine we_str ?_
          refine fin2 (f := eqM) z20 (.str "if") (vE (u := z20)) (vE (u := .str "if")) ‹_› fun b21 h => ?_
          refine ite_m ‹_› (fun h => ?_) (fun h => ?_)
          · refine wss_cons ?_
            refine ws_retn ?_
            refine wn_lst ?_
            refine wa_cons ?_ rfl
            refine we_callV (κ := κ) h_claim_of (Nat.le_refl _) ⟨0, rfl⟩ ?_
            refine wa_cons ?_ rfl
            refine we_name (i := 0) rfl rfl rfl ?_
            refine wa_cons ?_ rfl
            refine we_addM (κ := κ) ?_
            refine we_name (i := 1) rfl rfl rfl ?_
            refine we_f ?_
            refine wn_lst ?_
            refine wa_cons ?_ rfl
            refine we_ixM (κ := κ) ?_
            refine we_name (i := 2) rfl rfl rfl ?_
            refine we_int ?_
            refine fin2 (f := ixM) v_saying (.int 1) (vE (u := v_saying)) (vE (u := .int 1)) ‹_› fun z22 h => ?_
            refine wa_nil ?_
            refine ⟨szd (by decide : 1 < 10000000), ?_⟩
            refine fin2 (f := addM) v_right (.lst [z22]) (vE (u := v_right)) (vE (u := .lst [z22])) ‹_› fun z23 h => ?_
            refine wa_nil ?_
            refine finF (Γ := _) [v_left, z23] rfl rfl hE ‹_› fun z24 h => ?_
            refine wa_cons ?_ rfl
            refine we_callV (κ := κ) h_claim_of (Nat.le_refl _) ⟨0, rfl⟩ ?_
            refine wa_cons ?_ rfl
            refine we_addM (κ := κ) ?_
            refine we_name (i := 0) rfl rfl rfl ?_
            refine we_f ?_
            refine wn_lst ?_
            refine wa_cons ?_ rfl
            refine we_ixM (κ := κ) ?_
            refine we_name (i := 2) rfl rfl rfl ?_
            refine we_int ?_
            refine fin2 (f := ixM) v_saying (.int 2) (vE (u := v_saying)) (vE (u := .int 2)) ‹_› fun z25 h => ?_
            refine wa_nil ?_
            refine ⟨szd (by decide : 1 < 10000000), ?_⟩
            refine fin2 (f := addM) v_left (.lst [z25]) (vE (u := v_left)) (vE (u := .lst [z25])) ‹_› fun z26 h => ?_
            refine wa_cons ?_ rfl
            refine we_name (i := 1) rfl rfl rfl ?_
            refine wa_nil ?_
            refine finF (Γ := _) [z26, v_right] rfl rfl hE ‹_› fun z27 h => ?_
            refine wa_nil ?_
            refine ⟨szd (by decide : 2 < 10000000), ?_⟩
            exact rtL_v (us := [z24, z27]) h
          · refine wss_nil ?_
            refine wss_cons ?_
            exact ws_raiseM ⟨1, rfl⟩ T.x_NoRule (EI.at hE) h

abbrev st_without : Stmt := topS 16
abbrev N_without : List Str := ["sayings", "saying", "other"]
abbrev vs_without : List Bool := [true, true, false]
abbrev gl_without : List Str := []
theorem sc_without : FnScope N_without ["sayings", "saying"] (defScope st_without) := ⟨rfl, rfl, rfl, by decide +kernel, rfl, by decide +kernel, by decide +kernel⟩
theorem gd_without : goodC N_without (defScope st_without) vs_without vs_without gl_without = true := by decide +kernel
@[reducible] def cx_without (G : Gl) (k : Nat) : Pl.Ctx := G.cx N_without (defScope st_without) vs_without vs_without gl_without k

theorem ok_without (T : Tp G κ) : ∀ k, G.fn k "without" 2 (spN κ 2 (sh_without k))
  | 0 => fn_none T.d_without (spN_none fun us => rfl)
  | kk + 1 => by
    refine def_N T.d_without sc_without gd_without fun us hl Q Eh h => ?_
    have hE : EI κ Eh (erM κ Eh) := EI.erM
    obtain ⟨v_sayings, v_saying, rfl⟩ := len2 hl
    change WSs _ [some (em κ v_sayings), some (em κ v_saying), none] _ (_ :: _) _
    refine wss_cons ?_
    refine ws_retn ?_
    refine wn_lc [("other", 2)] [false, true, true] [false, false, true] [] [2] (blkOk_by (by decide +kernel : blkC N_without (defScope st_without) _ [("other", 2)] = true)) (good_blk (by decide +kernel : goodC N_without (relS _ (defScope st_without)) [false, true, true] [false, false, true] [] = true)) (sto_by (by decide +kernel : stoC N_without _ [false, false, true] = true)) (by decide) ?_
    refine wi_LM (κ := κ) ?_
    refine we_name (i := 0) rfl rfl rfl ?_
    refine finI (f := iterL) v_sayings ‹_› fun it1 h => ?_
    refine compF_m h (fun x2 Qb Q1 h h2 => ?_) (fun zs3 h => ?_)
    · have hE : EI κ no ER.none := EI.no
      refine wg_name (i := 2) rfl rfl ?_
      refine wt_neM (κ := κ) ?_
      refine we_name (i := 2) rfl rfl rfl ?_
      refine we_name (i := 1) rfl rfl rfl ?_
      refine fin2 (f := (nB eqM)) x2 v_saying (vE (u := x2)) (vE (u := v_saying)) ‹_› fun b4 h => ?_
      refine ⟨rfl, h, fun hb => ?_⟩
      replace h := h2 (by cases hb; exact h)
      refine we_name (i := 2) rfl rfl rfl ?_
      exact ⟨rfl, x2, rfl, h⟩
    exact rtL_v (us := zs3) h

abbrev st_from_right : Stmt := topS 18
abbrev N_from_right : List Str := ["left", "right", "saying"]
abbrev vs_from_right : List Bool := [true, true, true]
abbrev gl_from_right : List Str := ["claim_of", "NoRule"]
theorem sc_from_right : FnScope N_from_right ["left", "right", "saying"] (defScope st_from_right) := ⟨rfl, rfl, rfl, by decide +kernel, rfl, by decide +kernel, by decide +kernel⟩
theorem gd_from_right : goodC N_from_right (defScope st_from_right) vs_from_right vs_from_right gl_from_right = true := by decide +kernel
@[reducible] def cx_from_right (G : Gl) (k : Nat) : Pl.Ctx := G.cx N_from_right (defScope st_from_right) vs_from_right vs_from_right gl_from_right k

theorem ok_from_right (T : Tp G κ) : ∀ k, G.fn k "from_right" 3 (spN κ 3 (sh_from_right k))
  | 0 => fn_none T.d_from_right (spN_none fun us => rfl)
  | kk + 1 => by
    have h_claim_of := ok_claim_of T kk
    refine def_N T.d_from_right sc_from_right gd_from_right fun us hl Q Eh h => ?_
    have hE : EI κ Eh (erM κ Eh) := EI.erM
    obtain ⟨v_left, v_right, v_saying, rfl⟩ := len3 hl
    change WSs _ [some (em κ v_left), some (em κ v_right), some (em κ v_saying)] _ (_ :: _) _
    refine wss_cons ?_
    refine ws_if ?_
    refine wt_eqM (κ := κ) ?_
    refine we_ixM (κ := κ) ?_
    refine we_name (i := 2) rfl rfl rfl ?_
    refine we_int ?_
    refine fin2 (f := ixM) v_saying (.int 0) (vE (u := v_saying)) (vE (u := .int 0)) ‹_› fun z1 h => ?_
    refine we_str ?_
    refine fin2 (f := eqM) z1 (.str "not") (vE (u := z1)) (vE (u := .str "not")) ‹_› fun b2 h => ?_
    refine ite_m ‹_› (fun h => ?_) (fun h => ?_)
    · refine wss_cons ?_
      refine ws_retn ?_
      refine wn_lst ?_
      refine wa_cons ?_ rfl
      refine we_callV (κ := κ) h_claim_of (Nat.le_refl _) ⟨0, rfl⟩ ?_
      refine wa_cons ?_ rfl
      refine we_addM (κ := κ) ?_
      refine we_name (i := 0) rfl rfl rfl ?_
      refine we_f ?_
      refine wn_lst ?_
      refine wa_cons ?_ rfl
      refine we_ixM (κ := κ) ?_
      refine we_name (i := 2) rfl rfl rfl ?_
      refine we_int ?_
      refine fin2 (f := ixM) v_saying (.int 1) (vE (u := v_saying)) (vE (u := .int 1)) ‹_› fun z3 h => ?_
      refine wa_nil ?_
      refine ⟨szd (by decide : 1 < 10000000), ?_⟩
      refine fin2 (f := addM) v_left (.lst [z3]) (vE (u := v_left)) (vE (u := .lst [z3])) ‹_› fun z4 h => ?_
      refine wa_cons ?_ rfl
      refine we_name (i := 1) rfl rfl rfl ?_
      refine wa_nil ?_
      refine finF (Γ := _) [z4, v_right] rfl rfl hE ‹_› fun z5 h => ?_
      refine wa_nil ?_
      refine ⟨szd (by decide : 1 < 10000000), ?_⟩
      exact rtL_v (us := [z5]) h
    · refine wss_nil ?_
      refine wss_cons ?_
      refine ws_if ?_
      refine wt_eqM (κ := κ) ?_
      refine we_ixM (κ := κ) ?_
      refine we_name (i := 2) rfl rfl rfl ?_
      refine we_int ?_
      refine fin2 (f := ixM) v_saying (.int 0) (vE (u := v_saying)) (vE (u := .int 0)) ‹_› fun z6 h => ?_
      refine we_str ?_
      refine fin2 (f := eqM) z6 (.str "and") (vE (u := z6)) (vE (u := .str "and")) ‹_› fun b7 h => ?_
      refine ite_m ‹_› (fun h => ?_) (fun h => ?_)
      · refine wss_cons ?_
        refine ws_retn ?_
        refine wn_lst ?_
        refine wa_cons ?_ rfl
        refine we_callV (κ := κ) h_claim_of (Nat.le_refl _) ⟨0, rfl⟩ ?_
        refine wa_cons ?_ rfl
        refine we_name (i := 0) rfl rfl rfl ?_
        refine wa_cons ?_ rfl
        refine we_addM (κ := κ) ?_
        refine we_name (i := 1) rfl rfl rfl ?_
        refine we_f ?_
        refine wn_lst ?_
        refine wa_cons ?_ rfl
        refine we_ixM (κ := κ) ?_
        refine we_name (i := 2) rfl rfl rfl ?_
        refine we_int ?_
        refine fin2 (f := ixM) v_saying (.int 1) (vE (u := v_saying)) (vE (u := .int 1)) ‹_› fun z8 h => ?_
        refine wa_nil ?_
        refine ⟨szd (by decide : 1 < 10000000), ?_⟩
        refine fin2 (f := addM) v_right (.lst [z8]) (vE (u := v_right)) (vE (u := .lst [z8])) ‹_› fun z9 h => ?_
        refine wa_nil ?_
        refine finF (Γ := _) [v_left, z9] rfl rfl hE ‹_› fun z10 h => ?_
        refine wa_cons ?_ rfl
        refine we_callV (κ := κ) h_claim_of (Nat.le_refl _) ⟨0, rfl⟩ ?_
        refine wa_cons ?_ rfl
        refine we_name (i := 0) rfl rfl rfl ?_
        refine wa_cons ?_ rfl
        refine we_addM (κ := κ) ?_
        refine we_name (i := 1) rfl rfl rfl ?_
        refine we_f ?_
        refine wn_lst ?_
        refine wa_cons ?_ rfl
        refine we_ixM (κ := κ) ?_
        refine we_name (i := 2) rfl rfl rfl ?_
        refine we_int ?_
        refine fin2 (f := ixM) v_saying (.int 2) (vE (u := v_saying)) (vE (u := .int 2)) ‹_› fun z11 h => ?_
        refine wa_nil ?_
        refine ⟨szd (by decide : 1 < 10000000), ?_⟩
        refine fin2 (f := addM) v_right (.lst [z11]) (vE (u := v_right)) (vE (u := .lst [z11])) ‹_› fun z12 h => ?_
        refine wa_nil ?_
        refine finF (Γ := _) [v_left, z12] rfl rfl hE ‹_› fun z13 h => ?_
        refine wa_nil ?_
        refine ⟨szd (by decide : 2 < 10000000), ?_⟩
        exact rtL_v (us := [z10, z13]) h
      · refine wss_nil ?_
        refine wss_cons ?_
        refine ws_if ?_
        refine wt_eqM (κ := κ) ?_
        refine we_ixM (κ := κ) ?_
        refine we_name (i := 2) rfl rfl rfl ?_
        refine we_int ?_
        refine fin2 (f := ixM) v_saying (.int 0) (vE (u := v_saying)) (vE (u := .int 0)) ‹_› fun z14 h => ?_
        refine we_str ?_
        refine fin2 (f := eqM) z14 (.str "or") (vE (u := z14)) (vE (u := .str "or")) ‹_› fun b15 h => ?_
        refine ite_m ‹_› (fun h => ?_) (fun h => ?_)
        · refine wss_cons ?_
          refine ws_retn ?_
          refine wn_lst ?_
          refine wa_cons ?_ rfl
          refine we_callV (κ := κ) h_claim_of (Nat.le_refl _) ⟨0, rfl⟩ ?_
          refine wa_cons ?_ rfl
          refine we_name (i := 0) rfl rfl rfl ?_
          refine wa_cons ?_ rfl
          refine we_addM (κ := κ) ?_
          refine we_name (i := 1) rfl rfl rfl ?_
          refine we_f ?_
          refine wn_lst ?_
          refine wa_cons ?_ rfl
          refine we_ixM (κ := κ) ?_
          refine we_name (i := 2) rfl rfl rfl ?_
          refine we_int ?_
          refine fin2 (f := ixM) v_saying (.int 1) (vE (u := v_saying)) (vE (u := .int 1)) ‹_› fun z16 h => ?_
          refine wa_cons ?_ rfl
          refine we_ixM (κ := κ) ?_
          refine we_name (i := 2) rfl rfl rfl ?_
          refine we_int ?_
          refine fin2 (f := ixM) v_saying (.int 2) (vE (u := v_saying)) (vE (u := .int 2)) ‹_› fun z17 h => ?_
          refine wa_nil ?_
          refine ⟨szd (by decide : 2 < 10000000), ?_⟩
          refine fin2 (f := addM) v_right (.lst [z16, z17]) (vE (u := v_right)) (vE (u := .lst [z16, z17])) ‹_› fun z18 h => ?_
          refine wa_nil ?_
          refine finF (Γ := _) [v_left, z18] rfl rfl hE ‹_› fun z19 h => ?_
          refine wa_nil ?_
          refine ⟨szd (by decide : 1 < 10000000), ?_⟩
          exact rtL_v (us := [z19]) h
        · refine wss_nil ?_
          refine wss_cons ?_
          refine ws_if ?_
          refine wt_eqM (κ := κ) ?_
          refine we_ixM (κ := κ) ?_
          refine we_name (i := 2) rfl rfl rfl ?_
          refine we_int ?_
          refine fin2 (f := ixM) v_saying (.int 0) (vE (u := v_saying)) (vE (u := .int 0)) ‹_› fun z20 h => ?_
          refine we_str ?_
          refine fin2 (f := eqM) z20 (.str "if") (vE (u := z20)) (vE (u := .str "if")) ‹_› fun b21 h => ?_
          refine ite_m ‹_› (fun h => ?_) (fun h => ?_)
          · refine wss_cons ?_
            refine ws_retn ?_
            refine wn_lst ?_
            refine wa_cons ?_ rfl
            refine we_callV (κ := κ) h_claim_of (Nat.le_refl _) ⟨0, rfl⟩ ?_
            refine wa_cons ?_ rfl
            refine we_addM (κ := κ) ?_
            refine we_name (i := 0) rfl rfl rfl ?_
            refine we_f ?_
            refine wn_lst ?_
            refine wa_cons ?_ rfl
            refine we_ixM (κ := κ) ?_
            refine we_name (i := 2) rfl rfl rfl ?_
            refine we_int ?_
            refine fin2 (f := ixM) v_saying (.int 1) (vE (u := v_saying)) (vE (u := .int 1)) ‹_› fun z22 h => ?_
            refine wa_nil ?_
            refine ⟨szd (by decide : 1 < 10000000), ?_⟩
            refine fin2 (f := addM) v_left (.lst [z22]) (vE (u := v_left)) (vE (u := .lst [z22])) ‹_› fun z23 h => ?_
            refine wa_cons ?_ rfl
            refine we_addM (κ := κ) ?_
            refine we_name (i := 1) rfl rfl rfl ?_
            refine we_f ?_
            refine wn_lst ?_
            refine wa_cons ?_ rfl
            refine we_ixM (κ := κ) ?_
            refine we_name (i := 2) rfl rfl rfl ?_
            refine we_int ?_
            refine fin2 (f := ixM) v_saying (.int 2) (vE (u := v_saying)) (vE (u := .int 2)) ‹_› fun z24 h => ?_
            refine wa_nil ?_
            refine ⟨szd (by decide : 1 < 10000000), ?_⟩
            refine fin2 (f := addM) v_right (.lst [z24]) (vE (u := v_right)) (vE (u := .lst [z24])) ‹_› fun z25 h => ?_
            refine wa_nil ?_
            refine finF (Γ := _) [z23, z25] rfl rfl hE ‹_› fun z26 h => ?_
            refine wa_nil ?_
            refine ⟨szd (by decide : 1 < 10000000), ?_⟩
            exact rtL_v (us := [z26]) h
          · refine wss_nil ?_
            refine wss_cons ?_
            exact ws_raiseM ⟨1, rfl⟩ T.x_NoRule (EI.at hE) h

abbrev st_further_up : Stmt := topS 19
abbrev N_further_up : List Str := ["left", "saying", "known", "other"]
abbrev vs_further_up : List Bool := [true, true, true, true]
abbrev gl_further_up : List Str := ["claim_of"]
theorem sc_further_up : FnScope N_further_up ["left", "saying"] (defScope st_further_up) := ⟨rfl, rfl, rfl, by decide +kernel, rfl, by decide +kernel, by decide +kernel⟩
theorem gd_further_up : goodC N_further_up (defScope st_further_up) vs_further_up vs_further_up gl_further_up = true := by decide +kernel
@[reducible] def cx_further_up (G : Gl) (k : Nat) : Pl.Ctx := G.cx N_further_up (defScope st_further_up) vs_further_up vs_further_up gl_further_up k

theorem ok_further_up (T : Tp G κ) : ∀ k, G.fn k "further_up" 2 (spN κ 2 (sh_further_up k))
  | 0 => fn_none T.d_further_up (spN_none fun us => rfl)
  | kk + 1 => by
    have h_claim_of := ok_claim_of T kk
    refine def_N T.d_further_up sc_further_up gd_further_up fun us hl Q Eh h => ?_
    have hE : EI κ Eh (erM κ Eh) := EI.erM
    obtain ⟨v_left, v_saying, rfl⟩ := len2 hl
    change WSs _ [some (em κ v_left), some (em κ v_saying), none, none] _ (_ :: _) _
    refine wss_cons ?_
    refine ws_set (i := 2) rfl rfl (we_o ?_) rfl
    refine wn_lst ?_
    refine wa_cons ?_ rfl
    refine we_name (i := 1) rfl rfl rfl ?_
    refine wa_nil ?_
    refine ⟨szd (by decide : 1 < 10000000), ?_⟩
    refine wss_cons ?_
    refine ws_for [3] ?_
    refine wi_LM (κ := κ) ?_
    refine we_name (i := 0) rfl rfl rfl ?_
    refine finI (f := iterL) v_left ‹_› fun it1 h => ?_
    refine loopN_m (fun (st : List U) (Γ : Pl.Env) (Λ : Cells) => ∃ (y0 : Option D), Γ = [some (em κ v_left), some (em κ v_saying), some (.loc 0), y0] ∧ Λ = [.lst (ems κ st)]) h ⟨_, rfl, rfl⟩ (fun v_known_2 x3 Γ Λ Q1 hs h => ?_) (fun v_known_9 Γ Λ hs h => ?_)
    · obtain ⟨y0, rfl, rfl⟩ := hs
      refine wg_name (i := 3) rfl rfl ?_
      refine wss_cons ?_
      refine ws_cutM (fun (st : List U) (Γ : Pl.Env) (Λ : Cells) => Γ = [some (em κ v_left), some (em κ v_saying), some (.loc 0), some (em κ x3)] ∧ Λ = [.lst (ems κ st)]) h (fun Q1 h => ?_) (fun v_known_8 Γ Λ hs h => ?_)
      · refine ws_if ?_
        refine wt_eqM (κ := κ) ?_
        refine we_ixM (κ := κ) ?_
        refine we_name (i := 3) rfl rfl rfl ?_
        refine we_int ?_
        refine fin2 (f := ixM) x3 (.int 0) (vE (u := x3)) (vE (u := .int 0)) ‹_› fun z4 h => ?_
        refine we_str ?_
        refine fin2 (f := eqM) z4 (.str "shown") (vE (u := z4)) (vE (u := .str "shown")) ‹_› fun b5 h => ?_
        refine ite_m ‹_› (fun h => ?_) (fun h => ?_)
        · refine wss_cons ?_
          refine ws_expr ?_
          refine we_extM (κ := κ) 0 ?_
          refine we_name (i := 2) rfl rfl rfl ?_
          refine ⟨rfl, ⟨v_known_2, rfl⟩, ?_⟩
          refine we_f ?_
          refine wn_lst ?_
          refine wa_cons ?_ rfl
          refine we_name (i := 3) rfl rfl rfl ?_
          refine wa_cons ?_ rfl
          refine we_ixM (κ := κ) ?_
          refine we_name (i := 3) rfl rfl rfl ?_
          refine we_int ?_
          refine fin2 (f := ixM) x3 (.int 1) (vE (u := x3)) (vE (u := .int 1)) ‹_› fun z6 h => ?_
          refine wa_nil ?_
          refine ⟨szd (by decide : 2 < 10000000), ?_⟩
          refine finV (f := extM) v_known_2 (.lst [x3, z6]) (vE (u := .lst [x3, z6])) rfl ‹_› fun l7 h => ?_
          refine wss_nil ?_
          exact ⟨l7, ⟨rfl, rfl⟩, h⟩
        · refine wss_nil ?_
          exact ⟨v_known_2, ⟨rfl, rfl⟩, h⟩
      · obtain ⟨rfl, rfl⟩ := hs
        refine wss_nil ?_
        exact ⟨v_known_8, ⟨_, rfl, rfl⟩, h⟩
    · obtain ⟨y0, rfl, rfl⟩ := hs
      refine freezeM 0 2 v_known_9 (Nat.le_of_ble_eq_true rfl) rfl rfl ?_
      refine wss_cons ?_
      refine ws_retn ?_
      refine wn_lst ?_
      refine wa_cons ?_ rfl
      refine we_callV (κ := κ) h_claim_of (Nat.le_refl _) ⟨0, rfl⟩ ?_
      refine wa_cons ?_ rfl
      refine we_name (i := 2) rfl rfl rfl ?_
      refine wa_cons ?_ rfl
      refine we_f ?_
      refine wn_lst ?_
      refine wa_cons ?_ rfl
      refine we_ixM (κ := κ) ?_
      refine we_name (i := 1) rfl rfl rfl ?_
      refine we_int ?_
      refine fin2 (f := ixM) v_saying (.int 1) (vE (u := v_saying)) (vE (u := .int 1)) ‹_› fun z10 h => ?_
      refine wa_nil ?_
      refine ⟨szd (by decide : 1 < 10000000), ?_⟩
      refine wa_nil ?_
      refine finF (Γ := _) [.lst v_known_9, .lst [z10]] rfl rfl hE ‹_› fun z11 h => ?_
      refine wa_nil ?_
      refine ⟨szd (by decide : 1 < 10000000), ?_⟩
      exact rtL_v (us := [z11]) h

abbrev st_needed : Stmt := topS 20
abbrev N_needed : List Str := ["claim", "rule", "saying", "left", "right"]
abbrev vs_needed : List Bool := [true, true, true, true, true]
abbrev gl_needed : List Str := ["NEVER", "from_left", "without", "from_right", "further_up", "NoRule"]
theorem sc_needed : FnScope N_needed ["claim", "rule", "saying"] (defScope st_needed) := ⟨rfl, rfl, rfl, by decide +kernel, rfl, by decide +kernel, by decide +kernel⟩
theorem gd_needed : goodC N_needed (defScope st_needed) vs_needed vs_needed gl_needed = true := by decide +kernel
@[reducible] def cx_needed (G : Gl) (k : Nat) : Pl.Ctx := G.cx N_needed (defScope st_needed) vs_needed vs_needed gl_needed k

theorem ok_needed (T : Tp G κ) : ∀ k, G.fn k "needed" 3 (spN κ 3 (sh_needed k))
  | 0 => fn_none T.d_needed (spN_none fun us => rfl)
  | kk + 1 => by
    have h_from_left := ok_from_left T kk
    have h_without := ok_without T kk
    have h_from_right := ok_from_right T kk
    have h_further_up := ok_further_up T kk
    refine def_N T.d_needed sc_needed gd_needed fun us hl Q Eh h => ?_
    have hE : EI κ Eh (erM κ Eh) := EI.erM
    obtain ⟨v_claim, v_rule, v_saying, rfl⟩ := len3 hl
    change WSs _ [some (em κ v_claim), some (em κ v_rule), some (em κ v_saying), none, none] _ (_ :: _) _
    refine wss_cons ?_
    refine ws_sett [3, 4] ?_ rfl rfl
    refine we_name (i := 0) rfl rfl rfl ?_
    refine tg2 v_claim ‹_› fun v_left_1 v_right_2 h => ?_
    refine wg_tup ?_ rfl
    refine wgs_cons1 ?_ rfl
    refine wg_name (i := 3) rfl rfl ?_
    refine wgs_cons1 ?_ rfl
    refine wg_name (i := 4) rfl rfl ?_
    refine wgs_nil ?_
    refine wss_cons ?_
    refine ws_if ?_
    refine wt_cutM ‹_› (fun Q1 h => ?_) (fun b6 h => ?_)
    · refine wt_ww (ww_and ?_)
      refine wt_eqM (κ := κ) ?_
      refine we_name (i := 1) rfl rfl rfl ?_
      refine we_str ?_
      refine fin2 (f := eqM) v_rule (.str "same") (vE (u := v_rule)) (vE (u := .str "same")) ‹_› fun b3 h => ?_
      refine ite_m ‹_› (fun h => ?_) (fun h => ?_)
      · refine ww_and ?_
        refine wt_inM (κ := κ) ?_
        refine we_name (i := 2) rfl rfl rfl ?_
        refine we_name (i := 3) rfl rfl rfl ?_
        refine fin2 (f := inM) v_saying v_left_1 (vE (u := v_saying)) (vE (u := v_left_1)) ‹_› fun b4 h => ?_
        refine ite_m ‹_› (fun h => ?_) (fun h => ?_)
        · refine ww_and1 ?_
          refine wt_inM (κ := κ) ?_
          refine we_name (i := 2) rfl rfl rfl ?_
          refine we_name (i := 4) rfl rfl rfl ?_
          refine fin2 (f := inM) v_saying v_right_2 (vE (u := v_saying)) (vE (u := v_right_2)) ‹_› fun b5 h => ?_
          exact ⟨rfl, h⟩
        · exact ⟨rfl, h⟩
      · exact ⟨rfl, h⟩
    refine ite_m ‹_› (fun h => ?_) (fun h => ?_)
    · refine wss_cons ?_
      refine ws_retn ?_
      refine wn_lst ?_
      refine wa_nil ?_
      refine ⟨szd (by decide : 0 < 10000000), ?_⟩
      exact rtL_v (us := []) h
    · refine wss_nil ?_
      refine wss_cons ?_
      refine ws_if ?_
      refine wt_cutM ‹_› (fun Q1 h => ?_) (fun b10 h => ?_)
      · refine wt_ww (ww_and ?_)
        refine wt_eqM (κ := κ) ?_
        refine we_name (i := 1) rfl rfl rfl ?_
        refine we_str ?_
        refine fin2 (f := eqM) v_rule (.str "never") (vE (u := v_rule)) (vE (u := .str "never")) ‹_› fun b7 h => ?_
        refine ite_m ‹_› (fun h => ?_) (fun h => ?_)
        · refine ww_and ?_
          refine wt_eqM (κ := κ) ?_
          refine we_name (i := 2) rfl rfl rfl ?_
          refine we_gtup ⟨0, rfl⟩ T.c_NEVER ?_
          refine fin2 (f := eqM) v_saying (.tup [.str "no"]) (vE (u := v_saying)) (vE (u := .tup [.str "no"])) ‹_› fun b8 h => ?_
          refine ite_m ‹_› (fun h => ?_) (fun h => ?_)
          · refine ww_and1 ?_
            refine wt_inM (κ := κ) ?_
            refine we_name (i := 2) rfl rfl rfl ?_
            refine we_name (i := 3) rfl rfl rfl ?_
            refine fin2 (f := inM) v_saying v_left_1 (vE (u := v_saying)) (vE (u := v_left_1)) ‹_› fun b9 h => ?_
            exact ⟨rfl, h⟩
          · exact ⟨rfl, h⟩
        · exact ⟨rfl, h⟩
      refine ite_m ‹_› (fun h => ?_) (fun h => ?_)
      · refine wss_cons ?_
        refine ws_retn ?_
        refine wn_lst ?_
        refine wa_nil ?_
        refine ⟨szd (by decide : 0 < 10000000), ?_⟩
        exact rtL_v (us := []) h
      · refine wss_nil ?_
        refine wss_cons ?_
        refine ws_if ?_
        refine wt_cutM ‹_› (fun Q1 h => ?_) (fun b13 h => ?_)
        · refine wt_ww (ww_and ?_)
          refine wt_eqM (κ := κ) ?_
          refine we_name (i := 1) rfl rfl rfl ?_
          refine we_str ?_
          refine fin2 (f := eqM) v_rule (.str "left") (vE (u := v_rule)) (vE (u := .str "left")) ‹_› fun b11 h => ?_
          refine ite_m ‹_› (fun h => ?_) (fun h => ?_)
          · refine ww_and1 ?_
            refine wt_inM (κ := κ) ?_
            refine we_name (i := 2) rfl rfl rfl ?_
            refine we_name (i := 3) rfl rfl rfl ?_
            refine fin2 (f := inM) v_saying v_left_1 (vE (u := v_saying)) (vE (u := v_left_1)) ‹_› fun b12 h => ?_
            exact ⟨rfl, h⟩
          · exact ⟨rfl, h⟩
        refine ite_m ‹_› (fun h => ?_) (fun h => ?_)
        · refine wss_cons ?_
          refine ws_retn ?_
          refine wn_callN (κ := κ) h_from_left (Nat.le_refl _) ⟨1, rfl⟩ ?_
          refine wa_cons ?_ rfl
          refine we_f ?_
          refine wn_callN (κ := κ) h_without (Nat.le_refl _) ⟨2, rfl⟩ ?_
          refine wa_cons ?_ rfl
          refine we_name (i := 3) rfl rfl rfl ?_
          refine wa_cons ?_ rfl
          refine we_name (i := 2) rfl rfl rfl ?_
          refine wa_nil ?_
          refine finF (Γ := _) [v_left_1, v_saying] rfl rfl hE ‹_› fun z14 h => ?_
          refine wa_cons ?_ rfl
          refine we_name (i := 4) rfl rfl rfl ?_
          refine wa_cons ?_ rfl
          refine we_name (i := 2) rfl rfl rfl ?_
          refine wa_nil ?_
          refine finF (Γ := _) [.lst z14, v_right_2, v_saying] rfl rfl hE ‹_› fun z15 h => ?_
          exact rtL_v (us := z15) h
        · refine wss_nil ?_
          refine wss_cons ?_
          refine ws_if ?_
          refine wt_cutM ‹_› (fun Q1 h => ?_) (fun b18 h => ?_)
          · refine wt_ww (ww_and ?_)
            refine wt_eqM (κ := κ) ?_
            refine we_name (i := 1) rfl rfl rfl ?_
            refine we_str ?_
            refine fin2 (f := eqM) v_rule (.str "right") (vE (u := v_rule)) (vE (u := .str "right")) ‹_› fun b16 h => ?_
            refine ite_m ‹_› (fun h => ?_) (fun h => ?_)
            · refine ww_and1 ?_
              refine wt_inM (κ := κ) ?_
              refine we_name (i := 2) rfl rfl rfl ?_
              refine we_name (i := 4) rfl rfl rfl ?_
              refine fin2 (f := inM) v_saying v_right_2 (vE (u := v_saying)) (vE (u := v_right_2)) ‹_› fun b17 h => ?_
              exact ⟨rfl, h⟩
            · exact ⟨rfl, h⟩
          refine ite_m ‹_› (fun h => ?_) (fun h => ?_)
          · refine wss_cons ?_
            refine ws_retn ?_
            refine wn_callN (κ := κ) h_from_right (Nat.le_refl _) ⟨3, rfl⟩ ?_
            refine wa_cons ?_ rfl
            refine we_name (i := 3) rfl rfl rfl ?_
            refine wa_cons ?_ rfl
            refine we_f ?_
            refine wn_callN (κ := κ) h_without (Nat.le_refl _) ⟨2, rfl⟩ ?_
            refine wa_cons ?_ rfl
            refine we_name (i := 4) rfl rfl rfl ?_
            refine wa_cons ?_ rfl
            refine we_name (i := 2) rfl rfl rfl ?_
            refine wa_nil ?_
            refine finF (Γ := _) [v_right_2, v_saying] rfl rfl hE ‹_› fun z19 h => ?_
            refine wa_cons ?_ rfl
            refine we_name (i := 2) rfl rfl rfl ?_
            refine wa_nil ?_
            refine finF (Γ := _) [v_left_1, .lst z19, v_saying] rfl rfl hE ‹_› fun z20 h => ?_
            exact rtL_v (us := z20) h
          · refine wss_nil ?_
            refine wss_cons ?_
            refine ws_if ?_
            refine wt_cutM ‹_› (fun Q1 h => ?_) (fun b25 h => ?_)
            · refine wt_ww (ww_and ?_)
              refine wt_eqM (κ := κ) ?_
              refine we_name (i := 1) rfl rfl rfl ?_
              refine we_str ?_
              refine fin2 (f := eqM) v_rule (.str "up") (vE (u := v_rule)) (vE (u := .str "up")) ‹_› fun b21 h => ?_
              refine ite_m ‹_› (fun h => ?_) (fun h => ?_)
              · refine ww_and ?_
                refine wt_eqM (κ := κ) ?_
                refine we_ixM (κ := κ) ?_
                refine we_name (i := 2) rfl rfl rfl ?_
                refine we_int ?_
                refine fin2 (f := ixM) v_saying (.int 0) (vE (u := v_saying)) (vE (u := .int 0)) ‹_› fun z22 h => ?_
                refine we_str ?_
                refine fin2 (f := eqM) z22 (.str "shown") (vE (u := z22)) (vE (u := .str "shown")) ‹_› fun b23 h => ?_
                refine ite_m ‹_› (fun h => ?_) (fun h => ?_)
                · refine ww_and1 ?_
                  refine wt_inM (κ := κ) ?_
                  refine we_name (i := 2) rfl rfl rfl ?_
                  refine we_name (i := 4) rfl rfl rfl ?_
                  refine fin2 (f := inM) v_saying v_right_2 (vE (u := v_saying)) (vE (u := v_right_2)) ‹_› fun b24 h => ?_
                  exact ⟨rfl, h⟩
                · exact ⟨rfl, h⟩
              · exact ⟨rfl, h⟩
            refine ite_m ‹_› (fun h => ?_) (fun h => ?_)
            · refine wss_cons ?_
              refine ws_retn ?_
              refine wn_callN (κ := κ) h_further_up (Nat.le_refl _) ⟨4, rfl⟩ ?_
              refine wa_cons ?_ rfl
              refine we_name (i := 3) rfl rfl rfl ?_
              refine wa_cons ?_ rfl
              refine we_name (i := 2) rfl rfl rfl ?_
              refine wa_nil ?_
              refine finF (Γ := _) [v_left_1, v_saying] rfl rfl hE ‹_› fun z26 h => ?_
              exact rtL_v (us := z26) h
            · refine wss_nil ?_
              refine wss_cons ?_
              exact ws_raiseM ⟨5, rfl⟩ T.x_NoRule (EI.at hE) h

abbrev st__law_alone : Stmt := topS 30
abbrev N__law_alone : List Str := ["_law_e", "_law_kinds"]
abbrev vs__law_alone : List Bool := [true, true]
abbrev gl__law_alone : List Str := ["int", "isinstance", "NoRule", "NoSaying", "NoTree", "HasLetter", "TooMany", "Outside", "NoLine", "Nothing", "ValueError"]
theorem sc__law_alone : FnScope N__law_alone ["_law_e"] (defScope st__law_alone) := ⟨rfl, rfl, rfl, by decide +kernel, rfl, by decide +kernel, by decide +kernel⟩
theorem gd__law_alone : goodC N__law_alone (defScope st__law_alone) vs__law_alone vs__law_alone gl__law_alone = true := by decide +kernel
@[reducible] def cx__law_alone (G : Gl) (k : Nat) : Pl.Ctx := G.cx N__law_alone (defScope st__law_alone) vs__law_alone vs__law_alone gl__law_alone k

theorem okh__law_alone (T : Tp G κ) : ∀ k, G.fnh k "_law_alone" 1 (spV κ 1 (sh__law_alone k))
  | 0 => fnh_none T.d__law_alone (spV_none fun us => rfl)
  | kk + 1 => by
    refine def_VW T.d__law_alone sc__law_alone gd__law_alone fun us hl Q Eh h => ?_
    have hE : EI κ Eh (erM κ Eh) := EI.erM
    obtain ⟨v_e, rfl⟩ := len1 hl
    change WSs _ [some (em κ v_e), none] _ (_ :: _) _
    refine wss_cons ?_
    refine ws_set (i := 1) rfl rfl ?_ rfl
    refine we_addM (κ := κ) ?_
    refine we_addM (κ := κ) ?_
    refine we_intM (κ := κ) ⟨0, rfl⟩ T.z_int ?_
    refine we_isEM (κ := κ) (tbl := [("NoRule", true)]) ⟨1, rfl⟩ T.z_isinstance ⟨2, rfl⟩ T.g_NoRule T.xi_NoRule ?_
    refine we_name (i := 0) rfl rfl rfl ?_
    refine ⟨v_e, rfl, fin0 (m := isEM [("NoRule", true)] v_e) ‹_› fun z1 h => ?_⟩
    refine fin1 (f := intM) z1 (vE (u := z1)) ‹_› fun z2 h => ?_
    refine we_intM (κ := κ) ⟨0, rfl⟩ T.z_int ?_
    refine we_isEM (κ := κ) (tbl := [("NoRule", false)]) ⟨1, rfl⟩ T.z_isinstance ⟨3, rfl⟩ T.g_NoSaying T.xi_NoSaying ?_
    refine we_name (i := 0) rfl rfl rfl ?_
    refine ⟨v_e, rfl, fin0 (m := isEM [("NoRule", false)] v_e) ‹_› fun z3 h => ?_⟩
    refine fin1 (f := intM) z3 (vE (u := z3)) ‹_› fun z4 h => ?_
    refine fin2 (f := addM) z2 z4 (vE (u := z2)) (vE (u := z4)) ‹_› fun z5 h => ?_
    refine we_intM (κ := κ) ⟨0, rfl⟩ T.z_int ?_
    refine we_isEM (κ := κ) (tbl := [("NoRule", false)]) ⟨1, rfl⟩ T.z_isinstance ⟨4, rfl⟩ T.g_NoTree T.xi_NoTree ?_
    refine we_name (i := 0) rfl rfl rfl ?_
    refine ⟨v_e, rfl, fin0 (m := isEM [("NoRule", false)] v_e) ‹_› fun z6 h => ?_⟩
    refine fin1 (f := intM) z6 (vE (u := z6)) ‹_› fun z7 h => ?_
    refine fin2 (f := addM) z5 z7 (vE (u := z5)) (vE (u := z7)) ‹_› fun z8 h => ?_
    refine wss_cons ?_
    refine ws_set (i := 1) rfl rfl ?_ rfl
    refine we_addM (κ := κ) ?_
    refine we_addM (κ := κ) ?_
    refine we_addM (κ := κ) ?_
    refine we_name (i := 1) rfl rfl rfl ?_
    refine we_intM (κ := κ) ⟨0, rfl⟩ T.z_int ?_
    refine we_isEM (κ := κ) (tbl := [("NoRule", false)]) ⟨1, rfl⟩ T.z_isinstance ⟨5, rfl⟩ T.g_HasLetter T.xi_HasLetter ?_
    refine we_name (i := 0) rfl rfl rfl ?_
    refine ⟨v_e, rfl, fin0 (m := isEM [("NoRule", false)] v_e) ‹_› fun z9 h => ?_⟩
    refine fin1 (f := intM) z9 (vE (u := z9)) ‹_› fun z10 h => ?_
    refine fin2 (f := addM) z8 z10 (vE (u := z8)) (vE (u := z10)) ‹_› fun z11 h => ?_
    refine we_intM (κ := κ) ⟨0, rfl⟩ T.z_int ?_
    refine we_isEM (κ := κ) (tbl := [("NoRule", false)]) ⟨1, rfl⟩ T.z_isinstance ⟨6, rfl⟩ T.g_TooMany T.xi_TooMany ?_
    refine we_name (i := 0) rfl rfl rfl ?_
    refine ⟨v_e, rfl, fin0 (m := isEM [("NoRule", false)] v_e) ‹_› fun z12 h => ?_⟩
    refine fin1 (f := intM) z12 (vE (u := z12)) ‹_› fun z13 h => ?_
    refine fin2 (f := addM) z11 z13 (vE (u := z11)) (vE (u := z13)) ‹_› fun z14 h => ?_
    refine we_intM (κ := κ) ⟨0, rfl⟩ T.z_int ?_
    refine we_isEM (κ := κ) (tbl := [("NoRule", false)]) ⟨1, rfl⟩ T.z_isinstance ⟨7, rfl⟩ T.g_Outside T.xi_Outside ?_
    refine we_name (i := 0) rfl rfl rfl ?_
    refine ⟨v_e, rfl, fin0 (m := isEM [("NoRule", false)] v_e) ‹_› fun z15 h => ?_⟩
    refine fin1 (f := intM) z15 (vE (u := z15)) ‹_› fun z16 h => ?_
    refine fin2 (f := addM) z14 z16 (vE (u := z14)) (vE (u := z16)) ‹_› fun z17 h => ?_
    refine wss_cons ?_
    refine ws_set (i := 1) rfl rfl ?_ rfl
    refine we_addM (κ := κ) ?_
    refine we_addM (κ := κ) ?_
    refine we_name (i := 1) rfl rfl rfl ?_
    refine we_intM (κ := κ) ⟨0, rfl⟩ T.z_int ?_
    refine we_isEM (κ := κ) (tbl := [("NoRule", false)]) ⟨1, rfl⟩ T.z_isinstance ⟨8, rfl⟩ T.g_NoLine T.xi_NoLine ?_
    refine we_name (i := 0) rfl rfl rfl ?_
    refine ⟨v_e, rfl, fin0 (m := isEM [("NoRule", false)] v_e) ‹_› fun z18 h => ?_⟩
    refine fin1 (f := intM) z18 (vE (u := z18)) ‹_› fun z19 h => ?_
    refine fin2 (f := addM) z17 z19 (vE (u := z17)) (vE (u := z19)) ‹_› fun z20 h => ?_
    refine we_intM (κ := κ) ⟨0, rfl⟩ T.z_int ?_
    refine we_isEM (κ := κ) (tbl := [("NoRule", false)]) ⟨1, rfl⟩ T.z_isinstance ⟨9, rfl⟩ T.g_Nothing T.xi_Nothing ?_
    refine we_name (i := 0) rfl rfl rfl ?_
    refine ⟨v_e, rfl, fin0 (m := isEM [("NoRule", false)] v_e) ‹_› fun z21 h => ?_⟩
    refine fin1 (f := intM) z21 (vE (u := z21)) ‹_› fun z22 h => ?_
    refine fin2 (f := addM) z20 z22 (vE (u := z20)) (vE (u := z22)) ‹_› fun z23 h => ?_
    refine wss_cons ?_
    refine ws_ret ?_
    refine we_cutM (κ := κ) h (fun Q1 h => ?_) (fun z29 h => ?_)
    · refine we_andM (κ := κ) ?_
      refine we_eqM (κ := κ) ?_
      refine we_name (i := 1) rfl rfl rfl ?_
      refine we_int ?_
      refine fin2 (f := (vB eqM)) z23 (.int 1) (vE (u := z23)) (vE (u := .int 1)) ‹_› fun z24 h => ?_
      refine fin1 (f := boolM) z24 (vE (u := z24)) ‹_› fun b25 h => ?_
      refine ite_m ‹_› (fun h => ?_) (fun h => ?_)
      · refine we_andM (κ := κ) ?_
        refine we_isEM (κ := κ) (tbl := [("NoRule", true)]) ⟨1, rfl⟩ T.z_isinstance ⟨2, rfl⟩ T.g_NoRule T.xi_NoRule ?_
        refine we_name (i := 0) rfl rfl rfl ?_
        refine ⟨v_e, rfl, fin0 (m := isEM [("NoRule", true)] v_e) ‹_› fun z26 h => ?_⟩
        refine fin1 (f := boolM) z26 (vE (u := z26)) ‹_› fun b27 h => ?_
        refine ite_m ‹_› (fun h => ?_) (fun h => ?_)
        · refine we_one ?_
          refine we_isEB (κ := κ) (tbl := [("NoRule", true)]) ⟨1, rfl⟩ T.z_isinstance ⟨10, rfl⟩ T.z_ValueError boot_VE T.xi_ValueError ?_
          refine we_name (i := 0) rfl rfl rfl ?_
          refine ⟨v_e, rfl, fin0 (m := isEM [("NoRule", true)] v_e) ‹_› fun z28 h => ?_⟩
          exact ⟨rfl, z28, rfl, h⟩
        · exact ⟨rfl, (.bl false), rfl, h⟩
      · exact ⟨rfl, (.bl false), rfl, h⟩
    exact rtV_v (u := z29) h
theorem ok__law_alone (T : Tp G κ) : ∀ k, G.fn k "_law_alone" 1 (spV κ 1 (sh__law_alone k)) := fun k => (okh__law_alone T k).g

abbrev st__law_told : Stmt := topS 31
abbrev N__law_told : List Str := ["_law_claim_here", "_law_rule", "_law_saying_here", "_law_found", "_law_refused", "_law_e", "_law_one"]
abbrev vs__law_told : List Bool := [true, true, true, true, true, true, false]
abbrev gl__law_told : List Str := ["needed", "SayError", "_law_alone", "isinstance", "list", "all"]
theorem sc__law_told : FnScope N__law_told ["_law_claim_here", "_law_rule", "_law_saying_here"] (defScope st__law_told) := ⟨rfl, rfl, rfl, by decide +kernel, rfl, by decide +kernel, by decide +kernel⟩
theorem gd__law_told : goodC N__law_told (defScope st__law_told) vs__law_told vs__law_told gl__law_told = true := by decide +kernel
@[reducible] def cx__law_told (G : Gl) (k : Nat) : Pl.Ctx := G.cx N__law_told (defScope st__law_told) vs__law_told vs__law_told gl__law_told k

theorem ok__law_told (T : Tp G κ) : ∀ k, G.fn k "_law_told" 3 (spV κ 3 (sh__law_told k))
  | 0 => fn_none T.d__law_told (spV_none fun us => rfl)
  | kk + 1 => by
    have h_needed := ok_needed T kk
    have h__law_alone := ok__law_alone T kk
    have hh__law_alone := okh__law_alone T kk
    refine def_V T.d__law_told sc__law_told gd__law_told fun us hl Q Eh h => ?_
    have hE : EI κ Eh (erM κ Eh) := EI.erM
    obtain ⟨v_claim_here, v_rule, v_saying_here, rfl⟩ := len3 hl
    change WSs _ [some (em κ v_claim_here), some (em κ v_rule), some (em κ v_saying_here), none, none, none, none] _ (_ :: _) _
    rw [sh__law_told] at h
    refine wss_cons ?_
    refine ws_set (i := 3) rfl rfl ?_ rfl
    refine we_non ?_
    refine wss_cons ?_
    refine ws_set (i := 4) rfl rfl ?_ rfl
    refine we_bl ?_
    refine wss_cons ?_
    refine ws_tryH 5 (fun (st : U) (Γ : Pl.Env) (Λ : Cells) => ∃ (y0 : Option D) (y1 : Option D), Γ = [some (em κ v_claim_here), some (em κ v_rule), some (em κ v_saying_here), some (em κ st), some (em κ (.bl false)), y0, y1] ∧ Λ = []) [("NoRule", 0)] rfl rfl rfl ⟨1, rfl⟩ T.g_SayError T.xt_SayError h (fun Q1 E1 h hE => ?_) (fun v_found_2 Γ Λ hs h => ?_) (fun ec13 eu14 h => ?_)
    · refine wss_cons ?_
      refine ws_set (i := 3) rfl rfl ?_ rfl
      refine we_f ?_
      refine wn_callN (κ := κ) h_needed (Nat.le_refl _) ⟨0, rfl⟩ ?_
      refine wa_cons ?_ rfl
      refine we_name (i := 0) rfl rfl rfl ?_
      refine wa_cons ?_ rfl
      refine we_name (i := 1) rfl rfl rfl ?_
      refine wa_cons ?_ rfl
      refine we_name (i := 2) rfl rfl rfl ?_
      refine wa_nil ?_
      refine finFt [v_claim_here, v_rule, v_saying_here] rfl rfl hE ‹_› fun z1 h => ?_
      refine wss_nil ?_
      exact ⟨(.lst z1), ⟨_, _, rfl, rfl⟩, h⟩
    · obtain ⟨y0, y1, rfl, rfl⟩ := hs
      refine wss_cons ?_
      refine ws_if ?_
      refine wt_valM (κ := κ) ?_
      refine we_name (i := 4) rfl rfl rfl ?_
      refine fin1 (f := boolM) (.bl false) (vE (u := .bl false)) ‹_› fun b3 h => ?_
      refine ite_m ‹_› (fun h => ?_) (fun h => ?_)
      · refine wss_cons ?_
        refine ws_ret ?_
        refine we_non ?_
        exact rtV_v (u := .non) h
      · refine wss_nil ?_
        refine wss_cons ?_
        refine ws_if ?_
        refine wt_cutM ‹_› (fun Q1 h => ?_) (fun b12 h => ?_)
        · refine wt_ww (ww_or ?_)
          refine wt_not ?_
          refine wt_valM (κ := κ) ?_
          refine we_isiM (κ := κ) ⟨3, rfl⟩ T.z_isinstance ⟨4, rfl⟩ T.z_list boot_list' ?_
          refine we_name (i := 3) rfl rfl rfl ?_
          refine fin1 (f := fun u => isiM u "list") v_found_2 (vE (u := v_found_2)) ‹_› fun z4 h => ?_
          refine fin1 (f := boolM) z4 (vE (u := z4)) ‹_› fun b5 h => ?_
          refine ite_m ‹_› (fun h => ?_) (fun h => ?_)
          · exact ⟨rfl, h⟩
          · refine ww_or1 ?_
            refine wt_not ?_
            refine wt_valM (κ := κ) ?_
            refine we_allM (κ := κ) ⟨5, rfl⟩ T.z_all ?_
            refine we_f ?_
            refine wn_lc [("_law_one", 6)] [false, false, false, false, false, false, true] [false, false, false, false, false, false, true] ["isinstance", "tuple"] [6] (blkOk_by (by decide +kernel : blkC N__law_told (defScope st__law_told) _ [("_law_one", 6)] = true)) (good_blk (by decide +kernel : goodC N__law_told (relS _ (defScope st__law_told)) [false, false, false, false, false, false, true] [false, false, false, false, false, false, true] ["isinstance", "tuple"] = true)) (sto_by (by decide +kernel : stoC N__law_told _ [false, false, false, false, false, false, true] = true)) (by decide) ?_
            refine wi_LM (κ := κ) ?_
            refine we_name (i := 3) rfl rfl rfl ?_
            refine finI (f := iterL) v_found_2 ‹_› fun it6 h => ?_
            refine comp_m h (fun x7 Q1 h => ?_) (fun zs8 h => ?_)
            · have hE : EI κ no ER.none := EI.no
              refine wg_name (i := 6) rfl rfl ?_
              refine we_isiM (κ := κ) ⟨0, rfl⟩ T.z_isinstance ⟨1, rfl⟩ T.z_tuple boot_tuple' ?_
              refine we_name (i := 6) rfl rfl rfl ?_
              refine fin1 (f := fun u => isiM u "tuple") x7 (vE (u := x7)) ‹_› fun z9 h => ?_
              exact ⟨rfl, z9, rfl, h⟩
            refine fin1 (f := allM) (.lst zs8) (vE (u := .lst zs8)) ‹_› fun z10 h => ?_
            refine fin1 (f := boolM) z10 (vE (u := z10)) ‹_› fun b11 h => ?_
            exact ⟨rfl, h⟩
        refine ite_m ‹_› (fun h => ?_) (fun h => ?_)
        · refine wss_cons ?_
          refine ws_ret ?_
          refine we_str ?_
          exact rtV_v (u := (.str "no list")) h
        · refine wss_nil ?_
          refine wss_cons ?_
          refine ws_ret ?_
          refine we_name (i := 3) rfl rfl rfl ?_
          exact rtV_v (u := v_found_2) h
    · refine wss_cons ?_
      refine ws_set (i := 4) rfl rfl ?_ rfl
      refine we_callVW (κ := κ) hh__law_alone (Nat.le_refl _) ⟨2, rfl⟩ ?_
      refine wa_cons ?_ rfl
      refine we_name (i := 5) rfl rfl rfl ?_
      refine wa_nil ?_
      refine finFk (Γ := _) [.exc ec13 eu14] rfl rfl ‹_› fun z15 h => ?_
      refine wss_nil ?_
      refine wss_cons ?_
      refine ws_if ?_
      refine wt_valM (κ := κ) ?_
      refine we_name (i := 4) rfl rfl rfl ?_
      refine fin1 (f := boolM) z15 (vE (u := z15)) ‹_› fun b16 h => ?_
      refine ite_m ‹_› (fun h => ?_) (fun h => ?_)
      · refine wss_cons ?_
        refine ws_ret ?_
        refine we_non ?_
        exact rtV_v (u := .non) h
      · refine wss_nil ?_
        refine wss_cons ?_
        refine ws_if ?_
        refine wt_cutM ‹_› (fun Q1 h => ?_) (fun b25 h => ?_)
        · refine wt_ww (ww_or ?_)
          refine wt_not ?_
          refine wt_valM (κ := κ) ?_
          refine we_isiM (κ := κ) ⟨3, rfl⟩ T.z_isinstance ⟨4, rfl⟩ T.z_list boot_list' ?_
          refine we_name (i := 3) rfl rfl rfl ?_
          refine fin1 (f := fun u => isiM u "list") .non (vE (u := .non)) ‹_› fun z17 h => ?_
          refine fin1 (f := boolM) z17 (vE (u := z17)) ‹_› fun b18 h => ?_
          refine ite_m ‹_› (fun h => ?_) (fun h => ?_)
          · exact ⟨rfl, h⟩
          · refine ww_or1 ?_
            refine wt_not ?_
            refine wt_valM (κ := κ) ?_
            refine we_allM (κ := κ) ⟨5, rfl⟩ T.z_all ?_
            refine we_f ?_
            refine wn_lc [("_law_one", 6)] [false, false, false, false, false, false, true] [false, false, false, false, false, false, true] ["isinstance", "tuple"] [6] (blkOk_by (by decide +kernel : blkC N__law_told (defScope st__law_told) _ [("_law_one", 6)] = true)) (good_blk (by decide +kernel : goodC N__law_told (relS _ (defScope st__law_told)) [false, false, false, false, false, false, true] [false, false, false, false, false, false, true] ["isinstance", "tuple"] = true)) (sto_by (by decide +kernel : stoC N__law_told _ [false, false, false, false, false, false, true] = true)) (by decide) ?_
            refine wi_LM (κ := κ) ?_
            refine we_name (i := 3) rfl rfl rfl ?_
            refine finI (f := iterL) .non ‹_› fun it19 h => ?_
            refine comp_m h (fun x20 Q1 h => ?_) (fun zs21 h => ?_)
            · have hE : EI κ no ER.none := EI.no
              refine wg_name (i := 6) rfl rfl ?_
              refine we_isiM (κ := κ) ⟨0, rfl⟩ T.z_isinstance ⟨1, rfl⟩ T.z_tuple boot_tuple' ?_
              refine we_name (i := 6) rfl rfl rfl ?_
              refine fin1 (f := fun u => isiM u "tuple") x20 (vE (u := x20)) ‹_› fun z22 h => ?_
              exact ⟨rfl, z22, rfl, h⟩
            refine fin1 (f := allM) (.lst zs21) (vE (u := .lst zs21)) ‹_› fun z23 h => ?_
            refine fin1 (f := boolM) z23 (vE (u := z23)) ‹_› fun b24 h => ?_
            exact ⟨rfl, h⟩
        refine ite_m ‹_› (fun h => ?_) (fun h => ?_)
        · refine wss_cons ?_
          refine ws_ret ?_
          refine we_str ?_
          exact rtV_v (u := (.str "no list")) h
        · refine wss_nil ?_
          refine wss_cons ?_
          refine ws_ret ?_
          refine we_name (i := 3) rfl rfl rfl ?_
          exact rtV_v (u := .non) h

abbrev st__law_right : Stmt := topS 32
abbrev N__law_right : List Str := ["_law_claim_here", "_law_rule", "_law_saying_here", "_law_due", "_law_handed", "_law_k", "_law_found", "_law_one"]
abbrev vs__law_right : List Bool := [true, true, true, true, true, true, true, true]
abbrev gl__law_right : List Str := ["_law_needed", "list", "range", "_law_told"]
theorem sc__law_right : FnScope N__law_right ["_law_claim_here", "_law_rule", "_law_saying_here"] (defScope st__law_right) := ⟨rfl, rfl, rfl, by decide +kernel, rfl, by decide +kernel, by decide +kernel⟩
theorem gd__law_right : goodC N__law_right (defScope st__law_right) vs__law_right vs__law_right gl__law_right = true := by decide +kernel
@[reducible] def cx__law_right (G : Gl) (k : Nat) : Pl.Ctx := G.cx N__law_right (defScope st__law_right) vs__law_right vs__law_right gl__law_right k

theorem ok__law_right (T : Tp G κ) : ∀ k, G.fn k "_law_right" 3 (spV κ 3 (sh__law_right k))
  | 0 => fn_none T.d__law_right (spV_none fun us => rfl)
  | kk + 1 => by
    have h__law_needed := ok__law_needed T kk
    have h__law_told := ok__law_told T kk
    refine def_V T.d__law_right sc__law_right gd__law_right fun us hl Q Eh h => ?_
    have hE : EI κ Eh (erM κ Eh) := EI.erM
    obtain ⟨v_claim_here, v_rule, v_saying_here, rfl⟩ := len3 hl
    change WSs _ [some (em κ v_claim_here), some (em κ v_rule), some (em κ v_saying_here), none, none, none, none, none] _ (_ :: _) _
    refine wss_cons ?_
    refine ws_set (i := 3) rfl rfl ?_ rfl
    refine we_callV (κ := κ) h__law_needed (Nat.le_refl _) ⟨0, rfl⟩ ?_
    refine wa_cons ?_ rfl
    refine we_name (i := 0) rfl rfl rfl ?_
    refine wa_cons ?_ rfl
    refine we_name (i := 1) rfl rfl rfl ?_
    refine wa_cons ?_ rfl
    refine we_name (i := 2) rfl rfl rfl ?_
    refine wa_nil ?_
    refine finF (Γ := _) [v_claim_here, v_rule, v_saying_here] rfl rfl hE ‹_› fun z1 h => ?_
    refine wss_cons ?_
    refine ws_set (i := 4) rfl rfl ?_ rfl
    refine we_tup ?_
    refine wa_cons ?_ rfl
    refine we_fz ?_
    refine wn_listM (κ := κ) ⟨1, rfl⟩ T.z_list ?_
    refine we_ixM (κ := κ) ?_
    refine we_name (i := 0) rfl rfl rfl ?_
    refine we_int ?_
    refine fin2 (f := ixM) v_claim_here (.int 0) (vE (u := v_claim_here)) (vE (u := .int 0)) ‹_› fun z2 h => ?_
    refine fin1 (f := listM) z2 (vE (u := z2)) ‹_› fun z3 h => ?_
    refine wa_cons ?_ rfl
    refine we_fz ?_
    refine wn_listM (κ := κ) ⟨1, rfl⟩ T.z_list ?_
    refine we_ixM (κ := κ) ?_
    refine we_name (i := 0) rfl rfl rfl ?_
    refine we_int ?_
    refine fin2 (f := ixM) v_claim_here (.int 1) (vE (u := v_claim_here)) (vE (u := .int 1)) ‹_› fun z4 h => ?_
    refine fin1 (f := listM) z4 (vE (u := z4)) ‹_› fun z5 h => ?_
    refine wa_nil ?_
    refine ⟨szd (by decide : 2 < 10000000), ?_⟩
    refine wss_cons ?_
    refine ws_for [5] ?_
    refine wi_range1M (κ := κ) ⟨2, rfl⟩ T.z_range ?_
    refine we_int ?_
    refine fin1 (f := range1M) (.int 2) (vE (u := .int 2)) ‹_› fun it6 h => ?_
    refine loopC_m (ρ := U) (fun (st : Unit) (Γ : Pl.Env) (Λ : Cells) => ∃ (y0 : Option D) (y1 : Option D) (y2 : Option D), Γ = [some (em κ v_claim_here), some (em κ v_rule), some (em κ v_saying_here), some (em κ z1), some (em κ (.tup [.fzl z3, .fzl z5])), y0, y1, y2] ∧ Λ = []) (fun c r Λ => rtV κ (fun u => u = c) r Λ) h ⟨_, _, _, rfl, rfl⟩ (fun st x7 Γ Λ Q1 hs h => ?_) (fun st Γ Λ hs h => ?_) (fun c r Λ hr h => rtV_imp hr h)
    · obtain ⟨y0, y1, y2, rfl, rfl⟩ := hs
      refine wg_name (i := 5) rfl rfl ?_
      refine wss_setF (κ := κ) (i := 6) rfl rfl (Nat.le_of_ble_eq_true rfl) ?_ rfl
      refine we_callF (κ := κ) h__law_told (Nat.le_refl _) ⟨3, rfl⟩ ?_
      refine wa_cons ?_ rfl
      refine we_name (i := 4) rfl rfl rfl ?_
      refine wa_cons ?_ rfl
      refine we_name (i := 1) rfl rfl rfl ?_
      refine wa_cons ?_ rfl
      refine we_name (i := 2) rfl rfl rfl ?_
      refine wa_nil ?_
      refine finFz [.tup [.fzl z3, .fzl z5], v_rule, v_saying_here] rfl rfl ‹_› fun z8 h => ?_
      refine wssF_if ?_
      refine wt_cutM ‹_› (fun Q1 h => ?_) (fun b11 h => ?_)
      · refine wt_ww (ww_or ?_)
        refine wt_neM (κ := κ) ?_
        refine we_name (i := 6) rfl rfl rfl ?_
        refine we_name (i := 3) rfl rfl rfl ?_
        refine fin2 (f := (nB eqM)) z8 z1 (vE (u := z8)) (vE (u := z1)) ‹_› fun b9 h => ?_
        refine ite_m ‹_› (fun h => ?_) (fun h => ?_)
        · exact ⟨rfl, h⟩
        · refine ww_or1 ?_
          refine wt_neM (κ := κ) ?_
          refine we_name (i := 4) rfl rfl rfl ?_
          refine we_name (i := 0) rfl rfl rfl ?_
          refine fin2 (f := (nB eqM)) (.tup [.fzl z3, .fzl z5]) v_claim_here (vE (u := .tup [.fzl z3, .fzl z5])) (vE (u := v_claim_here)) ‹_› fun b10 h => ?_
          exact ⟨rfl, h⟩
      refine ⟨rfl, ?_⟩
      refine ite_m ‹_› (fun h => ?_) (fun h => ?_)
      · refine wss_cons ?_
        refine ws_ret ?_
        refine we_bl ?_
        exact ⟨(.bl false), rtV_v (u := (.bl false)) rfl, h⟩
      · refine wssF_t32 (i := 6) (j := 7) rfl rfl rfl rfl rfl (by decide) (Nat.le_of_ble_eq_true rfl) (we_tup (wa_cons (we_str (wa_nil ⟨szd (by decide : 1 < 10000000), rfl⟩)) rfl)) (we_name (i := 0) rfl rfl rfl rfl) ?_
        refine wt_isntM (κ := κ) ?_
        refine we_name (i := 6) rfl rfl rfl ?_
        refine we_non ?_
        refine fin2 (f := isntM) z8 .non (vE (u := z8)) (vE (u := .non)) ‹_› fun b12 h => ?_
        refine finT32 (b := b12) (u := z8) ‹_› fun h => ?_
        refine wss_nil ?_
        exact ⟨(), ⟨_, _, _, rfl, rfl⟩, h⟩
    · obtain ⟨y0, y1, y2, rfl, rfl⟩ := hs
      refine wss_cons ?_
      refine ws_ret ?_
      refine we_bl ?_
      exact rtV_v (u := (.bl true)) h

abbrev st_law : Stmt := topS 33
abbrev N_law : List Str := ["_law_script", "_law_cell", "_law_left", "_law_right_here", "_law_claim_here", "_law_some", "_law_odd", "_law_rule", "_law_saying_here"]
abbrev vs_law : List Bool := [true, true, true, true, true, true, true, true, true]
abbrev gl_law : List Str := ["_law_cell_at", "_law_list", "_law_claim", "_law_right"]
theorem sc_law : FnScope N_law ["_law_script"] (defScope st_law) := ⟨rfl, rfl, rfl, by decide +kernel, rfl, by decide +kernel, by decide +kernel⟩
theorem gd_law : goodC N_law (defScope st_law) vs_law vs_law gl_law = true := by decide +kernel
@[reducible] def cx_law (G : Gl) (k : Nat) : Pl.Ctx := G.cx N_law (defScope st_law) vs_law vs_law gl_law k

theorem ok_the_law (T : Tp G κ) (f : Addr) (fd : FuncData) (F : Fun G.K "law" "law" (topS 33) f fd) : FnG G.P G.w G.K G.mg G.base (L2.CX G.P G.w) (200 + 1) f fd ["_law_script"] (spOf G.K 1 (lawSpec 63)) := by
  have h__law_cell_at := ok__law_cell_at T 200
  have h__law_list := ok__law_list T 200
  have h__law_claim := ok__law_claim T 200
  have h__law_right := ok__law_right T 200
  refine law_M (κ := κ) (m := sh_law (200 + 1)) F sc_law gd_law (fun us hl Q Eh h => ?_) pure_law
  have hE : EI κ Eh (erM κ Eh) := EI.erM
  obtain ⟨v_script, rfl⟩ := len1 hl
  change WSs _ [some (em κ v_script), none, none, none, none, none, none, none, none] _ (_ :: _) _
  refine wss_cons ?_
  refine ws_set (i := 1) rfl rfl ?_ rfl
  refine we_callV (κ := κ) h__law_cell_at (Nat.le_refl _) ⟨0, rfl⟩ ?_
  refine wa_cons ?_ rfl
  refine we_name (i := 0) rfl rfl rfl ?_
  refine wa_cons ?_ rfl
  refine we_int ?_
  refine wa_nil ?_
  refine finF (Γ := _) [v_script, .int 0] rfl rfl hE ‹_› fun z1 h => ?_
  refine wss_cons ?_
  refine ws_set (i := 2) rfl rfl (we_o ?_) rfl
  refine wn_callN (κ := κ) h__law_list (Nat.le_refl _) ⟨1, rfl⟩ ?_
  refine wa_cons ?_ rfl
  refine we_name (i := 0) rfl rfl rfl ?_
  refine wa_cons ?_ rfl
  refine we_int ?_
  refine wa_cons ?_ rfl
  refine we_modM (κ := κ) ?_
  refine we_name (i := 1) rfl rfl rfl ?_
  refine we_int ?_
  refine fin2 (f := modM) z1 (.int 4) (vE (u := z1)) (vE (u := .int 4)) ‹_› fun z2 h => ?_
  refine wa_cons ?_ rfl
  refine we_int ?_
  refine wa_nil ?_
  refine finF (Γ := _) [v_script, .int 1, z2, .int 2] rfl rfl hE ‹_› fun z3 h => ?_
  refine wss_cons ?_
  refine ws_set (i := 3) rfl rfl ?_ rfl
  refine we_f ?_
  refine wn_callN (κ := κ) h__law_list (Nat.le_refl _) ⟨1, rfl⟩ ?_
  refine wa_cons ?_ rfl
  refine we_name (i := 0) rfl rfl rfl ?_
  refine wa_cons ?_ rfl
  refine we_int ?_
  refine wa_cons ?_ rfl
  refine we_modM (κ := κ) ?_
  refine we_fdivM (κ := κ) ?_
  refine we_name (i := 1) rfl rfl rfl ?_
  refine we_int ?_
  refine fin2 (f := fdivM) z1 (.int 4) (vE (u := z1)) (vE (u := .int 4)) ‹_› fun z4 h => ?_
  refine we_int ?_
  refine fin2 (f := modM) z4 (.int 4) (vE (u := z4)) (vE (u := .int 4)) ‹_› fun z5 h => ?_
  refine wa_cons ?_ rfl
  refine we_int ?_
  refine wa_nil ?_
  refine finF (Γ := _) [v_script, .int 31, z5, .int 2] rfl rfl hE ‹_› fun z6 h => ?_
  refine wss_cons ?_
  refine ws_cutM (fun (st : U) (Γ : Pl.Env) (Λ : Cells) => ∃ (y0 : Option D) (y1 : Option D) (y2 : Option D) (y3 : Option D) (y4 : Option D), Γ = [some (em κ v_script), some (em κ z1), some (.loc 0), some (em κ st), y0, y1, y2, y3, y4] ∧ Λ = [.lst (ems κ z3)]) h (fun Q1 h => ?_) (fun v_right_here_13 Γ Λ hs h => ?_)
  · refine ws_if ?_
    refine wt_eqM (κ := κ) ?_
    refine we_modM (κ := κ) ?_
    refine we_fdivM (κ := κ) ?_
    refine we_name (i := 1) rfl rfl rfl ?_
    refine we_int ?_
    refine fin2 (f := fdivM) z1 (.int 16) (vE (u := z1)) (vE (u := .int 16)) ‹_› fun z7 h => ?_
    refine we_int ?_
    refine fin2 (f := modM) z7 (.int 3) (vE (u := z7)) (vE (u := .int 3)) ‹_› fun z8 h => ?_
    refine we_int ?_
    refine fin2 (f := eqM) z8 (.int 1) (vE (u := z8)) (vE (u := .int 1)) ‹_› fun b9 h => ?_
    refine ite_m ‹_› (fun h => ?_) (fun h => ?_)
    · refine wss_cons ?_
      refine ws_set (i := 3) rfl rfl ?_ rfl
      refine we_addM (κ := κ) ?_
      refine we_name (i := 3) rfl rfl rfl ?_
      refine we_slM (κ := κ) ?_
      refine we_name (i := 2) rfl rfl rfl ?_
      refine we_int ?_
      refine fin1 (f := endM) (.int 1) (vE (u := .int 1)) ‹_› fun z10 h => ?_
      refine fin1 (f := fun u => slM u none z10) (.lst z3) (vL rfl) ‹_› fun z11 h => ?_
      refine fin2 (f := addM) (.lst z6) z11 (vE (u := .lst z6)) (vE (u := z11)) ‹_› fun z12 h => ?_
      refine wss_nil ?_
      exact ⟨z12, ⟨_, _, _, _, _, rfl, rfl⟩, h⟩
    · refine wss_nil ?_
      exact ⟨(.lst z6), ⟨_, _, _, _, _, rfl, rfl⟩, h⟩
  · obtain ⟨y0, y1, y2, y3, y4, rfl, rfl⟩ := hs
    refine wss_cons ?_
    refine ws_cutM (fun (st : List U) (Γ : Pl.Env) (Λ : Cells) => ∃ (y0 : Option D) (y1 : Option D) (y2 : Option D) (y3 : Option D) (y4 : Option D), Γ = [some (em κ v_script), some (em κ z1), some (.loc 0), some (em κ v_right_here_13), y0, y1, y2, y3, y4] ∧ Λ = [.lst (ems κ st)]) h (fun Q1 h => ?_) (fun v_left_18 Γ Λ hs h => ?_)
    · refine ws_if ?_
      refine wt_eqM (κ := κ) ?_
      refine we_modM (κ := κ) ?_
      refine we_fdivM (κ := κ) ?_
      refine we_name (i := 1) rfl rfl rfl ?_
      refine we_int ?_
      refine fin2 (f := fdivM) z1 (.int 48) (vE (u := z1)) (vE (u := .int 48)) ‹_› fun z14 h => ?_
      refine we_int ?_
      refine fin2 (f := modM) z14 (.int 3) (vE (u := z14)) (vE (u := .int 3)) ‹_› fun z15 h => ?_
      refine we_int ?_
      refine fin2 (f := eqM) z15 (.int 1) (vE (u := z15)) (vE (u := .int 1)) ‹_› fun b16 h => ?_
      refine ite_m ‹_› (fun h => ?_) (fun h => ?_)
      · refine wss_cons ?_
        refine ws_expr ?_
        refine we_appM (κ := κ) 0 ?_
        refine we_name (i := 2) rfl rfl rfl ?_
        refine ⟨rfl, ⟨z3, rfl⟩, ?_⟩
        refine we_tup ?_
        refine wa_cons ?_ rfl
        refine we_str ?_
        refine wa_nil ?_
        refine ⟨szd (by decide : 1 < 10000000), ?_⟩
        refine finA (f := appM) z3 (.tup [.str "no"]) rfl ‹_› fun l17 h => ?_
        refine wss_nil ?_
        exact ⟨l17, ⟨_, _, _, _, _, rfl, rfl⟩, h⟩
      · refine wss_nil ?_
        exact ⟨z3, ⟨_, _, _, _, _, rfl, rfl⟩, h⟩
    · obtain ⟨y0, y1, y2, y3, y4, rfl, rfl⟩ := hs
      refine freezeM 0 2 v_left_18 (Nat.le_of_ble_eq_true rfl) rfl rfl ?_
      refine wss_cons ?_
      refine ws_set (i := 4) rfl rfl ?_ rfl
      refine we_callV (κ := κ) h__law_claim (Nat.le_refl _) ⟨2, rfl⟩ ?_
      refine wa_cons ?_ rfl
      refine we_name (i := 2) rfl rfl rfl ?_
      refine wa_cons ?_ rfl
      refine we_name (i := 3) rfl rfl rfl ?_
      refine wa_nil ?_
      refine finF (Γ := _) [.lst v_left_18, v_right_here_13] rfl rfl hE ‹_› fun z19 h => ?_
      refine wss_cons ?_
      refine ws_set (i := 5) rfl rfl ?_ rfl
      refine we_addM (κ := κ) ?_
      refine we_addM (κ := κ) ?_
      refine we_ixM (κ := κ) ?_
      refine we_name (i := 4) rfl rfl rfl ?_
      refine we_int ?_
      refine fin2 (f := ixM) z19 (.int 0) (vE (u := z19)) (vE (u := .int 0)) ‹_› fun z20 h => ?_
      refine we_ixM (κ := κ) ?_
      refine we_name (i := 4) rfl rfl rfl ?_
      refine we_int ?_
      refine fin2 (f := ixM) z19 (.int 1) (vE (u := z19)) (vE (u := .int 1)) ‹_› fun z21 h => ?_
      refine fin2 (f := addM) z20 z21 (vE (u := z20)) (vE (u := z21)) ‹_› fun z22 h => ?_
      refine we_f ?_
      refine wn_lst ?_
      refine wa_cons ?_ rfl
      refine we_tup ?_
      refine wa_cons ?_ rfl
      refine we_str ?_
      refine wa_cons ?_ rfl
      refine we_tup ?_
      refine wa_cons ?_ rfl
      refine we_str ?_
      refine wa_cons ?_ rfl
      refine we_tup ?_
      refine wa_cons ?_ rfl
      refine we_str ?_
      refine wa_cons ?_ rfl
      refine we_tup ?_
      refine wa_cons ?_ rfl
      refine we_str ?_
      refine wa_nil ?_
      refine ⟨szd (by decide : 1 < 10000000), ?_⟩
      refine wa_cons ?_ rfl
      refine we_tup ?_
      refine wa_cons ?_ rfl
      refine we_str ?_
      refine wa_nil ?_
      refine ⟨szd (by decide : 1 < 10000000), ?_⟩
      refine wa_nil ?_
      refine ⟨szd (by decide : 3 < 10000000), ?_⟩
      refine wa_nil ?_
      refine ⟨szd (by decide : 2 < 10000000), ?_⟩
      refine wa_nil ?_
      refine ⟨szd (by decide : 2 < 10000000), ?_⟩
      refine wa_cons ?_ rfl
      refine we_tup ?_
      refine wa_cons ?_ rfl
      refine we_str ?_
      refine wa_nil ?_
      refine ⟨szd (by decide : 1 < 10000000), ?_⟩
      refine wa_nil ?_
      refine ⟨szd (by decide : 2 < 10000000), ?_⟩
      refine fin2 (f := addM) z22 (.lst [.tup [.str "not", .tup [.str "shown", .tup [.str "or", .tup [.str "no"], .tup [.str "no"]]]], .tup [.str "no"]]) (vE (u := z22)) (vE (u := .lst [.tup [.str "not", .tup [.str "shown", .tup [.str "or", .tup [.str "no"], .tup [.str "no"]]]], .tup [.str "no"]])) ‹_› fun z23 h => ?_
      refine wss_cons ?_
      refine ws_set (i := 6) rfl rfl ?_ rfl
      refine we_ixM (κ := κ) ?_
      refine we_f ?_
      refine wn_lst ?_
      refine wa_cons ?_ rfl
      refine we_str ?_
      refine wa_cons ?_ rfl
      refine we_str ?_
      refine wa_cons ?_ rfl
      refine we_str ?_
      refine wa_cons ?_ rfl
      refine we_str ?_
      refine wa_cons ?_ rfl
      refine we_str ?_
      refine wa_cons ?_ rfl
      refine we_str ?_
      refine wa_nil ?_
      refine ⟨szd (by decide : 6 < 10000000), ?_⟩
      refine we_modM (κ := κ) ?_
      refine we_fdivM (κ := κ) ?_
      refine we_name (i := 1) rfl rfl rfl ?_
      refine we_int ?_
      refine fin2 (f := fdivM) z1 (.int 144) (vE (u := z1)) (vE (u := .int 144)) ‹_› fun z24 h => ?_
      refine we_int ?_
      refine fin2 (f := modM) z24 (.int 6) (vE (u := z24)) (vE (u := .int 6)) ‹_› fun z25 h => ?_
      refine fin2 (f := ixM) (.lst [.str "down", .str "Left", .str "upright", .str "", .str "left ", .str "sam"]) z25 (vE (u := .lst [.str "down", .str "Left", .str "upright", .str "", .str "left ", .str "sam"])) (vE (u := z25)) ‹_› fun z26 h => ?_
      refine wss_cons ?_
      refine ws_for [7] ?_
      refine wi_LM (κ := κ) ?_
      refine we_f ?_
      refine wn_lst ?_
      refine wa_cons ?_ rfl
      refine we_str ?_
      refine wa_cons ?_ rfl
      refine we_str ?_
      refine wa_cons ?_ rfl
      refine we_str ?_
      refine wa_cons ?_ rfl
      refine we_str ?_
      refine wa_cons ?_ rfl
      refine we_str ?_
      refine wa_cons ?_ rfl
      refine we_name (i := 6) rfl rfl rfl ?_
      refine wa_nil ?_
      refine ⟨szd (by decide : 6 < 10000000), ?_⟩
      refine finI (f := iterL) (.lst [.str "same", .str "never", .str "left", .str "right", .str "up", z26]) ‹_› fun it27 h => ?_
      refine loopC_m (ρ := U) (fun (st : Unit) (Γ : Pl.Env) (Λ : Cells) => ∃ (y0 : Option D) (y1 : Option D), Γ = [some (em κ v_script), some (em κ z1), some (em κ (.lst v_left_18)), some (em κ v_right_here_13), some (em κ z19), some (em κ z23), some (em κ z26), y0, y1] ∧ Λ = [.gone]) (fun c r Λ => rtV κ (fun u => u = c) r Λ) h ⟨_, _, rfl, rfl⟩ (fun st x28 Γ Λ Q1 hs h => ?_) (fun st Γ Λ hs h => ?_) (fun c r Λ hr h => rtV_imp hr h)
      · obtain ⟨y0, y1, rfl, rfl⟩ := hs
        refine wg_name (i := 7) rfl rfl ?_
        refine wss_cons ?_
        refine ws_for [8] ?_
        refine wi_LM (κ := κ) ?_
        refine we_name (i := 5) rfl rfl rfl ?_
        refine finI (f := iterL) z23 ‹_› fun it29 h => ?_
        refine loopC_m (ρ := U) (fun (st : Unit) (Γ : Pl.Env) (Λ : Cells) => ∃ (y0 : Option D), Γ = [some (em κ v_script), some (em κ z1), some (em κ (.lst v_left_18)), some (em κ v_right_here_13), some (em κ z19), some (em κ z23), some (em κ z26), some (em κ x28), y0] ∧ Λ = [.gone]) (fun c r Λ => rtV κ (fun u => u = c) r Λ) h ⟨_, rfl, rfl⟩ (fun st x30 Γ Λ Q1 hs h => ?_) (fun st Γ Λ hs h => ?_) (fun c r Λ hr h => ⟨c, hr, h⟩)
        · obtain ⟨y0, rfl, rfl⟩ := hs
          refine wg_name (i := 8) rfl rfl ?_
          refine wss_cons ?_
          refine ws_if ?_
          refine wt_not ?_
          refine wt_valM (κ := κ) ?_
          refine we_callV (κ := κ) h__law_right (Nat.le_refl _) ⟨3, rfl⟩ ?_
          refine wa_cons ?_ rfl
          refine we_name (i := 4) rfl rfl rfl ?_
          refine wa_cons ?_ rfl
          refine we_name (i := 7) rfl rfl rfl ?_
          refine wa_cons ?_ rfl
          refine we_name (i := 8) rfl rfl rfl ?_
          refine wa_nil ?_
          refine finF (Γ := _) [z19, x28, x30] rfl rfl hE ‹_› fun z31 h => ?_
          refine fin1 (f := boolM) z31 (vE (u := z31)) ‹_› fun b32 h => ?_
          refine ite_m ‹_› (fun h => ?_) (fun h => ?_)
          · refine wss_cons ?_
            refine ws_ret ?_
            refine we_bl ?_
            exact ⟨(.bl false), rtV_v (u := (.bl false)) rfl, h⟩
          · refine wss_nil ?_
            refine wss_nil ?_
            exact ⟨(), ⟨_, rfl, rfl⟩, h⟩
        · obtain ⟨y0, rfl, rfl⟩ := hs
          refine wss_nil ?_
          exact ⟨(), ⟨_, _, rfl, rfl⟩, h⟩
      · obtain ⟨y0, y1, rfl, rfl⟩ := hs
        refine wss_cons ?_
        refine ws_ret ?_
        refine we_bl ?_
        exact rtV_v (u := (.bl true)) h
end Law
set_option maxHeartbeats 0 in
theorem PySem.Challenge.cw_selfsay_k32_what_a_claim_needs_holds : PySem.Challenge.rw_selfsay_k32_what_a_claim_needs.Holds := by
  w_on; o_law; k_head; (case hw => w_witness2)
  k_fill
  refine Pl.law_end (n := 63) (k := 201) (x := "_law_script") (st := Law.topS 33) rfl (by decide) rfl ⟨rfl, rfl, by decide, by decide⟩ rfl (fun w h Y => PySem.W.kIn_of Y) ?F
  case F =>
    intro w mg h KX G
    have z_len : mg "len" = none := by
      refine' PySem.W.mg_none_of KX G ?z
      (case z => k_is)
    have z_list : mg "list" = none := by
      refine' PySem.W.mg_none_of KX G ?z
      (case z => k_is)
    have z_tuple : mg "tuple" = none := by
      refine' PySem.W.mg_none_of KX G ?z
      (case z => k_is)
    have z_all : mg "all" = none := by
      refine' PySem.W.mg_none_of KX G ?z
      (case z => k_is)
    have z_int : mg "int" = none := by
      refine' PySem.W.mg_none_of KX G ?z
      (case z => k_is)
    have z_isinstance : mg "isinstance" = none := by
      refine' PySem.W.mg_none_of KX G ?z
      (case z => k_is)
    have z_range : mg "range" = none := by
      refine' PySem.W.mg_none_of KX G ?z
      (case z => k_is)
    have z_sorted : mg "sorted" = none := by
      refine' PySem.W.mg_none_of KX G ?z
      (case z => k_is)
    have z_ValueError : mg "ValueError" = none := by
      refine' PySem.W.mg_none_of KX G ?z
      (case z => k_is)
    refine' (have d_each_once := Pl.defAt_mk (x := "each_once") (st := Law.topS 11) (ps := ["some"]) KX G (fun _ _ _ _ _ _ us hl => match us, hl with | [_], _ => rfl) ?a_1 ?l_1 ?c_1 ?k_1; ?rest_1)
    (case a_1 => k_is); (case l_1 => k_is); (case c_1 => k_is); (case k_1 => k_is)
    refine' (have d_unlike := Pl.defAt_mk (x := "unlike") (st := Law.topS 14) (ps := ["sayings"]) KX G (fun _ _ _ _ _ _ us hl => match us, hl with | [_], _ => rfl) ?a_2 ?l_2 ?c_2 ?k_2; ?rest_2)
    (case a_2 => k_is); (case l_2 => k_is); (case c_2 => k_is); (case k_2 => k_is)
    refine' (have d_claim_of := Pl.defAt_mk (x := "claim_of") (st := Law.topS 15) (ps := ["left", "right"]) KX G (fun _ _ _ _ _ _ us hl => match us, hl with | [_, _], _ => rfl) ?a_3 ?l_3 ?c_3 ?k_3; ?rest_3)
    (case a_3 => k_is); (case l_3 => k_is); (case c_3 => k_is); (case k_3 => k_is)
    refine' (have d_without := Pl.defAt_mk (x := "without") (st := Law.topS 16) (ps := ["sayings", "saying"]) KX G (fun _ _ _ _ _ _ us hl => match us, hl with | [_, _], _ => rfl) ?a_4 ?l_4 ?c_4 ?k_4; ?rest_4)
    (case a_4 => k_is); (case l_4 => k_is); (case c_4 => k_is); (case k_4 => k_is)
    refine' (have d_from_left := Pl.defAt_mk (x := "from_left") (st := Law.topS 17) (ps := ["left", "right", "saying"]) KX G (fun _ _ _ _ _ _ us hl => match us, hl with | [_, _, _], _ => rfl) ?a_5 ?l_5 ?c_5 ?k_5; ?rest_5)
    (case a_5 => k_is); (case l_5 => k_is); (case c_5 => k_is); (case k_5 => k_is)
    refine' (have d_from_right := Pl.defAt_mk (x := "from_right") (st := Law.topS 18) (ps := ["left", "right", "saying"]) KX G (fun _ _ _ _ _ _ us hl => match us, hl with | [_, _, _], _ => rfl) ?a_6 ?l_6 ?c_6 ?k_6; ?rest_6)
    (case a_6 => k_is); (case l_6 => k_is); (case c_6 => k_is); (case k_6 => k_is)
    refine' (have d_further_up := Pl.defAt_mk (x := "further_up") (st := Law.topS 19) (ps := ["left", "saying"]) KX G (fun _ _ _ _ _ _ us hl => match us, hl with | [_, _], _ => rfl) ?a_7 ?l_7 ?c_7 ?k_7; ?rest_7)
    (case a_7 => k_is); (case l_7 => k_is); (case c_7 => k_is); (case k_7 => k_is)
    refine' (have d_needed := Pl.defAt_mk (x := "needed") (st := Law.topS 20) (ps := ["claim", "rule", "saying"]) KX G (fun _ _ _ _ _ _ us hl => match us, hl with | [_, _, _], _ => rfl) ?a_8 ?l_8 ?c_8 ?k_8; ?rest_8)
    (case a_8 => k_is); (case l_8 => k_is); (case c_8 => k_is); (case k_8 => k_is)
    refine' (have d__law_unlike := Pl.defAt_mk (x := "_law_unlike") (st := Law.topS 22) (ps := ["_law_some"]) KX G (fun _ _ _ _ _ _ us hl => match us, hl with | [_], _ => rfl) ?a_9 ?l_9 ?c_9 ?k_9; ?rest_9)
    (case a_9 => k_is); (case l_9 => k_is); (case c_9 => k_is); (case k_9 => k_is)
    refine' (have d__law_cell_at := Pl.defAt_mk (x := "_law_cell_at") (st := Law.topS 23) (ps := ["_law_script", "_law_k"]) KX G (fun _ _ _ _ _ _ us hl => match us, hl with | [_, _], _ => rfl) ?a_10 ?l_10 ?c_10 ?k_10; ?rest_10)
    (case a_10 => k_is); (case l_10 => k_is); (case c_10 => k_is); (case k_10 => k_is)
    refine' (have d__law_leaf := Pl.defAt_mk (x := "_law_leaf") (st := Law.topS 24) (ps := ["_law_cell"]) KX G (fun _ _ _ _ _ _ us hl => match us, hl with | [_], _ => rfl) ?a_11 ?l_11 ?c_11 ?k_11; ?rest_11)
    (case a_11 => k_is); (case l_11 => k_is); (case c_11 => k_is); (case k_11 => k_is)
    refine' (have d__law_saying := Pl.defAt_mk (x := "_law_saying") (st := Law.topS 25) (ps := ["_law_script", "_law_at", "_law_many", "_law_most"]) KX G (fun _ _ _ _ _ _ us hl => match us, hl with | [_, _, _, _], _ => rfl) ?a_12 ?l_12 ?c_12 ?k_12; ?rest_12)
    (case a_12 => k_is); (case l_12 => k_is); (case c_12 => k_is); (case k_12 => k_is)
    refine' (have d__law_list := Pl.defAt_mk (x := "_law_list") (st := Law.topS 26) (ps := ["_law_script", "_law_at", "_law_many", "_law_most"]) KX G (fun _ _ _ _ _ _ us hl => match us, hl with | [_, _, _, _], _ => rfl) ?a_13 ?l_13 ?c_13 ?k_13; ?rest_13)
    (case a_13 => k_is); (case l_13 => k_is); (case c_13 => k_is); (case k_13 => k_is)
    refine' (have d__law_claim := Pl.defAt_mk (x := "_law_claim") (st := Law.topS 27) (ps := ["_law_left", "_law_right_here"]) KX G (fun _ _ _ _ _ _ us hl => match us, hl with | [_, _], _ => rfl) ?a_14 ?l_14 ?c_14 ?k_14; ?rest_14)
    (case a_14 => k_is); (case l_14 => k_is); (case c_14 => k_is); (case k_14 => k_is)
    refine' (have d__law_apart := Pl.defAt_mk (x := "_law_apart") (st := Law.topS 28) (ps := ["_law_left", "_law_right_here", "_law_rule", "_law_saying_here"]) KX G (fun _ _ _ _ _ _ us hl => match us, hl with | [_, _, _, _], _ => rfl) ?a_15 ?l_15 ?c_15 ?k_15; ?rest_15)
    (case a_15 => k_is); (case l_15 => k_is); (case c_15 => k_is); (case k_15 => k_is)
    refine' (have d__law_needed := Pl.defAt_mk (x := "_law_needed") (st := Law.topS 29) (ps := ["_law_claim_here", "_law_rule", "_law_saying_here"]) KX G (fun _ _ _ _ _ _ us hl => match us, hl with | [_, _, _], _ => rfl) ?a_16 ?l_16 ?c_16 ?k_16; ?rest_16)
    (case a_16 => k_is); (case l_16 => k_is); (case c_16 => k_is); (case k_16 => k_is)
    refine' (have d__law_alone := Pl.defAt_mk (x := "_law_alone") (st := Law.topS 30) (ps := ["_law_e"]) KX G (fun _ _ _ _ _ _ us hl => match us, hl with | [_], _ => rfl) ?a_17 ?l_17 ?c_17 ?k_17; ?rest_17)
    (case a_17 => k_is); (case l_17 => k_is); (case c_17 => k_is); (case k_17 => k_is)
    refine' (have d__law_told := Pl.defAt_mk (x := "_law_told") (st := Law.topS 31) (ps := ["_law_claim_here", "_law_rule", "_law_saying_here"]) KX G (fun _ _ _ _ _ _ us hl => match us, hl with | [_, _, _], _ => rfl) ?a_18 ?l_18 ?c_18 ?k_18; ?rest_18)
    (case a_18 => k_is); (case l_18 => k_is); (case c_18 => k_is); (case k_18 => k_is)
    refine' (have d__law_right := Pl.defAt_mk (x := "_law_right") (st := Law.topS 32) (ps := ["_law_claim_here", "_law_rule", "_law_saying_here"]) KX G (fun _ _ _ _ _ _ us hl => match us, hl with | [_, _, _], _ => rfl) ?a_19 ?l_19 ?c_19 ?k_19; ?rest_19)
    (case a_19 => k_is); (case l_19 => k_is); (case c_19 => k_is); (case k_19 => k_is)
    refine' (have d_law := Pl.defAt_mk (x := "law") (st := Law.topS 33) (ps := ["_law_script"]) KX G (fun _ _ _ _ _ _ us hl => match us, hl with | [_], _ => rfl) ?a_20 ?l_20 ?c_20 ?k_20; ?rest_20)
    (case a_20 => k_is); (case l_20 => k_is); (case c_20 => k_is); (case k_20 => k_is)
    refine' (have q_NoRule := PySem.W.mg_of (n := "NoRule") KX G ?a_21; ?rest_21)
    (case a_21 => k_is)
    have g_NoRule := Sh.gAt q_NoRule
    refine' (have q_SayError := PySem.W.mg_of (n := "SayError") KX G ?a_22; ?rest_22)
    (case a_22 => k_is)
    have g_SayError := Sh.gAt q_SayError
    refine' (have q_NoSaying := PySem.W.mg_of (n := "NoSaying") KX G ?a_23; ?rest_23)
    (case a_23 => k_is)
    have g_NoSaying := Sh.gAt q_NoSaying
    refine' (have q_NoTree := PySem.W.mg_of (n := "NoTree") KX G ?a_24; ?rest_24)
    (case a_24 => k_is)
    have g_NoTree := Sh.gAt q_NoTree
    refine' (have q_HasLetter := PySem.W.mg_of (n := "HasLetter") KX G ?a_25; ?rest_25)
    (case a_25 => k_is)
    have g_HasLetter := Sh.gAt q_HasLetter
    refine' (have q_TooMany := PySem.W.mg_of (n := "TooMany") KX G ?a_26; ?rest_26)
    (case a_26 => k_is)
    have g_TooMany := Sh.gAt q_TooMany
    refine' (have q_Outside := PySem.W.mg_of (n := "Outside") KX G ?a_27; ?rest_27)
    (case a_27 => k_is)
    have g_Outside := Sh.gAt q_Outside
    refine' (have q_NoLine := PySem.W.mg_of (n := "NoLine") KX G ?a_28; ?rest_28)
    (case a_28 => k_is)
    have g_NoLine := Sh.gAt q_NoLine
    refine' (have q_Nothing := PySem.W.mg_of (n := "Nothing") KX G ?a_29; ?rest_29)
    (case a_29 => k_is)
    have g_Nothing := Sh.gAt q_Nothing
    refine' (have x_NoRule_f := Sh.excAt (x := "NoRule") (fs := (fun c => (List.lookup c ([("NoSaying", ["place"]), ("NoTree", ["room"]), ("HasLetter", ["letter"])] : List (PySem.Str × List PySem.Str))).getD [])) KX q_NoRule ?xq_30 ?k_30 ?b_30 ?t_30; ?rest_30)
    (case xq_30 => k_exc); (case k_30 => k_is); (case b_30 => k_is); (case t_30 => k_is)
    have x_NoRule := x_NoRule_f (by decide +kernel)
    refine' (have xc_NoRule := Sh.excCAt (x := "NoRule") KX q_NoRule ?hg_31 ?hk_31 ?hs_31 ?hd_31 ?ha_31 ?hn_31 ?ht_31 ?hm_31; ?rest_31)
    (case hg_31 => k_is); (case hk_31 => k_is); (case hs_31 => k_is); (case hd_31 => k_is); (case ha_31 => k_is); (case hn_31 => k_is); (case ht_31 => k_is); (case hm_31 => k_is)
    refine' (have ki_NoRule_NoRule := Sh.kitXX (b := true) KX q_NoRule q_NoRule ?me_32; ?rest_32)
    (case me_32 => kit_is)
    have xi_NoRule : ∀ q ∈ ([("NoRule", true)] : List (PySem.Str × Bool)), L2.ExcC _ (Sh.adOf mg q.1) ∧ PySem.W.kitOne _ (.ref (Sh.adOf mg q.1)) (.ref (Sh.adOf mg "NoRule")) = some q.2 := (List.forall_mem_cons.mpr ⟨⟨xc_NoRule, ki_NoRule_NoRule⟩, (fun _ hh => absurd hh List.not_mem_nil)⟩)
    refine' (have ki_NoSaying_NoRule := Sh.kitXX (b := false) KX q_NoRule q_NoSaying ?me_33; ?rest_33)
    (case me_33 => kit_is)
    have xi_NoSaying : ∀ q ∈ ([("NoRule", false)] : List (PySem.Str × Bool)), L2.ExcC _ (Sh.adOf mg q.1) ∧ PySem.W.kitOne _ (.ref (Sh.adOf mg q.1)) (.ref (Sh.adOf mg "NoSaying")) = some q.2 := (List.forall_mem_cons.mpr ⟨⟨xc_NoRule, ki_NoSaying_NoRule⟩, (fun _ hh => absurd hh List.not_mem_nil)⟩)
    refine' (have ki_NoTree_NoRule := Sh.kitXX (b := false) KX q_NoRule q_NoTree ?me_34; ?rest_34)
    (case me_34 => kit_is)
    have xi_NoTree : ∀ q ∈ ([("NoRule", false)] : List (PySem.Str × Bool)), L2.ExcC _ (Sh.adOf mg q.1) ∧ PySem.W.kitOne _ (.ref (Sh.adOf mg q.1)) (.ref (Sh.adOf mg "NoTree")) = some q.2 := (List.forall_mem_cons.mpr ⟨⟨xc_NoRule, ki_NoTree_NoRule⟩, (fun _ hh => absurd hh List.not_mem_nil)⟩)
    refine' (have ki_HasLetter_NoRule := Sh.kitXX (b := false) KX q_NoRule q_HasLetter ?me_35; ?rest_35)
    (case me_35 => kit_is)
    have xi_HasLetter : ∀ q ∈ ([("NoRule", false)] : List (PySem.Str × Bool)), L2.ExcC _ (Sh.adOf mg q.1) ∧ PySem.W.kitOne _ (.ref (Sh.adOf mg q.1)) (.ref (Sh.adOf mg "HasLetter")) = some q.2 := (List.forall_mem_cons.mpr ⟨⟨xc_NoRule, ki_HasLetter_NoRule⟩, (fun _ hh => absurd hh List.not_mem_nil)⟩)
    refine' (have ki_TooMany_NoRule := Sh.kitXX (b := false) KX q_NoRule q_TooMany ?me_36; ?rest_36)
    (case me_36 => kit_is)
    have xi_TooMany : ∀ q ∈ ([("NoRule", false)] : List (PySem.Str × Bool)), L2.ExcC _ (Sh.adOf mg q.1) ∧ PySem.W.kitOne _ (.ref (Sh.adOf mg q.1)) (.ref (Sh.adOf mg "TooMany")) = some q.2 := (List.forall_mem_cons.mpr ⟨⟨xc_NoRule, ki_TooMany_NoRule⟩, (fun _ hh => absurd hh List.not_mem_nil)⟩)
    refine' (have ki_Outside_NoRule := Sh.kitXX (b := false) KX q_NoRule q_Outside ?me_37; ?rest_37)
    (case me_37 => kit_is)
    have xi_Outside : ∀ q ∈ ([("NoRule", false)] : List (PySem.Str × Bool)), L2.ExcC _ (Sh.adOf mg q.1) ∧ PySem.W.kitOne _ (.ref (Sh.adOf mg q.1)) (.ref (Sh.adOf mg "Outside")) = some q.2 := (List.forall_mem_cons.mpr ⟨⟨xc_NoRule, ki_Outside_NoRule⟩, (fun _ hh => absurd hh List.not_mem_nil)⟩)
    refine' (have ki_NoLine_NoRule := Sh.kitXX (b := false) KX q_NoRule q_NoLine ?me_38; ?rest_38)
    (case me_38 => kit_is)
    have xi_NoLine : ∀ q ∈ ([("NoRule", false)] : List (PySem.Str × Bool)), L2.ExcC _ (Sh.adOf mg q.1) ∧ PySem.W.kitOne _ (.ref (Sh.adOf mg q.1)) (.ref (Sh.adOf mg "NoLine")) = some q.2 := (List.forall_mem_cons.mpr ⟨⟨xc_NoRule, ki_NoLine_NoRule⟩, (fun _ hh => absurd hh List.not_mem_nil)⟩)
    refine' (have ki_Nothing_NoRule := Sh.kitXX (b := false) KX q_NoRule q_Nothing ?me_39; ?rest_39)
    (case me_39 => kit_is)
    have xi_Nothing : ∀ q ∈ ([("NoRule", false)] : List (PySem.Str × Bool)), L2.ExcC _ (Sh.adOf mg q.1) ∧ PySem.W.kitOne _ (.ref (Sh.adOf mg q.1)) (.ref (Sh.adOf mg "Nothing")) = some q.2 := (List.forall_mem_cons.mpr ⟨⟨xc_NoRule, ki_Nothing_NoRule⟩, (fun _ hh => absurd hh List.not_mem_nil)⟩)
    refine' (have ki_ValueError_NoRule := Sh.kitXT (b := true) (T := "ValueError") KX q_NoRule ?me_40; ?rest_40)
    (case me_40 => kit_is)
    have xi_ValueError : ∀ q ∈ ([("NoRule", true)] : List (PySem.Str × Bool)), L2.ExcC _ (Sh.adOf mg q.1) ∧ PySem.W.kitOne _ (.ref (Sh.adOf mg q.1)) (.type "ValueError") = some q.2 := (List.forall_mem_cons.mpr ⟨⟨xc_NoRule, ki_ValueError_NoRule⟩, (fun _ hh => absurd hh List.not_mem_nil)⟩)
    refine' (have km_SayError_NoRule := Sh.exmXX KX q_NoRule q_SayError ?h1_41 ?hd_41 ?ht_41 ?h4_41; ?rest_41)
    (case h1_41 => k_is); (case hd_41 => k_is); (case ht_41 => k_is); (case h4_41 => k_is)
    have xt_SayError : ∀ c ∈ ([("NoRule", 0)] : List (PySem.Str × Nat)), PySem.W.exmOne _ (.ref (Sh.adOf mg c.1)) (.ref (Sh.adOf mg "SayError")) = some true ∧ ((fun c => (List.lookup c ([("NoSaying", ["place"]), ("NoTree", ["room"]), ("HasLetter", ["letter"])] : List (PySem.Str × List PySem.Str))).getD []) c.1).length = c.2 := (List.forall_mem_cons.mpr ⟨⟨km_SayError_NoRule, (by decide +kernel)⟩, (fun _ hh => absurd hh List.not_mem_nil)⟩)
    refine' (have c_NEVER := Sh.tupAt_mk (x := "NEVER") KX G ?a_42 ?l_42; ?rest_42)
    (case a_42 => k_is); (case l_42 => k_is)
    exact ⟨d_law, fun base KB GB f fd F => Law.ok_the_law (G := ⟨_, w, _, mg, base⟩) (κ := ⟨Sh.adOf mg, (fun c => (List.lookup c ([("NoSaying", ["place"]), ("NoTree", ["room"]), ("HasLetter", ["letter"])] : List (PySem.Str × List PySem.Str))).getD [])⟩) ⟨z_len, z_list, z_tuple, z_all, z_int, z_isinstance, z_range, z_sorted, z_ValueError, d_each_once, d_unlike, d_claim_of, d_without, d_from_left, d_from_right, d_further_up, d_needed, d__law_unlike, d__law_cell_at, d__law_leaf, d__law_saying, d__law_list, d__law_claim, d__law_apart, d__law_needed, d__law_alone, d__law_told, d__law_right, d_law, g_NoRule, g_SayError, g_NoSaying, g_NoTree, g_HasLetter, g_TooMany, g_Outside, g_NoLine, g_Nothing, x_NoRule, xc_NoRule, xi_NoRule, xi_NoSaying, xi_NoTree, xi_HasLetter, xi_TooMany, xi_Outside, xi_NoLine, xi_Nothing, xi_ValueError, xt_SayError, c_NEVER⟩ f fd F⟩

